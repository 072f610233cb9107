import PyProof.Rows.All
import Wide.All
import OpenK.AllK
import Wide.FinOn
import HandS.ForMost
import HandS.IsInst
import HandS.StrMore
import HandS.TupAny
import HandS.TupLe
import HandS.Conv
import PyProof.ReprRoads
import PyProof.RowDictHeap
import HandS.ExcInit
import HandS.TryMany
import HandS.ExcField
import HandS.ExcIs
import HandS.WordsExc
import KE.KExcIs
import HandS.Style
import HandS.More
import HandS.TryOnly
import HandS.DeepEq
import HandS.Iter
import HandS.OwnEq
import HandS.Rev
import HandS.DictEq
import PyProof.InstNe
import HandS.Codes
import HandS.HotCalls
import HandS.ExcValue
import HandS.ExcCtx
import HandS.Comp
import PySem.Challenge.RW_inorderonce_k00_errors
set_option Elab.async false
set_option linter.all false
set_option maxRecDepth 100000
set_option maxHeartbeats 8000000
/-! Z: own layer over the hand layer: readings that compute. -/
namespace Z
open PySem PySem.Spec PyProof.Rows L2

/-! ### heaps -/
/-- H2 is H with a new object at p -/
structure Nw (H : Hp) (p : Addr) (o : HO) (H2 : Hp) : Prop where
  fresh : H p = none
  here : H2 p = some o
  off : ∀ a, a ≠ p → H2 a = H a
/-- H2 is H with another object at l -/
structure Wr (H : Hp) (l : Addr) (o : HO) (H2 : Hp) : Prop where
  here : H2 l = some o
  off : ∀ a, a ≠ l → H2 a = H a
/-- all that was tracked is there, but for b -/
def But (b : Addr) (H H2 : Hp) : Prop := ∀ a o, a ≠ b → H a = some o → H2 a = some o
theorem nw {H : Hp} {p : Addr} {o : HO} (h : H p = none) : Nw H p o (upd H p o) := ⟨h, upd_same, fun _ e => upd_ne e⟩
theorem wr {H : Hp} {p : Addr} {o : HO} : Wr H p o (upd H p o) := ⟨upd_same, fun _ e => upd_ne e⟩
theorem Nw.keep {H H2 : Hp} {p a : Addr} {o u : HO} (n : Nw H p o H2) (h : H a = some u) : H2 a = some u := by
  rw [n.off a (ne_of_none h n.fresh)]
  exact h
theorem Nw.same {H H2 : Hp} {p : Addr} {o : HO} (n : Nw H p o H2) : Same H H2 := fun _ _ h => n.keep h
theorem Wr.keep {H H2 : Hp} {l a : Addr} {o u : HO} (n : Wr H l o H2) (e : a ≠ l) (h : H a = some u) : H2 a = some u := by
  rw [n.off a e]
  exact h
theorem Wr.but {H H2 : Hp} {l : Addr} {o : HO} (n : Wr H l o H2) : But l H H2 := fun a _ e h => n.keep e h
theorem Nw.but {H H2 : Hp} {p b : Addr} {o : HO} (n : Nw H p o H2) : But b H H2 := fun _ _ _ h => n.keep h
theorem But.refl (b : Addr) (H : Hp) : But b H H := fun _ _ _ h => h
theorem But.trans {b : Addr} {H H1 H2 : Hp} (x : But b H H1) (y : But b H1 H2) : But b H H2 := fun a o e h => y a o e (x a o e h)
theorem But.of {b : Addr} {H H1 : Hp} (x : Same H H1) : But b H H1 := fun a o _ h => x a o h
theorem But.at {b a : Addr} {o : HO} {H H1 : Hp} (x : But b H H1) (e : a ≠ b) (h : H a = some o) : H1 a = some o := x a o e h
/-- what was new to H and written later: H is kept -/
theorem _root_.L2.Same.wr {H H1 H2 : Hp} {l : Addr} {o : HO} (x : Same H H1) (f : H l = none) (w : Wr H1 l o H2) : Same H H2 := fun a u h =>
  w.keep (ne_of_none h f) (x a u h)
theorem _root_.L2.Same.but {H H1 H2 : Hp} {l : Addr} (x : Same H H1) (f : H l = none) (w : But l H1 H2) : Same H H2 := fun a u h =>
  w a u (ne_of_none h f) (x a u h)
theorem But.butNew {b l : Addr} {H H1 H2 : Hp} (x : But b H H1) (f : H l = none) (w : But l H1 H2) (hb : H b ≠ none → True) : But b H H2 := fun a u e h =>
  w a u (ne_of_none h f) (x a u e h)
theorem But.wr {b l : Addr} {o : HO} {H H1 H2 : Hp} (x : But b H H1) (f : H l = none) (w : Wr H1 l o H2) : But b H H2 := fun a u e h => w.keep (ne_of_none h f) (x a u e h)
theorem But.nw {b l : Addr} {o : HO} {H H1 H2 : Hp} (x : But b H H1) (w : Nw H1 l o H2) : But b H H2 := fun a u e h => w.keep (x a u e h)
theorem But.free {b l : Addr} {H H1 : Hp} (x : But b H H1) (e : l ≠ b) (f : H1 l = none) : H l = none := by
  cases q : H l with
  | none => rfl
  | some o =>
    rw [x l o e q] at f
    cases f
theorem sz {n : Nat} (h : n ≤ 16000000) : n ≤ sizeLine := Nat.le_trans h (by decide)
theorem szlt {n : Nat} (h : n ≤ 16000000) : n < sizeLine := Nat.lt_of_le_of_lt h (by decide)
theorem free_of {H H1 : Hp} {l : Addr} (x : Same H H1) (f : H1 l = none) : H l = none := x.free f

/-- the same of lists and tuples that are read -/
theorem sqL_same {K : PySem.W.Frag} {H H' : Hp} {a : Addr} {xs : List V} (e : Same H H') (h : SqL K H a xs) : SqL K H' a xs := e.seq h
theorem sqT_same {K : PySem.W.Frag} {H H' : Hp} {a : Addr} {xs : List V} (e : Same H H') (h : SqT K H a xs) : SqT K H' a xs := by
  rcases h with (h | ⟨o, h⟩) | h
  · exact .inl (.inl (e _ _ h))
  · exact .inl (.inr ⟨o, e _ _ h⟩)
  · exact .inr h

/-! ### names -/
def tV (i : Nat) : TE := fun σ H Q => match σ[i]? with
  | some (some v) => Q v H
  | _ => False
theorem tV_of {i : Nat} {σ : L2.St} {H : Hp} {Q : VK} (h : tV i σ H Q) : tVar i σ H Q := by
  unfold tV at h
  split at h
  · exact ⟨_, by assumption, h⟩
  · exact h.elim
section
variable {X : Cx}
theorem pz (i : Nat) {x : Str} {pos : Pos} (hN : X.N[i]? = some x := by rfl) (hv : Vis X.env.scope x := by first | exact Or.inl rfl | exact Or.inr (Or.inl rfl) | exact Or.inr (Or.inr rfl)) (hd : (x == ("__debug__" : Str)) = false := by decide)
    (hcd : (x == ("__classdict__" : Str)) = false := by decide) : PE X (.Name x pos) (tV i) :=
  ⟨fun pins s σ H Q I h => (pe_var hN hv hd hcd).run pins s σ H Q I (tV_of h)⟩
end

/-! ### operators on values, that compute -/
def zI (g : Int → Int → V) : R2 := fun x y H Q => match x, y with
  | .int i, .int j => Q (g i j) H
  | _, _ => False
def zIC (C : Int → Int → Prop) (g : Int → Int → V) : R2 := fun x y H Q => match x, y with
  | .int i, .int j => C i j ∧ Q (g i j) H
  | _, _ => False
theorem opr_w {X : Cx} {f : Value → Value → Sem Value} {r r' : R2} (h : OpR X f r') (i : ∀ x y H Q, r x y H Q → r' x y H Q) : OpR X f r :=
  fun pins s σ H x y v u Q I rx ry q => h pins s σ H x y v u Q I rx ry (i x y H Q q)
theorem zI_of {g : Int → Int → V} (x y : V) (H : Hp) (Q : VK) (h : zI g x y H Q) : rI0 g x y H Q := by
  unfold zI at h
  split at h
  · exact ⟨_, _, rfl, rfl, h⟩
  · exact h.elim
theorem zIC_of {C : Int → Int → Prop} {g : Int → Int → V} (x y : V) (H : Hp) (Q : VK) (h : zIC C g x y H Q) : rI C g x y H Q := by
  unfold zIC at h
  split at h
  · exact ⟨_, _, rfl, rfl, h.1, h.2⟩
  · exact h.elim
section
variable {X : Cx}
theorem o_sub : OpR X (binaryOp .Sub) (zI fun i j => .int (i - j)) := opr_w op_sub fun x y H Q h => zI_of x y H Q h
theorem o_mod : OpR X (binaryOp .Mod) (zIC (fun _ j => 0 < j) fun i j => .int (i % j)) := opr_w op_mod fun x y H Q h => zIC_of x y H Q h
theorem o_fdiv : OpR X (binaryOp .FloorDiv) (zIC CDiv fun i j => .int (i / j)) := opr_w op_fdiv fun x y H Q h => zIC_of x y H Q h
theorem o_pow : OpR X (binaryOp .Pow) (zIC CPow fun i j => .int (i ^ j.toNat)) := opr_w op_pow fun x y H Q h => zIC_of x y H Q h
/-- + : ints, texts, lists, tuples -/
def zAdd (K : PySem.W.Frag) : R2 := fun x y H Q => match x, y with
  | .int i, .int j => Q (.int (i + j)) H
  | .str a, .str b => a.length + b.length ≤ sizeLine ∧ Q (.str (a ++ b)) H
  | .ref l, .ref b =>
      (∃ xs zs, H l = some (.lst xs) ∧ H b = some (.lst zs) ∧ xs.length + zs.length ≤ sizeLine ∧ ∀ p H2, Nw H p (.lst (xs ++ zs)) H2 → Q (.ref p) H2) ∨
      (∃ xs zs, SqT K H l xs ∧ SqT K H b zs ∧ xs.length + zs.length ≤ sizeLine ∧ (xs = [] → Q (.ref b) H) ∧ (xs ≠ [] → zs = [] → Q (.ref l) H) ∧
        (xs ≠ [] → zs ≠ [] → ∀ p H2, Nw H p (.tup (xs ++ zs)) H2 → Q (.ref p) H2))
  | _, _ => False
theorem o_add : OpR X (binaryOp .Add) (zAdd X.K) := by
  intro pins s σ H x y v u Q I rx ry h
  unfold zAdd at h
  split at h
  · exact op_add pins s σ H _ _ v u Q I rx ry ⟨_, _, rfl, rfl, h⟩
  · exact op_add_str pins s σ H _ _ v u Q I rx ry ⟨_, _, rfl, rfl, h.1, h.2⟩
  · rcases h with ⟨xs, zs, h1, h2, h3, q⟩ | ⟨xs, zs, h1, h2, h3, q1, q2, q3⟩
    · exact op_cat pins s σ H _ _ v u Q I rx ry ⟨_, _, xs, zs, rfl, rfl, h1, h2, h3, fun p hp => q p _ (nw hp)⟩
    · exact op_catA pins s σ H _ _ v u Q I rx ry ⟨_, _, xs, zs, rfl, rfl, h1, h2, h3, q1, q2, fun a b p hp => q3 a b p _ (nw hp)⟩
  · exact h.elim
/-- a text so many times -/
def rep (x : Str) (n : Int) : Str := ⟨(List.replicate n.toNat x.cps.toList).flatten.toArray⟩
theorem rep_fold (l : List Nat) : ∀ (n : Nat) (acc : Array Nat), (List.replicate n l.toArray).foldl (· ++ ·) acc = acc ++ (List.replicate n l).flatten.toArray
  | 0, acc => by simp
  | n + 1, acc => by
    rw [List.replicate_succ, List.foldl_cons, rep_fold l n, List.replicate_succ, List.flatten_cons]
    simp [Array.append_assoc]
/-- * : ints, a text, a list -/
def zMul : R2 := fun x y H Q => match x, y with
  | .int i, .int j => CMul i j ∧ Q (.int (i * j)) H
  | .str a, .int n => -(2 ^ 62) ≤ n ∧ n < 2 ^ 62 ∧ a.length * n.toNat ≤ 1000000 ∧ Q (.str (rep a n)) H
  | .ref l, .int k => ∃ xs, H l = some (.lst xs) ∧ -(2 ^ 63) ≤ k ∧ k < 2 ^ 63 ∧ xs.length * k.toNat ≤ sizeLine ∧ ∀ p H2, Nw H p (.lst (List.replicate k.toNat xs).flatten) H2 → Q (.ref p) H2
  | _, _ => False
theorem str_size0 {a : Str} (h : a.length = 0) : a = Str.empty := by
  obtain ⟨c⟩ := a
  have h : c.size = 0 := h
  have : c = #[] := Array.eq_empty_of_size_eq_zero h
  rw [this]
  rfl
theorem o_mul : OpR X (binaryOp .Mult) zMul := by
  intro pins s σ H x y v u Q I rx ry h
  unfold zMul at h
  split at h
  · exact op_mul pins s σ H _ _ v u Q I rx ry ⟨_, _, rfl, rfl, h.1, h.2⟩
  · rename_i a n
    obtain ⟨h1, h2, h3, q⟩ := h
    obtain ⟨t, rfl⟩ := rx
    obtain ⟨t', rfl⟩ := ry
    have two : (2 : Int) ^ 62 = 4611686018427387904 := by decide
    have two3 : (2 : Int) ^ 63 = 9223372036854775808 := by decide
    refine PySem.P.mul_str ?_ (fun hn hz => ?_) (fun hn hz => ?_) ?_
    · rw [decide_eq_false (by omega), decide_eq_false (by omega)]
      rfl
    · intro hc
      have hn1 : 1 ≤ n := by omega
      have hd : ((2 : Int) ^ 63 - 1) / n * n ≤ 2 ^ 63 - 1 := Int.ediv_mul_le _ (by omega)
      have hlt : ((2 : Int) ^ 63 - 1) < (((2 : Int) ^ 63 - 1) / n + 1) * n := Int.lt_ediv_add_one_mul_self _ (by omega)
      have hle : (((2 : Int) ^ 63 - 1) / n + 1) * n ≤ (a.length : Int) * n := Int.mul_le_mul_of_nonneg_right (by omega) (by omega)
      have hcast : ((a.length * n.toNat : Nat) : Int) = (a.length : Int) * n := by
        rw [Int.natCast_mul, Int.toNat_of_nonneg (by omega)]
      omega
    · show decide (a.length * n.toNat > sizeLine) = false
      have hs : 1000000 ≤ sizeLine := by decide
      exact decide_eq_false (by omega)
    · have fit : (rep a n).length ≤ sizeLine := by
        have e : (rep a n).length = a.length * n.toNat := by
          show ((List.replicate n.toNat a.cps.toList).flatten.toArray).size = a.length * n.toNat
          rw [List.size_toArray, List.length_flatten, List.map_replicate, List.sum_replicate_nat, Array.length_toList, Nat.mul_comm]
          rfl
        have hs : 1000000 ≤ sizeLine := by decide
        omega
      have fin : ∀ (tk : Nat) (t' : Tok), EP X pins σ Q (.str (rep a n) t') { s with toks := tk } := fun tk t' => ⟨.str (rep a n), H, I.tok tk, ⟨t', rfl⟩, q⟩
      by_cases hn : n < 1
      · have e : rep a n = Str.empty := by
          have : n.toNat = 0 := by omega
          unfold rep
          rw [this]
          rfl
        rw [if_pos hn]
        rw [e] at fin
        exact ⟨by decide, fin _ _⟩
      · rw [if_neg hn]
        by_cases hz : (n == 1 || a.length == 0) = true
        · rw [if_pos hz]
          have e : rep a n = a := by
            rw [Bool.or_eq_true] at hz
            rcases hz with hz | hz
            · have : n = 1 := by simpa using hz
              subst this
              obtain ⟨c⟩ := a
              show (⟨(List.replicate (1 : Int).toNat c.toList).flatten.toArray⟩ : Str) = ⟨c⟩
              simp
            · have e0 := str_size0 (a := a) (by simpa using hz)
              subst e0
              unfold rep
              show (⟨(List.replicate n.toNat ([] : List Nat)).flatten.toArray⟩ : Str) = Str.empty
              rw [List.flatten_replicate_nil]
              rfl
          rw [e] at fin
          exact fin s.toks t
        · rw [if_neg hz]
          have e : (⟨(List.replicate n.toNat a.cps).foldl (· ++ ·) #[]⟩ : Str) = rep a n := by
            obtain ⟨c⟩ := a
            unfold rep
            have q := rep_fold c.toList n.toNat #[]
            simp only [Array.toArray_toList] at q
            rw [q]
            simp
          rw [e]
          exact ⟨fit, fin _ _⟩
  · obtain ⟨xs, h1, h2, h3, h4, q⟩ := h
    exact op_rep pins s σ H _ _ v u Q I rx ry ⟨_, _, xs, rfl, rfl, h1, h2, h3, h4, fun p hp => q p _ (nw hp)⟩
  · exact h.elim
end

/-! ### any rule, its end carried -/
def mon (t : TE) : TE := fun σ H Q => ∃ Q0 : VK, t σ H Q0 ∧ ∀ x H1, Q0 x H1 → Q x H1
def monA (t : TA) : TA := fun σ H Q => ∃ Q0 : List V → Hp → Prop, t σ H Q0 ∧ ∀ x H1, Q0 x H1 → Q x H1
def monR (r : R2) : R2 := fun x y H Q => ∃ Q0 : VK, r x y H Q0 ∧ ∀ x H1, Q0 x H1 → Q x H1
section
variable {X : Cx} {a b e o : Expr} {es rest : List Expr} {ta tb te to : TE} {t t' : TE} {pos : Pos}
theorem pe_w (h : PE X e t) (i : ∀ σ H Q, t' σ H Q → t σ H Q) : PE X e t' := ⟨fun pins s σ H Q I q => h.run pins s σ H Q I (i σ H Q q)⟩
theorem pt_w {t t' : TT} (h : PT X e t) (i : ∀ σ H Q, t' σ H Q → t σ H Q) : PT X e t' := ⟨fun pins s σ H Q I q => h.run pins s σ H Q I (i σ H Q q)⟩
theorem po_w {e : Option Expr} {t t' : TO} (h : PO X e t) (i : ∀ σ H Q, t' σ H Q → t σ H Q) : PO X e t' := ⟨fun pins s σ H Q I q => h.run pins s σ H Q I (i σ H Q q)⟩
theorem ps_w {st : Stmt} {t t' : TS} (h : PS X st t) (i : ∀ D σ H, t' D σ H → t D σ H) : PS X st t' := ⟨fun pins s σ H D I q => h.run pins s σ H D I (i D σ H q)⟩
theorem pg_w {g : Expr} {t t' : TG} (h : PG X g t) (i : ∀ v σ H Q, t' v σ H Q → t v σ H Q) : PG X g t' := ⟨fun pins s σ H v u Q I r q => h.run pins s σ H v u Q I r (i v σ H Q q)⟩
theorem pi_w {g e : Expr} {t t' : TI} (h : PI X g e t) (i : ∀ σ H R, t' σ H R → t σ H R) : PI X g e t' := ⟨fun pins s σ H R I q => h.run pins s σ H R I (i σ H R q)⟩
theorem callr_w {f : Value} {r r' : List V → Hp → VK → Prop} (h : CallR X f r') (i : ∀ vs H Q, r vs H Q → r' vs H Q) : CallR X f r :=
  fun pins s σ H xs us Q I rs q => h pins s σ H xs us Q I rs (i xs H Q q)
theorem pe_mon (h : PE X e t) : PE X e (mon t) := ⟨fun pins s σ H Q I ⟨Q0, q, i⟩ => thn (h.run pins s σ H Q0 I q) fun u s' ⟨v, H', I', r, z⟩ => ⟨v, H', I', r, i v H' z⟩⟩
theorem pa_mon {t : TA} (h : PA X es t) : PA X es (monA t) := ⟨fun pos pins s σ H Q I ⟨Q0, q, i⟩ => thn (h.run pos pins s σ H Q0 I q) fun u s' ⟨v, H', I', r, z⟩ => ⟨v, H', I', r, i v H' z⟩⟩
theorem opr_mon {f : Value → Value → Sem Value} {r : R2} (h : OpR X f r) : OpR X f (monR r) := fun pins s σ H x y v u Q I rx ry ⟨Q0, q, i⟩ =>
  thn (h pins s σ H x y v u Q0 I rx ry q) fun u s' ⟨v, H', I', r, z⟩ => ⟨v, H', I', r, i v H' z⟩

/-! ### tests and bools -/
/-- what follows of a bool -/
def zB (x : V) (H : Hp) (Q : Bool → Hp → Prop) : Prop := match x with
  | .bl k => Q k H
  | _ => False
theorem zB_of {x : V} {H : Hp} {Q : Bool → Hp → Prop} (h : zB x H Q) : ∃ k, x = .bl k ∧ Q k H := by
  unfold zB at h
  split at h
  · exact ⟨_, rfl, h⟩
  · exact h.elim
def tBz (t : TE) : TT := fun σ H Q => t σ H fun x H1 => zB x H1 Q
theorem pt_cmpZ {op : CmpOp} {r : R2} (ho : OpR X (compareOp op) r) (ha : PE X a ta) (hb : PE X b tb) (hm : behindInMarks op b = false) : PT X (.Compare a [op] [b] pos) (tBz (tOp r ta tb)) :=
  pt_w (pt_cmpR (opr_mon ho) (pe_mon ha) (pe_mon hb) hm) fun σ H Q h => ⟨_, h, fun x H1 h1 => ⟨_, h1, fun y H2 h2 => ⟨_, h2, fun z H3 h3 => zB_of h3⟩⟩⟩
theorem pt_chainZ {c : Expr} {tc : TE} {op op' : CmpOp} {r r' : R2} (h : PE X (.Compare a [op, op'] [b, c] pos) t) (he : ∀ whole, isTrue (.Compare a [op, op'] [b, c] pos) X.env whole = (do let v ← whole; standAt (Expr.Compare a [op, op'] [b, c] pos).pos; holding [v] (truthy v)) := by intro _; rfl) :
    PT X (.Compare a [op, op'] [b, c] pos) (tBz t) := pt_w (pt_val (pe_mon h) he) fun σ H Q h => ⟨_, h, fun x H1 h1 => zB_of h1⟩
/-- a < b < c as a value -/
def tChZ (r r' : R2) (ta tb tc : TE) : TE := fun σ H Q => ta σ H fun x H1 => tb σ H1 fun y H2 => r x y H2 fun z H3 => zB z H3 fun k H3 => if k = true then tc σ H3 fun w' H4 => r' y w' H4 Q else Q (.bl false) H3
theorem pe_chZ {c : Expr} {tc : TE} {op op' : CmpOp} {r r' : R2} (h : PE X (.Compare a [op, op'] [b, c] pos) (tChain (monR r) r' (mon ta) (mon tb) tc)) : PE X (.Compare a [op, op'] [b, c] pos) (tChZ r r' ta tb tc) :=
  pe_w h fun σ H Q h => ⟨_, h, fun x H1 h1 => ⟨_, h1, fun y H2 h2 => ⟨_, h2, fun z H3 h3 => zB_of h3⟩⟩⟩
/-- an expression's truth -/
def zTr (K : PySem.W.Frag) (x : V) (H : Hp) (Q : Bool → Hp → Prop) : Prop := match x with
  | .bl k => Q k H
  | .non => Q false H
  | .int i => Q (i != 0) H
  | .str y => y.length ≤ sizeLine ∧ Q ((y.length : Int) != 0) H
  | .ref p => (∃ xs, SqL K H p xs ∧ Q (!xs.isEmpty) H) ∨ (∃ xs, SqT K H p xs ∧ Q (!xs.isEmpty) H) ∨ ∃ kvs, H p = some (.dK kvs) ∧ Q (!kvs.isEmpty) H
  | _ => False
theorem zTr_of {K : PySem.W.Frag} {x : V} {H : Hp} {Q : Bool → Hp → Prop} (h : zTr K x H Q) : ∃ k, TruV K x H k ∧ Q k H := by
  unfold zTr at h
  split at h
  · exact ⟨_, rfl, h⟩
  · exact ⟨_, rfl, h⟩
  · exact ⟨_, rfl, h⟩
  · exact ⟨_, ⟨h.1, rfl⟩, h.2⟩
  · rcases h with ⟨xs, h, q⟩ | ⟨xs, h, q⟩ | ⟨kvs, h, q⟩
    · exact ⟨_, .inl ⟨xs, h, rfl⟩, q⟩
    · exact ⟨_, .inr (.inl ⟨xs, h, rfl⟩), q⟩
    · exact ⟨_, .inr (.inr ⟨kvs, h, rfl⟩), q⟩
  · exact h.elim
def tTr (K : PySem.W.Frag) (t : TE) : TT := fun σ H Q => t σ H fun x H1 => zTr K x H1 Q
theorem pt_tr (h : PE X a ta) (he : ∀ whole, isTrue a X.env whole = (do let v ← whole; standAt a.pos; holding [v] (truthy v)) := by intro _; rfl) : PT X a (tTr X.K ta) :=
  pt_w (pt_truth (pe_mon h) he) fun σ H Q h => ⟨_, h, fun x H1 h1 => zTr_of h1⟩
/-- and, or, not as values of bools -/
def tAndZ (ta tb : TE) : TE := fun σ H Q => ta σ H fun x H1 => zB x H1 fun c H1 => if c = true then tb σ H1 Q else Q (.bl false) H1
def tOrZ (ta tb : TE) : TE := fun σ H Q => ta σ H fun x H1 => zB x H1 fun c H1 => if c = true then Q (.bl true) H1 else tb σ H1 Q
def tNotZ (ta : TE) : TE := fun σ H Q => ta σ H fun x H1 => zB x H1 fun c H1 => Q (.bl (!c)) H1
theorem pe_andZ (ha : PE X a ta) (hb : PE X (.BoolOp .And (b :: rest) pos) tb) : PE X (.BoolOp .And (a :: b :: rest) pos) (tAndZ ta tb) :=
  pe_w (pe_and (pe_mon ha) hb) fun σ H Q h => ⟨_, h, fun x H1 h1 => zB_of h1⟩
theorem pe_orZ (ha : PE X a ta) (hb : PE X (.BoolOp .Or (b :: rest) pos) tb) : PE X (.BoolOp .Or (a :: b :: rest) pos) (tOrZ ta tb) :=
  pe_w (pe_or (pe_mon ha) hb) fun σ H Q h => ⟨_, h, fun x H1 h1 => zB_of h1⟩
theorem pe_notZ (ha : PE X a ta) : PE X (.UnaryOp .Not a pos) (tNotZ ta) := pe_w (pe_not (pe_mon ha)) fun σ H Q h => ⟨_, h, fun x H1 h1 => zB_of h1⟩

/-! ### comparisons -/
theorem o_lt : OpR X (compareOp .Lt) (zI fun i j => .bl (decide (i < j))) := opr_w op_lt fun x y H Q h => zI_of x y H Q h
theorem o_le : OpR X (compareOp .LtE) (zI fun i j => .bl (decide (i ≤ j))) := opr_w op_le fun x y H Q h => zI_of x y H Q h
theorem o_gt : OpR X (compareOp .Gt) (zI fun i j => .bl (decide (j < i))) := opr_w op_gt fun x y H Q h => zI_of x y H Q h
theorem o_ge : OpR X (compareOp .GtE) (zI fun i j => .bl (decide (j ≤ i))) := opr_w op_ge fun x y H Q h => zI_of x y H Q h
/-- < of two signs or ints -/
def zLt : R2 := fun x y H Q => match x, y with
  | .int i, .int j => Q (.bl (decide (i < j))) H
  | .str a, .str b => Q (.bl (decide (a.cps.toList < b.cps.toList))) H
  | _, _ => False
def zGt : R2 := fun x y H Q => match x, y with
  | .int i, .int j => Q (.bl (decide (j < i))) H
  | .str a, .str b => Q (.bl (decide (b.cps.toList < a.cps.toList))) H
  | _, _ => False
theorem o_ltS : OpR X (compareOp .Lt) zLt := by
  intro pins s σ H x y v u Q I rx ry h
  unfold zLt at h
  split at h
  · exact op_lt pins s σ H _ _ v u Q I rx ry ⟨_, _, rfl, rfl, h⟩
  · exact op_lt_str pins s σ H _ _ v u Q I rx ry ⟨_, _, rfl, rfl, h⟩
  · exact h.elim
theorem o_gtS : OpR X (compareOp .Gt) zGt := by
  intro pins s σ H x y v u Q I rx ry h
  unfold zGt at h
  split at h
  · exact op_gt pins s σ H _ _ v u Q I rx ry ⟨_, _, rfl, rfl, h⟩
  · exact op_gt_str pins s σ H _ _ v u Q I rx ry ⟨_, _, rfl, rfl, h⟩
  · exact h.elim
/-- == of plain things, of data -/
def zEq (K : PySem.W.Frag) (neg : Bool) : R2 := fun x y H Q => match scal x y with
  | true => Q (.bl (neg ^^ decide (x = y))) H
  | false => ∃ d e, Dp K H x d ∧ Dp K H y e ∧ SeqAt.shaped d = true ∧ SeqAt.shaped e = true ∧ Q (.bl (neg ^^ PyData.eqv d e)) H
theorem o_eq (hu : X.A.units + 64 < cLine) : OpR X (compareOp .Eq) (zEq X.K false) := by
  intro pins s σ H x y v u Q I rx ry h
  unfold zEq at h
  split at h
  · rename_i e
    exact op_eq pins s σ H x y v u Q I rx ry ⟨e, by simpa using h⟩
  · exact op_eqD hu pins s σ H x y v u Q I rx ry (by simpa [rEqD] using h)
theorem o_ne (hu : X.A.units + 64 < cLine) : OpR X (compareOp .NotEq) (zEq X.K true) := by
  intro pins s σ H x y v u Q I rx ry h
  unfold zEq at h
  split at h
  · rename_i e
    exact op_ne pins s σ H x y v u Q I rx ry ⟨e, by simpa using h⟩
  · exact op_neD hu pins s σ H x y v u Q I rx ry (by simpa [rNeD] using h)
/-- is None, is True, is False -/
def zIs (neg : Bool) : R2 := fun x y H Q => match y, x with
  | .non, x => Q (.bl (neg ^^ decide (x = .non))) H
  | .bl b, .bl a => Q (.bl (neg ^^ decide (a = b))) H
  | _, _ => False
theorem o_is : OpR X (compareOp .Is) (zIs false) := by
  intro pins s σ H x y v u Q I rx ry h
  unfold zIs at h
  split at h
  · exact op_isN pins s σ H _ _ v u Q I rx ry ⟨rfl, by simpa using h⟩
  · exact op_is_bl pins s σ H _ _ v u Q I rx ry ⟨_, _, rfl, rfl, by simpa using h⟩
  · exact h.elim
theorem o_isn : OpR X (compareOp .IsNot) (zIs true) := by
  intro pins s σ H x y v u Q I rx ry h
  unfold zIs at h
  split at h
  · exact op_notN pins s σ H _ _ v u Q I rx ry ⟨rfl, by simpa using h⟩
  · exact op_isnot_bl pins s σ H _ _ v u Q I rx ry ⟨_, _, rfl, rfl, by simpa using h⟩
  · exact h.elim
/-- in, not in: a sign in a text, a flat thing in a list or tuple -/
def zIn (K : PySem.W.Frag) (neg : Bool) : R2 := fun x y H Q => match y with
  | .str z => ∃ c : Nat, x = .str ⟨#[c]⟩ ∧ Q (.bl (neg ^^ decide (c ∈ z.cps.toList))) H
  | .ref p => ∃ xs, (SqL K H p xs ∨ SqT K H p xs) ∧ flatV x = true ∧ xs.all flatV = true ∧ Q (.bl (neg ^^ inV x xs)) H
  | _ => False
theorem o_in : OpR X (compareOp .In) (zIn X.K false) := by
  intro pins s σ H x y v u Q I rx ry h
  unfold zIn at h
  split at h
  · obtain ⟨c, rfl, q⟩ := h
    exact op_in_sign pins s σ H _ _ v u Q I rx ry ⟨c, _, rfl, rfl, by simpa using q⟩
  · obtain ⟨xs, h1, h2, h3, q⟩ := h
    exact op_in_seq pins s σ H _ _ v u Q I rx ry ⟨_, xs, rfl, h1, h2, h3, by simpa using q⟩
  · exact h.elim
theorem o_nin : OpR X (compareOp .NotIn) (zIn X.K true) := by
  intro pins s σ H x y v u Q I rx ry h
  unfold zIn at h
  split at h
  · obtain ⟨c, rfl, q⟩ := h
    exact op_notIn_sign pins s σ H _ _ v u Q I rx ry ⟨c, _, rfl, rfl, by simpa using q⟩
  · obtain ⟨xs, h1, h2, h3, q⟩ := h
    exact op_notIn_seq pins s σ H _ _ v u Q I rx ry ⟨_, xs, rfl, h1, h2, h3, by simpa using q⟩
  · exact h.elim

/-! ### items and slices -/
def zIx (K : PySem.W.Frag) : R2 := fun x y H Q => match x, y with
  | .str z, .int i => ∃ c, z.length ≤ sizeLine ∧ atI z.cps.toList i = some c ∧ Q (.str ⟨#[c]⟩) H
  | .ref p, .int i => ∃ xs v, (SqL K H p xs ∨ SqT K H p xs) ∧ atI xs i = some v ∧ Q v H
  | _, _ => False
theorem o_ix : IxR X (zIx X.K) := by
  intro value slice pins s σ H x y v u Q I rx ry h hs
  unfold zIx at h
  split at h
  · obtain ⟨c, h1, h2, q⟩ := h
    exact ix_str value slice pins s σ H _ _ v u Q I rx ry ⟨_, _, c, rfl, rfl, h1, h2, q⟩ hs
  · obtain ⟨xs, z, h1 | h1, h2, q⟩ := h
    · exact ix_list value slice pins s σ H _ _ v u Q I rx ry ⟨_, _, _, z, rfl, rfl, h1, h2, q⟩ hs
    · exact ix_tup value slice pins s σ H _ _ v u Q I rx ry ⟨_, _, _, z, rfl, rfl, h1, h2, q⟩ hs
  · exact h.elim
def zSl (K : PySem.W.Frag) : V → Option Int → Option Int → Hp → VK → Prop := fun x lo hi H Q => match x with
  | .str z => z.length ≤ sizeLine ∧ Q (.str (cutS z lo hi)) H
  | .ref a => (∃ xs, SqL K H a xs ∧ ∀ p H2, Nw H p (.lst (cutV xs lo hi)) H2 → Q (.ref p) H2) ∨
      (∃ xs, SqT K H a xs ∧ (HT.sIx xs.length 0 lo = 0 ∧ HT.sIx xs.length xs.length hi = xs.length → Q (.ref a) H) ∧
        (¬ (HT.sIx xs.length 0 lo = 0 ∧ HT.sIx xs.length xs.length hi = xs.length) → ∀ p H2, Nw H p (.tup (cutV xs lo hi)) H2 → Q (.ref p) H2))
  | _ => False
theorem o_sl : SlR X (zSl X.K) := by
  intro pins s σ H x v vl vu lo hi sl Q I rx hs pl pu h
  unfold zSl at h
  split at h
  · exact sl_str pins s σ H _ v vl vu lo hi sl Q I rx hs pl pu ⟨_, rfl, h.1, h.2⟩
  · rcases h with ⟨xs, h1, q⟩ | ⟨xs, h1, q1, q2⟩
    · exact sl_list pins s σ H _ v vl vu lo hi sl Q I rx hs pl pu ⟨_, xs, rfl, h1, fun p hp => q p _ (nw hp)⟩
    · exact sl_tupA pins s σ H _ v vl vu lo hi sl Q I rx hs pl pu ⟨_, xs, rfl, h1, q1, fun z p hp => q2 z p _ (nw hp)⟩
  · exact h.elim
def tPz (t : TE) : TO := fun σ H Q => t σ H fun x H1 => match x with
  | .int i => Q (some i) H1
  | _ => False
theorem po_z (h : PE X e te) : PO X (some e) (tPz te) := po_w (po_some (pe_mon h)) fun σ H Q h => ⟨_, h, fun x H1 h1 => by
  split at h1
  · exact ⟨_, rfl, h1⟩
  · exact h1.elim⟩

/-! ### displays -/
def tLz (t : TA) : TE := fun σ H Q => t σ H fun xs H1 => xs.length ≤ sizeLine ∧ ∀ p H2, Nw H1 p (.lst xs) H2 → Q (.ref p) H2
def tTz (t : TA) : TE := fun σ H Q => t σ H fun xs H1 => xs.length ≤ sizeLine ∧ ∀ p H2, Nw H1 p (.tup xs) H2 → Q (.ref p) H2
theorem pe_lz {t : TA} (h : PA X es t) : PE X (.List es pos) (tLz t) := pe_w (pe_lst (pa_mon h)) fun σ H Q h => ⟨_, h, fun xs H1 h1 => ⟨h1.1, fun p hp => h1.2 p _ (nw hp)⟩⟩
theorem pe_tz {t : TA} {x1} (h : PA X es t) : PE X (.Tuple es x1 pos) (tTz t) := pe_w (pe_tup (pa_mon h)) fun σ H Q h => ⟨_, h, fun xs H1 h1 => ⟨h1.1, fun p hp => h1.2 p _ (nw hp)⟩⟩

/-! ### calls of built-ins -/
def zLen (K : PySem.W.Frag) : List V → Hp → VK → Prop := fun vs H Q => match vs with
  | [.str z] => z.length ≤ sizeLine ∧ Q (.int z.length) H
  | [.ref p] => (∃ xs, (SqL K H p xs ∨ SqT K H p xs) ∧ Q (.int xs.length) H) ∨ ∃ kvs, H p = some (.dK kvs) ∧ Q (.int kvs.length) H
  | _ => False
theorem c_len : CallR X (.builtin "len") (zLen X.K) := by
  intro pins s σ H xs us Q I r h
  unfold zLen at h
  split at h
  · exact call_len_str pins s σ H _ us Q I r ⟨_, rfl, h.1, h.2⟩
  · rcases h with ⟨xs, h, q⟩ | ⟨kvs, h, q⟩
    · exact call_len_seq pins s σ H _ us Q I r ⟨_, xs, rfl, h, q⟩
    · exact call_lenD pins s σ H _ us Q I r ⟨_, kvs, rfl, h, q⟩
  · exact h.elim
def zInt : List V → Hp → VK → Prop := fun vs H Q => match vs with
  | [.int i] => Q (.int i) H
  | [.bl k] => Q (.int (if k then 1 else 0)) H
  | [.str a] => ∃ n, PySem.intText? a = some n ∧ a.length ≤ 640 ∧ Q (.int n) H
  | _ => False
theorem c_int : CallR X (.type "int") zInt := by
  intro pins s σ H xs us Q I r h
  unfold zInt at h
  split at h
  · exact call_int1 pins s σ H _ us Q I r (.inl ⟨_, rfl, h⟩)
  · exact call_int1 pins s σ H _ us Q I r (.inr ⟨_, rfl, h⟩)
  · obtain ⟨n, h1, h2, q⟩ := h
    exact call_int_str pins s σ H _ us Q I r ⟨_, n, rfl, h1, h2, q⟩
  · exact h.elim
def zStr : List V → Hp → VK → Prop := fun vs H Q => match vs with
  | [.int i] => i.natAbs.log2 < 1920 ∧ Q (.str (toString i)) H
  | _ => False
theorem c_str : CallR X (.type "str") zStr := callr_w call_str_int fun vs H Q h => by
  unfold zStr at h
  split at h
  · exact ⟨_, rfl, h.1, h.2⟩
  · exact h.elim
def zAbs : List V → Hp → VK → Prop := fun vs H Q => match vs with
  | [.int i] => Q (.int (if i < 0 then -i else i)) H
  | _ => False
theorem c_abs : CallR X (.builtin "abs") zAbs := callr_w call_abs fun vs H Q h => by
  unfold zAbs at h
  split at h
  · exact ⟨_, rfl, h⟩
  · exact h.elim
def zMax : List V → Hp → VK → Prop := fun vs H Q => match vs with
  | [.int i, .int j] => Q (.int (if j > i then j else i)) H
  | _ => False
theorem c_max (hc : X.calm = true) : CallR X (.builtin "max") zMax := callr_w (call_max2 hc) fun vs H Q h => by
  unfold zMax at h
  split at h
  · exact ⟨_, _, rfl, h⟩
  · exact h.elim
def zMin : List V → Hp → VK → Prop := fun vs H Q => match vs with
  | [.int i, .int j] => Q (.int (if j < i then j else i)) H
  | _ => False
theorem c_min (hc : X.calm = true) : CallR X (.builtin "min") zMin := callr_w (call_min2 hc) fun vs H Q h => by
  unfold zMin at h
  split at h
  · exact ⟨_, _, rfl, h⟩
  · exact h.elim
def zSum (K : PySem.W.Frag) : List V → Hp → VK → Prop := fun vs H Q => match vs with
  | [.ref p] => ∃ ns : List Int, SqL K H p (ns.map V.int) ∧ Q (.int ns.sum) H
  | _ => False
theorem c_sum (hc : X.calm = true) : CallR X (.builtin "sum") (zSum X.K) := callr_w (cr_sum hc) fun vs H Q h => by
  unfold zSum at h
  split at h
  · obtain ⟨ns, h, q⟩ := h
    exact ⟨_, ns, rfl, h, q⟩
  · exact h.elim
def zAll (K : PySem.W.Frag) : List V → Hp → VK → Prop := fun vs H Q => match vs with
  | [.ref p] => ∃ bs : List Bool, SqL K H p (bs.map V.bl) ∧ Q (.bl (bs.all id)) H
  | _ => False
theorem c_all (hc : X.calm = true) : CallR X (.builtin "all") (zAll X.K) := callr_w (cr_all hc) fun vs H Q h => by
  unfold zAll at h
  split at h
  · obtain ⟨ns, h, q⟩ := h
    exact ⟨_, ns, rfl, h, q⟩
  · exact h.elim
def zList (K : PySem.W.Frag) : List V → Hp → VK → Prop := fun vs H Q => match vs with
  | [.ref p] => ∃ ys, (SqL K H p ys ∨ SqT K H p ys) ∧ ∀ l H2, Nw H l (.lst ys) H2 → Q (.ref l) H2
  | _ => False
theorem c_list : CallR X (.type "list") (zList X.K) := callr_w call_list_of fun vs H Q h => by
  unfold zList at h
  split at h
  · obtain ⟨ys, h, q⟩ := h
    exact ⟨_, ys, rfl, h, fun l hl => q l _ (nw hl)⟩
  · exact h.elim
def zTuple (K : PySem.W.Frag) : List V → Hp → VK → Prop := fun vs H Q => match vs with
  | [.ref p] => ∃ ys, (SqL K H p ys ∧ ∀ l H2, Nw H l (.tup ys) H2 → Q (.ref l) H2) ∨ (SqT K H p ys ∧ Q (.ref p) H)
  | _ => False
theorem c_tuple : CallR X (.type "tuple") (zTuple X.K) := callr_w call_tuple_of fun vs H Q h => by
  unfold zTuple at h
  split at h
  · obtain ⟨ys, ⟨h, q⟩ | ⟨h, q⟩⟩ := h
    · exact ⟨_, ys, rfl, .inl ⟨h, fun l hl => q l _ (nw hl)⟩⟩
    · exact ⟨_, ys, rfl, .inr ⟨h, q⟩⟩
  · exact h.elim

/-! ### isinstance -/
def isK (k T : String) : Bool := k == T || (k == "bool" && T == "int")
/-- a value's kind -/
def KindV (K : PySem.W.Frag) (H : Hp) (x : V) (k : String) : Prop := match x with
  | .non => k = "NoneType"
  | .bl _ => k = "bool"
  | .int _ => k = "int"
  | .str _ => k = "str"
  | .ref p => (k = "list" ∧ ∃ xs, SqL K H p xs) ∨ (k = "tuple" ∧ ∃ xs, SqT K H p xs) ∨ (k = "dict" ∧ ((∃ kvs, H p = some (.dK kvs)) ∨ ∃ kvs, H p = some (.dT kvs)))
  | _ => False
theorem KindV.tyx {K : PySem.W.Frag} {H : Hp} {x : V} {k : String} (h : KindV K H x k) : TyX K H x (.type k) ∧ k ∈ ["NoneType", "bool", "int", "str", "list", "tuple", "dict"] := by
  unfold KindV at h
  split at h
  · subst h; exact ⟨.base .non, by simp⟩
  · subst h; exact ⟨.base (.bl _), by simp⟩
  · subst h; exact ⟨.base (.int _), by simp⟩
  · subst h; exact ⟨.base (.str _), by simp⟩
  · rcases h with ⟨rfl, xs, (h | ⟨o, h⟩) | ⟨o, its, n, h1, h2, _⟩⟩ | ⟨rfl, xs, (h | ⟨o, h⟩) | ⟨o, its, n, h1, h2, _⟩⟩ | ⟨rfl, ⟨kvs, h⟩ | ⟨kvs, h⟩⟩
    · exact ⟨.base (.lst h), by simp⟩
    · exact ⟨.base (.frz h), by simp⟩
    · exact ⟨.kList h1 h2, by simp⟩
    · exact ⟨.base (.tup h), by simp⟩
    · exact ⟨.fTuple h, by simp⟩
    · exact ⟨.kTuple h1 h2, by simp⟩
    · exact ⟨.base (.dK h), by simp⟩
    · exact ⟨.base (.dT h), by simp⟩
  · exact h.elim
theorem kit_isK {K : PySem.W.Frag} {k T : String} (hk : k ∈ ["NoneType", "bool", "int", "str", "list", "tuple", "dict"]) (hT : T ∈ ["bool", "int", "str", "list", "tuple", "dict"]) : PySem.W.kitOne K (.type k) (.type T) = some (isK k T) := by
  refine kit_ty ?_
  have all : (["NoneType", "bool", "int", "str", "list", "tuple", "dict"].all fun k => ["bool", "int", "str", "list", "tuple", "dict"].all fun T => kitB k T == some (isK k T)) = true := by decide +kernel
  have h1 := (List.all_eq_true.mp all) k hk
  have h2 := (List.all_eq_true.mp h1) T hT
  exact eq_of_beq h2
def zIsi (K : PySem.W.Frag) : List V → Hp → VK → Prop := fun vs H Q => match vs with
  | [x, .ty T] => T ∈ ["bool", "int", "str", "list", "tuple", "dict"] ∧ ∃ k, KindV K H x k ∧ Q (.bl (isK k T)) H
  | [x, .ref tp] => ∃ T U k, H tp = some (.tup [.ty T, .ty U]) ∧ T ∈ ["bool", "int", "str", "list", "tuple", "dict"] ∧ U ∈ ["bool", "int", "str", "list", "tuple", "dict"] ∧ KindV K H x k ∧ Q (.bl (isK k T || isK k U)) H
  | _ => False
theorem c_isi : CallR X (.builtin "isinstance") (zIsi X.K) := by
  intro pins s σ H xs us Q I r h
  unfold zIsi at h
  split at h
  · obtain ⟨hT, k, hk, q⟩ := h
    obtain ⟨h1, h2⟩ := hk.tyx
    exact call_isi pins s σ H _ us Q I r ⟨_, _, _, _, _, rfl, .ty _, h1, kit_isK h2 hT, q⟩
  · obtain ⟨T, U, k, hp, hT, hU, hk, q⟩ := h
    obtain ⟨h1, h2⟩ := hk.tyx
    refine call_isiT pins s σ H _ us Q I r ⟨_, _, _, _, _, _, rfl, hp, .cons (.ty T) (.cons (.ty U) .nil), h1, kitAny_cons (b := isK k T) (kit_isK h2 hT) (fun e => ?_) (fun e => ?_), q⟩
    · rw [e, Bool.false_or]
      refine kitAny_cons (kit_isK h2 hU) (fun e2 => ?_) (fun e2 => e2)
      rw [e2]
      rfl
    · rw [e]
      rfl
  · exact h.elim
end

/-! ### methods of built-in types -/
section
variable {X : Cx} {a b e o : Expr} {es : List Expr} {te to : TE} {t : TA} {name : Str} {apos cpos : Pos} {T id : String}
/-- a text's method -/
def tMs (r : Str → List V → Hp → VK → Prop) (to : TE) (t : TA) : TE := fun σ H Q => to σ H fun x H1 => match x with
  | .str a => t σ H1 fun xs H2 => r a xs H2 Q
  | _ => False
def tMs0 (r : Str → Hp → VK → Prop) (to : TE) : TE := fun σ H Q => to σ H fun x H1 => match x with
  | .str a => r a H1 Q
  | _ => False
def ofS (r : Str → List V → Hp → VK → Prop) : V → List V → Hp → VK → Prop := fun x xs H Q => ∃ a, x = .str a ∧ r a xs H Q
theorem pe_ms {r : Str → List V → Hp → VK → Prop} (slot : Slot "str" name id) (hty : typeOf (.builtin id) = pure (.type "method_descriptor")) (hm : MtR X id (ofS r)) (ho : PE X o to) (ha : PA X (e :: es) t)
    (hbase : attributeBase o name X.env (eval o X.env) = eval o X.env := by rfl)
    (hfew : ((backTo cpos (starEach (e :: es) X.env)).all (fun x => !x.1) && (backToKw cpos (keywordEach [] X.env)).all (fun x => x.1.isSome)
      && decide ((e :: es).length + ([] : List Keyword).length + (if ([] : List Keyword).isEmpty then 0 else 1) < 30)) = true := by rfl)
    (hline : (apos.endLine == cpos.line) = true := by rfl) (hs : starEach (e :: es) X.env = (false, eval e X.env) :: starEach es X.env := by rfl) (hplain : (backTo cpos (starEach es X.env)).any (·.1) = false := by rfl) :
    PE X (.Call (.Attribute o name apos) (e :: es) [] cpos) (tMs r to t) :=
  pe_w (pe_bm PySem.F.plainAttrs_str slot hty hm (pe_mon ho) (pa_mon ha) hbase hfew hline hs hplain) fun σ H Q h => ⟨_, h, fun x H1 h1 => by
    split at h1
    · exact ⟨rfl, _, h1, fun xs H2 h2 => ⟨_, rfl, h2⟩⟩
    · exact h1.elim⟩
theorem pe_ms0 {r : Str → Hp → VK → Prop} (slot : Slot "str" name id) (hty : typeOf (.builtin id) = pure (.type "method_descriptor")) (hm : MtR X id (ofS fun a xs H Q => xs = [] ∧ r a H Q)) (ho : PE X o to)
    (hbase : attributeBase o name X.env (eval o X.env) = eval o X.env := by rfl) (hline : (apos.endLine == cpos.line) = true := by rfl) :
    PE X (.Call (.Attribute o name apos) [] [] cpos) (tMs0 r to) :=
  pe_w (pe_bm0 PySem.F.plainAttrs_str slot hty hm (pe_mon ho) hbase hline) fun σ H Q h => ⟨_, h, fun x H1 h1 => by
    split at h1
    · exact ⟨rfl, _, rfl, rfl, h1⟩
    · exact h1.elim⟩
theorem mt_w {id : String} {r r' : V → List V → Hp → VK → Prop} (h : MtR X id r') (i : ∀ x vs H Q, r x vs H Q → r' x vs H Q) : MtR X id r :=
  fun pins s σ H x xs v us Q I rx rs q => h pins s σ H x xs v us Q I rx rs (i x xs H Q q)
def zJoin (K : PySem.W.Frag) : Str → List V → Hp → VK → Prop := fun a xs H Q => match xs with
  | [.ref p] => ∃ ys : List Str, (SqL K H p (ys.map V.str) ∨ SqT K H p (ys.map V.str)) ∧ (ys.map (·.length)).sum + ys.length * a.length ≤ 16777216 ∧ Q (.str (Txt.join a ys)) H
  | _ => False
theorem m_join : MtR X "str.join" (ofS (zJoin X.K)) := mt_w mt_join fun x vs H Q ⟨a, e, h⟩ => by
  unfold zJoin at h
  split at h
  · obtain ⟨ys, h1, h2, q⟩ := h
    exact ⟨a, _, ys, e, rfl, h1, h2, q⟩
  · exact h.elim
def zZfill : Str → List V → Hp → VK → Prop := fun a xs H Q => match xs with
  | [.int i] => PadOk i = true ∧ Q (.str (Txt.zfill a i)) H
  | _ => False
theorem m_zfill : MtR X "str.zfill" (ofS zZfill) := mt_w mt_zfill fun x vs H Q ⟨a, e, h⟩ => by
  unfold zZfill at h
  split at h
  · exact ⟨a, _, e, rfl, h.1, h.2⟩
  · exact h.elim
def zPure (g : Str → V) : Str → Hp → VK → Prop := fun a H Q => Q (g a) H
theorem m0_of {id : String} {g : Str → V} (h : MtR X id (fun x xs H Q => ∃ a, x = .str a ∧ xs = [] ∧ True ∧ Q (g a) H)) : MtR X id (ofS fun a xs H Q => xs = [] ∧ zPure g a H Q) :=
  mt_w h fun x vs H Q ⟨a, e, h1, h2⟩ => ⟨a, e, h1, trivial, h2⟩
theorem m_isascii : MtR X "str.isascii" (ofS fun a xs H Q => xs = [] ∧ zPure (fun a => .bl (Txt.isascii a)) a H Q) := m0_of mt_isascii
theorem m_isprintable : MtR X "str.isprintable" (ofS fun a xs H Q => xs = [] ∧ zPure (fun a => .bl (Txt.isprintable a)) a H Q) := m0_of mt_isprintable
theorem m_islower : MtR X "str.islower" (ofS fun a xs H Q => xs = [] ∧ zPure (fun a => .bl (Txt.islower a)) a H Q) := m0_of mt_islower
theorem m_isalpha : MtR X "str.isalpha" (ofS fun a xs H Q => xs = [] ∧ zPure (fun a => .bl (Txt.isalpha a)) a H Q) := m0_of mt_isalpha
theorem m_isdigit : MtR X "str.isdigit" (ofS fun a xs H Q => xs = [] ∧ zPure (fun a => .bl (Txt.isdigit a)) a H Q) := m0_of mt_isdigit
/-- a list's method -/
def tMl (K : PySem.W.Frag) (r : Addr → List V → Hp → VK → Prop) (to : TE) (t : TA) : TE := fun σ H Q => to σ H fun x H1 => match x with
  | .ref l => (∃ xs, SqL K H1 l xs) ∧ t σ H1 fun xs H2 => r l xs H2 Q
  | _ => False
def ofL (r : Addr → List V → Hp → VK → Prop) : V → List V → Hp → VK → Prop := fun x xs H Q => ∃ a, x = .ref a ∧ r a xs H Q
theorem pe_ml {r : Addr → List V → Hp → VK → Prop} (slot : Slot "list" name id) (hty : typeOf (.builtin id) = pure (.type "method_descriptor")) (hm : MtR X id (ofL r)) (ho : PE X o to) (ha : PA X (e :: es) t)
    (hbase : attributeBase o name X.env (eval o X.env) = eval o X.env := by rfl)
    (hfew : ((backTo cpos (starEach (e :: es) X.env)).all (fun x => !x.1) && (backToKw cpos (keywordEach [] X.env)).all (fun x => x.1.isSome)
      && decide ((e :: es).length + ([] : List Keyword).length + (if ([] : List Keyword).isEmpty then 0 else 1) < 30)) = true := by rfl)
    (hline : (apos.endLine == cpos.line) = true := by rfl) (hs : starEach (e :: es) X.env = (false, eval e X.env) :: starEach es X.env := by rfl) (hplain : (backTo cpos (starEach es X.env)).any (·.1) = false := by rfl) :
    PE X (.Call (.Attribute o name apos) (e :: es) [] cpos) (tMl X.K r to t) :=
  pe_w (pe_bm PySem.F.plainAttrs_list slot hty hm (pe_mon ho) (pa_mon ha) hbase hfew hline hs hplain) fun σ H Q h => ⟨_, h, fun x H1 h1 => by
    split at h1
    · exact ⟨.inl ⟨rfl, h1.1⟩, _, h1.2, fun xs H2 h2 => ⟨_, rfl, h2⟩⟩
    · exact h1.elim⟩
def zApp : Addr → List V → Hp → VK → Prop := fun l ys H Q => match ys with
  | [y] => ∃ xs, H l = some (.lst xs) ∧ xs.length < sizeLine ∧ ∀ H2, Wr H l (.lst (xs ++ [y])) H2 → Q .non H2
  | _ => False
theorem m_append : MtR X "list.append" (ofL zApp) := mt_w mt_append fun x vs H Q ⟨a, e, h⟩ => by
  unfold zApp at h
  split at h
  · obtain ⟨xs, h1, h2, q⟩ := h
    exact ⟨a, xs, _, e, rfl, h1, h2, q _ wr⟩
  · exact h.elim
end

/-! ### targets and statements -/
section
variable {X : Cx} {a b e o i : Expr} {es : List Expr} {te to ti : TE} {pos : Pos}
def zSetL : V → V → V → Hp → (Hp → Prop) → Prop := fun o i v H Q => match o, i with
  | .ref p, .int k => ∃ xs j, H p = some (.lst xs) ∧ ixN xs.length k = some j ∧ ∀ H2, Wr H p (.lst (xs.set j v)) H2 → Q H2
  | _, _ => False
theorem s_list : PSet X zSetL := by
  intro pins s σ H o i v ov iv u Q I ro ri rv h
  unfold zSetL at h
  split at h
  · obtain ⟨xs, j, h1, h2, q⟩ := h
    exact set_list pins s σ H _ _ v ov iv u Q I ro ri rv ⟨_, xs, _, j, rfl, rfl, h1, h2, q _ wr⟩
  · exact h.elim
def gCz (t : TG) (u : TGs) : TGs := fun vs σ H Q => match vs with
  | v :: r => t v σ H fun σ' H' => u r σ' H' Q
  | [] => False
def gNz : TGs := fun vs σ H Q => match vs with
  | [] => Q σ H
  | _ => False
theorem pgs_w {g : List Expr} {t t' : TGs} (h : PGs X g t) (i : ∀ v σ H Q, t' v σ H Q → t v σ H Q) : PGs X g t' := ⟨fun pins s σ H v u Q I r q => h.run pins s σ H v u Q I r (i v σ H Q q)⟩
theorem pgs_nz : PGs X [] gNz := pgs_w pgs_nil fun v σ H Q h => by
  unfold gNz at h
  split at h
  · exact ⟨rfl, h⟩
  · exact h.elim
theorem pgs_cz {t : TG} {u : TGs} (ht : PG X e t) (hu : PGs X es u) (hs : (assignEach (e :: es) X.env).map (·.2) = assign e X.env :: (assignEach es X.env).map (·.2) := by rfl) : PGs X (e :: es) (gCz t u) :=
  pgs_w (pgs_cons ht hu hs) fun v σ H Q h => by
    unfold gCz at h
    split at h
    · exact ⟨_, _, rfl, h⟩
    · exact h.elim
def gTz (K : PySem.W.Frag) (n : Nat) (t : TGs) : TG := fun v σ H Q => match v with
  | .ref a => ∃ xs, SqT K H a xs ∧ xs.length = n ∧ t xs σ H Q
  | _ => False
theorem pg_tz {k : Nat} {t : TGs} {n : Nat} (hc : X.calm = true) (h : PGs X es t) (hn : (assignEach es X.env).length = n := by rfl) (hst : (assignEach es X.env).findIdx? (·.1) = none := by rfl) : PG X (.Tuple es k pos) (gTz X.K n t) :=
  pg_w (pg_tup hc h hn hst) fun v σ H Q h => by
    unfold gTz at h
    split at h
    · obtain ⟨xs, h1, h2, q⟩ := h
      exact ⟨_, xs, rfl, h1, h2, q⟩
    · exact h.elim
def tPrz (i j : Nat) (ta : TA) : TS := fun D σ H => ta σ H fun vs H1 => match vs with
  | [v, w] => D.nx ((σ.set i (some v)).set j (some w)) H1
  | _ => False
theorem ps_parZ {i j : Nat} {x y : Str} {ta : TA} {px py pt : Pos} {kt k2 pt2} (hc : X.calm = true) (hN : X.N.Nodup) (hi : X.N[i]? = some x) (hj : X.N[j]? = some y) (hij : i ≠ j)
    (hx : X.env.scope.names.lookup x = some .local) (hy : X.env.scope.names.lookup y = some .local) (ha : PA X [a, b] ta)
    (hw : swappedStores [.Tuple [.Name x px, .Name y py] kt pt] (.Tuple [a, b] k2 pt2) X.env = pure (some [x, y]))
    (hs : swapsWithSole [.Tuple [.Name x px, .Name y py] kt pt] (.Tuple [a, b] k2 pt2) pos.line X.env = pure false := by rfl) :
    PS X (.Assign [.Tuple [.Name x px, .Name y py] kt pt] (.Tuple [a, b] k2 pt2) pos) (tPrz i j ta) :=
  ps_w (ps_par hc hN hi hj hij hx hy (pa_mon ha) hw hs) fun D σ H h => ⟨_, h, fun vs H1 h1 => by
    split at h1
    · exact ⟨_, _, rfl, h1⟩
    · exact h1.elim⟩
def tRngZ (ta : TA) : TI := fun σ H R => ta σ H fun vs H1 => match vs with
  | [.int j] => -(2 ^ 62) ≤ j ∧ j < 2 ^ 62 ∧ R (Itr 0 j.toNat) H1
  | _ => False
theorem pi_rngZ {tg : Expr} {p : Pos} {ta : TA} (hg : Gl X "range") (hm : X.mg "range" = none) (ha : PA X [a] ta) (hs : starEach [a] X.env = [(false, eval a X.env)] := by rfl) : PI X tg (.Call (.Name "range" p) [a] [] pos) (tRngZ ta) :=
  pi_w (pi_range1 hg hm (pa_mon ha) hs) fun σ H R h => ⟨_, h, fun vs H1 h1 => by
    split at h1
    · exact ⟨_, rfl, h1⟩
    · exact h1.elim⟩
def tItL (K : PySem.W.Frag) (te : TE) : TI := fun σ H R => te σ H fun x H1 => match x with
  | .ref a => (∃ xs, SqL K H1 a xs) ∧ R (Itl K a) H1
  | _ => False
theorem pi_lz {tg : Expr} (h : PE X e te) : PI X tg e (tItL X.K te) := pi_w (pi_list (pe_mon h)) fun σ H R h => ⟨_, h, fun x H1 h1 => by
  split at h1
  · exact ⟨_, rfl, h1.1, h1.2⟩
  · exact h1.elim⟩
def tItT (K : PySem.W.Frag) (te : TE) : TI := fun σ H R => te σ H fun x H1 => match x with
  | .ref a => (∃ xs, SqT K H1 a xs) ∧ R (Itt K a) H1
  | _ => False
theorem pi_tz {tg : Expr} (h : PE X e te) : PI X tg e (tItT X.K te) := pi_w (pi_tup (pe_mon h)) fun σ H R h => ⟨_, h, fun x H1 h1 => by
  split at h1
  · exact ⟨_, rfl, h1.1, h1.2⟩
  · exact h1.elim⟩
def tItS (te : TE) : TI := fun σ H R => te σ H fun x H1 => match x with
  | .str a => R (Its a) H1
  | _ => False
theorem pi_sz {tg : Expr} (h : PE X e te) : PI X tg e (tItS te) := pi_w (pi_str (pe_mon h)) fun σ H R h => ⟨_, h, fun x H1 h1 => by
  split at h1
  · exact ⟨_, rfl, h1⟩
  · exact h1.elim⟩
end

/-! ### defs -/
/-- a def that stands under its name: its contract -/
structure Ct (P : Program) (w : World) (K : PySem.W.Frag) (mg : Str → Option Value) (base : Heap) (CX : CXT) (k : Nat) (x : Str) (ps : List Str) (sp : Sp) : Prop where
  ex : ∃ f fd, mg x = some (.ref f) ∧ PySem.W.keepIn K (.ref f) = true ∧ Binds K fd ps [] ∧ FnOk P w K mg base CX k f fd ps sp ∧ ∃ oc od osl, K.lookup f = some ⟨oc, od, .func fd, osl⟩
/-- a def of the top as it stands -/
structure Df (K : PySem.W.Frag) (mg : Str → Option Value) (x : Str) (st : Stmt) (ps : List Str) : Prop where
  ex : ∃ f fd, Fun K x x st f fd ∧ mg x = some (.ref f) ∧ Binds K fd ps []
def tCl (sp : Sp) (E : XK) (t : TA) : TE := fun σ H Q => t σ H fun vs H1 => sp vs H1 Q E
section
variable {X : Cx} {CX : CXT} {k : Nat} {x : Str} {ps : List Str} {sp : Sp} {E : XK} {p pos : Pos} {e : Expr} {es : List Expr} {t : TA}
theorem pe_cl (C : Ct X.prog X.w X.K X.mg X.base CX k x ps sp) (hr : Room k X.A) (hx : Passes CX X E) (ha : PA X (e :: es) t) (hg : Gl X x := by rfl)
    (hdb : (x == ("__debug__" : Str)) = false := by decide)
    (he : starEach (e :: es) X.env = (false, eval e X.env) :: starEach es X.env := by rfl) (hpl : (backTo pos (starEach es X.env)).any (·.1) = false := by rfl) : PE X (.Call (.Name x p) (e :: es) [] pos) (tCl sp E t) := by
  obtain ⟨f, fd, hm, hk, hb, F, _⟩ := C.ex
  refine pe_w (pe_call F hr hg hm hk hb .nil hx ha hdb he hpl) fun σ H Q h => ?_
  show t σ H fun vs H1 => sp (vs ++ []) H1 Q E
  have e : (fun (vs : List V) (H1 : Hp) => sp (vs ++ []) H1 Q E) = fun vs H1 => sp vs H1 Q E := by
    funext vs H1
    rw [List.append_nil]
  rw [e]
  exact h
theorem pe_cl0 (C : Ct X.prog X.w X.K X.mg X.base CX k x ps sp) (hr : Room k X.A) (hx : Passes CX X E) (hg : Gl X x := by rfl) (hdb : (x == ("__debug__" : Str)) = false := by decide) : PE X (.Call (.Name x p) [] [] pos) (tCl sp E tNil) := by
  obtain ⟨f, fd, hm, hk, hb, F, _⟩ := C.ex
  exact pe_call0 F hr hg hm hk hb .nil hx hdb
end
/-- promises by the parameters -/
def sp1 (p : V → Hp → VK → XK → Prop) : Sp := fun vs H Q E => match vs with
  | [a] => p a H Q E
  | _ => False
def sp2 (p : V → V → Hp → VK → XK → Prop) : Sp := fun vs H Q E => match vs with
  | [a, b] => p a b H Q E
  | _ => False
def sp3 (p : V → V → V → Hp → VK → XK → Prop) : Sp := fun vs H Q E => match vs with
  | [a, b, c] => p a b c H Q E
  | _ => False
def sp4 (p : V → V → V → V → Hp → VK → XK → Prop) : Sp := fun vs H Q E => match vs with
  | [a, b, c, d] => p a b c d H Q E
  | _ => False
theorem sp1_of {p : V → Hp → VK → XK → Prop} {vs : List V} {H : Hp} {Q : VK} {E : XK} (h : sp1 p vs H Q E) : ∃ a, vs = [a] ∧ p a H Q E := by
  unfold sp1 at h
  split at h
  · exact ⟨_, rfl, h⟩
  · exact h.elim
theorem sp2_of {p : V → V → Hp → VK → XK → Prop} {vs : List V} {H : Hp} {Q : VK} {E : XK} (h : sp2 p vs H Q E) : ∃ a b, vs = [a, b] ∧ p a b H Q E := by
  unfold sp2 at h
  split at h
  · exact ⟨_, _, rfl, h⟩
  · exact h.elim
theorem sp3_of {p : V → V → V → Hp → VK → XK → Prop} {vs : List V} {H : Hp} {Q : VK} {E : XK} (h : sp3 p vs H Q E) : ∃ a b c, vs = [a, b, c] ∧ p a b c H Q E := by
  unfold sp3 at h
  split at h
  · exact ⟨_, _, _, rfl, h⟩
  · exact h.elim
theorem sp4_of {p : V → V → V → V → Hp → VK → XK → Prop} {vs : List V} {H : Hp} {Q : VK} {E : XK} (h : sp4 p vs H Q E) : ∃ a b c d, vs = [a, b, c, d] ∧ p a b c d H Q E := by
  unfold sp4 at h
  split at h
  · exact ⟨_, _, _, _, rfl, h⟩
  · exact h.elim
section
variable {P : Program} {w : World} {K : PySem.W.Frag} {mg : Str → Option Value} {base : Heap}
theorem fun_at {x q : Str} {st : Stmt} {f : Addr} {fd : FuncData} (F : Fun K x q st f fd) : ∃ oc od osl, K.lookup f = some ⟨oc, od, .func fd, osl⟩ := by
  obtain ⟨oc, od, _, _, _, _, _, _, osl, _, h, _⟩ := F.ex
  exact ⟨oc, od, osl, h⟩
/-- the same def called by names alone, the names in the order ks: g puts the values in the parameters' order -/
structure CtK (P : Program) (w : World) (K : PySem.W.Frag) (mg : Str → Option Value) (base : Heap) (CX : CXT) (k : Nat) (x : Str) (ps ks : List Str) (g : {α : Type} → List α → List α) (sp : Sp) : Prop where
  ex : ∃ f fd, mg x = some (.ref f) ∧ PySem.W.keepIn K (.ref f) = true ∧ (∀ (s : Shared) (ws : List Value), (g ws).length = ps.length → BindsTo s fd ⟨[], ks.zip ws⟩ (ps.zip (g ws))) ∧
    (∀ {zs : List V} {ws : List Value}, Vals zs ws → Vals (g zs) (g ws)) ∧ FnOk P w K mg base CX k f fd ps sp
theorem Ct.kw {CX : CXT} {k : Nat} {x : Str} {st : Stmt} {ps ks : List Str} {g : {α : Type} → List α → List α} {sp : Sp} (C : Ct P w K mg base CX k x ps sp) (D : Df K mg x st ps)
    (h : ∀ (kV doc pm : Value) (an : Option Addr) (cdv ct : Value) (ws : List Value), (g ws).length = ps.length → bindArgs (PySem.W.fnOf x x (defArgs st) (defBody st) (defScope st) .none kV doc pm an cdv ct) ⟨[], ks.zip ws⟩ = pure (ps.zip (g ws)))
    (hg : ∀ {zs : List V} {ws : List Value}, Vals zs ws → Vals (g zs) (g ws)) : CtK P w K mg base CX k x ps ks g sp := by
  obtain ⟨f, fd, hm, hk, hb, F, oc, od, osl, hl⟩ := C.ex
  obtain ⟨f', fd', F', hm', _⟩ := D.ex
  have e : f = f' := by
    rw [hm] at hm'
    cases hm'
    rfl
  subst e
  obtain ⟨oc', od', kV, doc, pm, an, cdv, ct, osl', rfl, hl', _⟩ := F'.ex
  have e2 : fd = PySem.W.fnOf x x (defArgs st) (defBody st) (defScope st) .none kV doc pm an cdv ct := by
    rw [hl] at hl'
    cases hl'
    rfl
  subst e2
  exact ⟨f, _, hm, hk, fun s ws hlen => .of_eq (h kV doc pm an cdv ct ws hlen), hg, F⟩
/-- f(k = v, ..) -/
def tClK (g : {α : Type} → List α → List α) (sp : Sp) (E : XK) (t : TA) : TE := fun σ H Q => t σ H fun zs H1 => sp (g zs) H1 Q E
theorem pe_clK {X : Cx} {CX : CXT} {k : Nat} {x : Str} {ps ks : List Str} {g : {α : Type} → List α → List α} {sp : Sp} {E : XK} {p pos : Pos} {kws : List Keyword} {t : TA} (C : CtK X.prog X.w X.K X.mg X.base CX k x ps ks g sp) (hr : Room k X.A) (hx : Passes CX X E)
    (hkw : PK X kws t) (hg : Gl X x := by rfl) (hall : (backToKw pos (keywordEach kws X.env)).all (·.1.isSome) = true := by rfl) (hks : (backToKw pos (keywordEach kws X.env)).filterMap (·.1) = ks := by rfl)
    (hdb : (x == ("__debug__" : Str)) = false := by decide)
    (hpl : ((backTo pos (starEach [] X.env)).any (·.1) || (backToKw pos (keywordEach kws X.env)).any (·.1.isNone)) = false := by rfl) :
    PE X (.Call (.Name x p) [] kws pos) (tClK g sp E t) := by
  obtain ⟨f, fd, hm, hk, hb, hrel, F⟩ := C.ex
  refine ⟨fun pins s σ H Q I h => wpAny_Call_Name_kw (ld_glob I hg hm ?_ hdb)⟩
  refine PySem.W.callWith_KW0 (h₀ := X.base) I.ok.mod.kin hk hall (thn (hkw.run pos pins s σ H _ I h) fun ws s1 ⟨zs, H1, I1, rz, q⟩ => ⟨I1.kIn, ?_⟩) hpl
  rw [hks]
  have r2 := hrel rz
  have hl : (g ws).length = ps.length := by
    rw [← r2.length]
    exact F.len _ _ _ _ q
  refine wpAny_call (codeAny_mono (F.run X.A X.stack s1 H1 ⟨[], ks.zip ws⟩ (g ws) (g zs) Q E hr I1.env0 (hb s1 ws hl) r2 q) fun r s' hq => ?_)
  match r, hq with
  | .error e, hq => exact hx pins σ H1 s1 e s' I1 hq
  | .ok (.ret u), hq => exact I1.after hq
  | .ok .next, hq => exact False.elim hq
  | .ok .brk, hq => exact False.elim hq
  | .ok .cont, hq => exact False.elim hq
/-- a def that raises nothing, one parameter -/
theorem ct1 {x : Str} {st : Stmt} {a : Str} {N : List Str} {k : Nat} {p : V → Hp → VK → XK → Prop} (D : Df K mg x st [a]) (S : FnScope N [a] (defScope st))
    (body : ∀ (f : Addr) (cdv : Value) (A : Around) (outer : List Env) (s : Shared) (H : Hp) (u : V) (Q : VK) (E : XK), Room k (A.deeper (envOfC x (defScope st) s.heap.objs.size f cdv)) → p u H Q E →
      ∃ t, PSs (cxOf CX0 P w K mg base N x (defScope st) f cdv A outer s H E).nox (defBody st) t ∧ t { nx := fun _ H' => Q .non H', rt := Q } (start N [u]) H) : Ct P w K mg base CX0 (k + 1) x [a] (sp1 p) := by
  obtain ⟨f, fd, F, hm, hb⟩ := D.ex
  refine ⟨f, fd, hm, F.kp, hb, F.ok S (fun vs H Q E h => ?_) (fun cdv A outer s H vs Q E hr h => ?_), fun_at F⟩
  · obtain ⟨u, rfl, _⟩ := sp1_of h
    rfl
  · obtain ⟨u, rfl, h⟩ := sp1_of h
    exact body f cdv A outer s H u Q E hr h
theorem ct2 {x : Str} {st : Stmt} {a b : Str} {N : List Str} {k : Nat} {p : V → V → Hp → VK → XK → Prop} (D : Df K mg x st [a, b]) (S : FnScope N [a, b] (defScope st))
    (body : ∀ (f : Addr) (cdv : Value) (A : Around) (outer : List Env) (s : Shared) (H : Hp) (u v : V) (Q : VK) (E : XK), Room k (A.deeper (envOfC x (defScope st) s.heap.objs.size f cdv)) → p u v H Q E →
      ∃ t, PSs (cxOf CX0 P w K mg base N x (defScope st) f cdv A outer s H E).nox (defBody st) t ∧ t { nx := fun _ H' => Q .non H', rt := Q } (start N [u, v]) H) : Ct P w K mg base CX0 (k + 1) x [a, b] (sp2 p) := by
  obtain ⟨f, fd, F, hm, hb⟩ := D.ex
  refine ⟨f, fd, hm, F.kp, hb, F.ok S (fun vs H Q E h => ?_) (fun cdv A outer s H vs Q E hr h => ?_), fun_at F⟩
  · obtain ⟨u, v, rfl, _⟩ := sp2_of h
    rfl
  · obtain ⟨u, v, rfl, h⟩ := sp2_of h
    exact body f cdv A outer s H u v Q E hr h
theorem ct3 {x : Str} {st : Stmt} {a b c : Str} {N : List Str} {k : Nat} {p : V → V → V → Hp → VK → XK → Prop} (D : Df K mg x st [a, b, c]) (S : FnScope N [a, b, c] (defScope st))
    (body : ∀ (f : Addr) (cdv : Value) (A : Around) (outer : List Env) (s : Shared) (H : Hp) (u v y : V) (Q : VK) (E : XK), Room k (A.deeper (envOfC x (defScope st) s.heap.objs.size f cdv)) → p u v y H Q E →
      ∃ t, PSs (cxOf CX0 P w K mg base N x (defScope st) f cdv A outer s H E).nox (defBody st) t ∧ t { nx := fun _ H' => Q .non H', rt := Q } (start N [u, v, y]) H) : Ct P w K mg base CX0 (k + 1) x [a, b, c] (sp3 p) := by
  obtain ⟨f, fd, F, hm, hb⟩ := D.ex
  refine ⟨f, fd, hm, F.kp, hb, F.ok S (fun vs H Q E h => ?_) (fun cdv A outer s H vs Q E hr h => ?_), fun_at F⟩
  · obtain ⟨u, v, y, rfl, _⟩ := sp3_of h
    rfl
  · obtain ⟨u, v, y, rfl, h⟩ := sp3_of h
    exact body f cdv A outer s H u v y Q E hr h
theorem ct4 {x : Str} {st : Stmt} {a b c d : Str} {N : List Str} {k : Nat} {p : V → V → V → V → Hp → VK → XK → Prop} (D : Df K mg x st [a, b, c, d]) (S : FnScope N [a, b, c, d] (defScope st))
    (body : ∀ (f : Addr) (cdv : Value) (A : Around) (outer : List Env) (s : Shared) (H : Hp) (u v y z : V) (Q : VK) (E : XK), Room k (A.deeper (envOfC x (defScope st) s.heap.objs.size f cdv)) → p u v y z H Q E →
      ∃ t, PSs (cxOf CX0 P w K mg base N x (defScope st) f cdv A outer s H E).nox (defBody st) t ∧ t { nx := fun _ H' => Q .non H', rt := Q } (start N [u, v, y, z]) H) : Ct P w K mg base CX0 (k + 1) x [a, b, c, d] (sp4 p) := by
  obtain ⟨f, fd, F, hm, hb⟩ := D.ex
  refine ⟨f, fd, hm, F.kp, hb, F.ok S (fun vs H Q E h => ?_) (fun cdv A outer s H vs Q E hr h => ?_), fun_at F⟩
  · obtain ⟨u, v, y, z, rfl, _⟩ := sp4_of h
    rfl
  · obtain ⟨u, v, y, z, rfl, h⟩ := sp4_of h
    exact body f cdv A outer s H u v y z Q E hr h
end

/-! ### loops over known items -/
/-- the iterator J gives these items while S stands -/
structure Wk (J : It) (items : List V) (S : Hp → Prop) : Prop where
  go : ∀ i H, S H → i < items.length → J.go i H
  stop : ∀ H, S H → J.stop items.length H
  yld : ∀ i H x H', S H → i < items.length → J.yld i H x H' → H' = H ∧ items[i]? = some x
theorem wk_list {K : PySem.W.Frag} {a : Addr} (xs : List V) : Wk (Itl K a) xs (fun H => SqL K H a xs) where
  go i H s h := ⟨xs, xs[i], s, by simp [h]⟩
  stop H s := ⟨xs, s, Nat.le_refl _⟩
  yld i H x H' s _ y := ⟨y.1, y.2 xs s⟩
theorem wk_tup {K : PySem.W.Frag} {a : Addr} (xs : List V) : Wk (Itt K a) xs (fun H => SqT K H a xs) where
  go i H s h := ⟨xs, xs[i], s, by simp [h]⟩
  stop H s := ⟨xs, s, Nat.le_refl _⟩
  yld i H x H' s _ y := ⟨y.1, y.2 xs s⟩
def rngV (lo : Int) (n : Nat) : List V := (List.range n).map fun (i : Nat) => V.int (lo + i)
theorem rngV_len (lo : Int) (n : Nat) : (rngV lo n).length = n := by simp [rngV]
theorem rngV_get {lo : Int} {n i : Nat} (h : i < n) : (rngV lo n)[i]? = some (.int (lo + i)) := by
  rw [rngV, List.getElem?_map, List.getElem?_range h]
  rfl
theorem rngV_at {lo : Int} {n i : Nat} {x : V} (h : (rngV lo n)[i]? = some x) : i < n ∧ x = .int (lo + i) := by
  have hi : i < n := by
    have q := (List.getElem?_eq_some_iff.mp h).1
    rw [rngV_len] at q
    exact q
  rw [rngV_get hi] at h
  exact ⟨hi, (Option.some.inj h).symm⟩
theorem wk_rng (lo : Int) (n : Nat) : Wk (Itr lo n) (rngV lo n) (fun _ => True) where
  go i H _ h := by
    rw [rngV_len] at h
    exact h
  stop H _ := by
    show n ≤ (rngV lo n).length
    rw [rngV_len]
    exact Nat.le_refl n
  yld i H x H' s h y := by
    rw [rngV_len] at h
    obtain ⟨y1, y2⟩ := y
    exact ⟨y1, by rw [y2, rngV_get h]⟩
def signV (c : Nat) : V := V.str ⟨#[c]⟩
def signsV (x : Str) : List V := x.cps.toList.map signV
theorem wk_str (x : Str) : Wk (Its x) (signsV x) (fun _ => True) where
  go i H _ h := by
    rw [signsV, List.length_map, Array.length_toList] at h
    exact h
  stop H _ := by
    show x.cps.size ≤ (signsV x).length
    rw [signsV, List.length_map, Array.length_toList]
    exact Nat.le_refl _
  yld i H v H' s h y := by
    obtain ⟨y1, c, y2, y3⟩ := y
    refine ⟨y1, ?_⟩
    rw [signsV, List.getElem?_map, Array.getElem?_toList, y2, y3]
    rfl
/-- for: the invariant by the turn -/
theorem for_w {J : It} {items : List V} {S : Hp → Prop} (wk : Wk J items S) {g : TG} {tb : TS} {D : Ends} {σ : L2.St} {H : Hp} (Pv : Nat → L2.St → Hp → Prop) (h0 : Pv 0 σ H) (hS : ∀ i σ H, Pv i σ H → S H)
    (hs : ∀ i x σ H, items[i]? = some x → Pv i σ H → g x σ H fun σ2 H2 => tb { D with nx := Pv (i + 1), ct := Pv (i + 1), bk := D.nx } σ2 H2) (hd : ∀ σ H, Pv items.length σ H → D.nx σ H) :
    ∃ W : Nat → Nat → L2.St → Hp → Prop, (∃ m, W 0 m σ H) ∧ ∀ i m σ H, W i m σ H →
      (J.stop i H ∧ D.nx σ H) ∨ (J.go i H ∧ ∃ N : L2.St → Hp → Prop, (∀ σ' H', N σ' H' → ∃ m', m' < m ∧ W (i + 1) m' σ' H') ∧ ∀ x H', J.yld i H x H' → g x σ H' fun σ2 H2 => tb { D with nx := N, ct := N, bk := D.nx } σ2 H2) := by
  refine ⟨fun i m σ H => m = items.length - i ∧ i ≤ items.length ∧ Pv i σ H, ⟨_, rfl, Nat.zero_le _, h0⟩, ?_⟩
  rintro i m σ H ⟨rfl, hi, p⟩
  have s := hS i σ H p
  rcases Nat.lt_or_ge i items.length with hlt | hge
  · refine .inr ⟨wk.go i H s hlt, Pv (i + 1), fun σ' H' p' => ⟨items.length - (i + 1), by omega, rfl, hlt, p'⟩, fun x H' y => ?_⟩
    obtain ⟨rfl, hx⟩ := wk.yld i H x H' s hlt y
    exact hs i x σ _ hx p
  · have e : i = items.length := Nat.le_antisymm hi hge
    subst e
    exact .inl ⟨wk.stop H s, hd σ H p⟩

/-! ### comprehensions -/
def monI (t : TI) : TI := fun σ H R => ∃ R0 : It → Hp → Prop, t σ H R0 ∧ ∀ J H1, R0 J H1 → R J H1
def monG (t : TG) : TG := fun v σ H Q => ∃ Q0 : L2.St → Hp → Prop, t v σ H Q0 ∧ ∀ σ1 H1, Q0 σ1 H1 → Q σ1 H1
def monT (t : TT) : TT := fun σ H Q => ∃ Q0 : Bool → Hp → Prop, t σ H Q0 ∧ ∀ b H1, Q0 b H1 → Q b H1
theorem pi_mon {X : Cx} {g e : Expr} {t : TI} (h : PI X g e t) : PI X g e (monI t) := ⟨fun pins s σ H R I ⟨R0, q, i⟩ =>
  thn (h.run pins s σ H R0 I q) fun v s1 h1 => thn h1 fun u s2 ⟨it, fp, tn, J, H', a1, a2, a3, a4, a5, a6⟩ => ⟨it, fp, tn, J, H', a1, a2, a3, a4, a5, i _ _ a6⟩⟩
theorem pg_mon {X : Cx} {g : Expr} {t : TG} (h : PG X g t) : PG X g (monG t) := ⟨fun pins s σ H v u Q I r ⟨Q0, q, i⟩ =>
  thn (h.run pins s σ H v u Q0 I r q) fun _ s1 ⟨σ', H', a, b⟩ => ⟨σ', H', a, i _ _ b⟩⟩
theorem pts_mon {X : Cx} {es : List Expr} {t : TT} (h : PTs X es t) : PTs X es (monT t) := ⟨fun pins s σ H Q I ⟨Q0, q, i⟩ =>
  thn (h.run pins s σ H Q0 I q) fun b s1 ⟨H', a, c⟩ => ⟨H', a, i _ _ c⟩⟩
/-- [te for g in wi if tt]: W by the turn, a measure, the list so far -/
def tLcz (wi : TI) (g : TG) (tt : TT) (te : TE) (vs : List Nat) : TE := fun σ H Q => wi σ H fun J H1 => ∀ D, H1 D = none → ∃ W : Nat → Nat → List V → Hp → Prop, (∃ m, ∀ H2, Nw H1 D (.lst []) H2 → W 0 m [] H2) ∧
  ∀ i m acc H, H D = some (.lst acc) → W i m acc H → (J.stop i H ∧ Q (.ref D) H) ∨
    (acc.length < sizeLine ∧ J.go i H ∧ ∃ Nx : List V → Hp → Prop, (∀ a' H', Nx a' H' → ∃ m', m' < m ∧ W (i + 1) m' a' H') ∧ ∀ x H', J.yld i H x H' → g x (wipe σ vs) H' fun σ2 H2 => wipe σ2 vs = wipe σ vs ∧ tt σ2 H2 fun b H3 =>
      if b = true then te σ2 H3 fun y H4 => H4 D = some (.lst acc) ∧ ∀ H5, Wr H4 D (.lst (acc ++ [y])) H5 → Nx (acc ++ [y]) H5 else H3 D = some (.lst acc) ∧ Nx acc H3)
theorem tLcz_of {wi : TI} {g : TG} {tt : TT} {te : TE} {vs : List Nat} {σ : L2.St} {H : Hp} {Q : VK} (h : tLcz wi g tt te vs σ H Q) : tLc (monI wi) (monG g) (monT tt) (mon te) vs σ H Q := by
  refine ⟨_, h, fun J H1 h1 D hD => ?_⟩
  obtain ⟨W, ⟨m, w0⟩, step⟩ := h1 D hD
  refine ⟨fun i m H => ∃ acc, H D = some (.lst acc) ∧ W i m acc H, ⟨m, [], upd_same, w0 _ (nw hD)⟩, ?_⟩
  rintro i m H ⟨acc, hacc, w⟩
  rcases step i m acc H hacc w with q | ⟨hz, go, Nx, hN, body⟩
  · exact .inl q
  · refine .inr ⟨go, fun H' => ∃ acc, H' D = some (.lst acc) ∧ Nx acc H', fun H' ⟨a', e, n⟩ => ?_, fun x H' y => ?_⟩
    · obtain ⟨m', l, w'⟩ := hN a' H' n
      exact ⟨m', l, a', e, w'⟩
    · refine ⟨_, body x H' y, fun σ2 H2 ⟨e, h2⟩ => ⟨e, _, h2, fun b H3 h3 => ?_⟩⟩
      cases b with
      | true =>
        rw [if_pos rfl] at h3 ⊢
        exact ⟨_, h3, fun z H4 h4 => ⟨acc, h4.1, hz, _, upd_same, h4.2 _ wr⟩⟩
      | false =>
        rw [if_neg Bool.false_ne_true] at h3 ⊢
        exact ⟨acc, h3.1, h3.2⟩
theorem pe_lcz {X : Cx} {elt tg iter : Expr} {ifs : List Expr} {scope : Scope} {own : List (Str × Nat)} {pos : Pos} {wi : TI} {g : TG} {tt : TT} {te : TE} (hc : X.calm = true) (hN : X.N.Nodup) (hi : PI X tg iter wi) (ok : BlkOk X.N X.env.scope scope own)
    (hg : ∀ (s : Shared) (H : Hp) (C : Addr) (cl : List (Str × Addr)) (fp : List Addr), PG (X.blk s H scope (compEnvC scope cl C X.env) fp) tg g) (ht : ∀ (s : Shared) (H : Hp) (C : Addr) (cl : List (Str × Addr)) (fp : List Addr), PTs (X.blk s H scope (compEnvC scope cl C X.env) fp) ifs tt)
    (he : ∀ (s : Shared) (H : Hp) (C : Addr) (cl : List (Str × Addr)) (fp : List Addr), PE (X.blk s H scope (compEnvC scope cl C X.env) fp) elt te) (hs : ∀ x, foldedSetIterable iter X.env x = pure x := by intro _; rfl) :
    PE X (.ListComp elt [⟨tg, iter, ifs, 0⟩] scope pos) (tLcz wi g tt te (own.map (·.2))) :=
  pe_w (pe_lc hc hN (pi_mon hi) ok (fun s H C cl fp => pg_mon (hg s H C cl fp)) (fun s H C cl fp => pts_mon (ht s H C cl fp)) (fun s H C cl fp => pe_mon (he s H C cl fp)) hs) fun σ H Q h => tLcz_of h
theorem ps_setLcz {X : Cx} {i : Nat} {y : Str} {py : Pos} {elt tg iter : Expr} {ifs : List Expr} {scope : Scope} {own : List (Str × Nat)} {pos spos : Pos} {wi : TI} {g : TG} {tt : TT} {te : TE} (hc : X.calm = true) (hN : X.N.Nodup) (hy : X.N[i]? = some y) (hyl : X.env.scope.names.lookup y = some .local)
    (hsw : swapsWith (.ListComp elt [⟨tg, iter, ifs, 0⟩] scope pos) (some (.Name y py)) spos.line X.env = pure true) (hi : PI X tg iter wi) (ok : BlkOk X.N X.env.scope scope own)
    (hg : ∀ (s : Shared) (H : Hp) (C : Addr) (cl : List (Str × Addr)) (fp : List Addr), PG (X.blk s H scope (compEnvC scope cl C X.env) fp) tg g) (ht : ∀ (s : Shared) (H : Hp) (C : Addr) (cl : List (Str × Addr)) (fp : List Addr), PTs (X.blk s H scope (compEnvC scope cl C X.env) fp) ifs tt)
    (he : ∀ (s : Shared) (H : Hp) (C : Addr) (cl : List (Str × Addr)) (fp : List Addr), PE (X.blk s H scope (compEnvC scope cl C X.env) fp) elt te) (hs : ∀ x, foldedSetIterable iter X.env x = pure x := by intro _; rfl) :
    PS X (.Assign [.Name y py] (.ListComp elt [⟨tg, iter, ifs, 0⟩] scope pos) spos) (tAsg (tLcz wi g tt te (own.map (·.2))) (gName i)) :=
  ps_w (ps_setLc hc hN hy hyl hsw (pi_mon hi) ok (fun s H C cl fp => pg_mon (hg s H C cl fp)) (fun s H C cl fp => pts_mon (ht s H C cl fp)) (fun s H C cl fp => pe_mon (he s H C cl fp)) hs) fun D σ H h => tLcz_of h
/-- a comprehension over known items: the invariant by the turn and the list so far -/
theorem lc_w {J : It} {items : List V} {S : Hp → Prop} (wk : Wk J items S) (hz : items.length ≤ 1000000) {g : TG} {tt : TT} {te : TE} {vs : List Nat} {σ : L2.St} {H1 : Hp} {D : Addr} {Qd : Hp → Prop} (Pv : Nat → List V → Hp → Prop) (h0 : ∀ H2, Nw H1 D (.lst []) H2 → Pv 0 [] H2)
    (hS : ∀ i acc H, Pv i acc H → S H) (hL : ∀ i acc H, Pv i acc H → acc.length ≤ i)
    (hs : ∀ i x acc H, items[i]? = some x → H D = some (.lst acc) → Pv i acc H → g x (wipe σ vs) H fun σ2 H2 => wipe σ2 vs = wipe σ vs ∧ tt σ2 H2 fun b H3 =>
      if b = true then te σ2 H3 fun y H4 => H4 D = some (.lst acc) ∧ ∀ H5, Wr H4 D (.lst (acc ++ [y])) H5 → Pv (i + 1) (acc ++ [y]) H5 else H3 D = some (.lst acc) ∧ Pv (i + 1) acc H3)
    (hd : ∀ acc H, acc.length ≤ items.length → H D = some (.lst acc) → Pv items.length acc H → Qd H) :
    ∃ W : Nat → Nat → List V → Hp → Prop, (∃ m, ∀ H2, Nw H1 D (.lst []) H2 → W 0 m [] H2) ∧
  ∀ i m acc H, H D = some (.lst acc) → W i m acc H → (J.stop i H ∧ Qd H) ∨
    (acc.length < sizeLine ∧ J.go i H ∧ ∃ Nx : List V → Hp → Prop, (∀ a' H', Nx a' H' → ∃ m', m' < m ∧ W (i + 1) m' a' H') ∧ ∀ x H', J.yld i H x H' → g x (wipe σ vs) H' fun σ2 H2 => wipe σ2 vs = wipe σ vs ∧ tt σ2 H2 fun b H3 =>
      if b = true then te σ2 H3 fun y H4 => H4 D = some (.lst acc) ∧ ∀ H5, Wr H4 D (.lst (acc ++ [y])) H5 → Nx (acc ++ [y]) H5 else H3 D = some (.lst acc) ∧ Nx acc H3) := by
  have hs1 : 1000000 < sizeLine := by decide
  -- the list is never longer than the turns done
  refine ⟨fun i m acc H => m = items.length - i ∧ i ≤ items.length ∧ Pv i acc H, ⟨items.length, fun H2 n => ⟨by omega, Nat.zero_le _, h0 H2 n⟩⟩, ?_⟩
  rintro i m acc H hacc ⟨rfl, hi, p⟩
  have hl := hL i acc H p
  have s := hS i acc H p
  rcases Nat.lt_or_ge i items.length with hlt | hge
  · refine .inr ⟨by omega, wk.go i H s hlt, Pv (i + 1), fun a' H' p' => ⟨items.length - (i + 1), by omega, rfl, hlt, p'⟩, fun x H' y => ?_⟩
    obtain ⟨rfl, hx⟩ := wk.yld i H x H' s hlt y
    exact hs i x acc _ hx hacc p
  · have e : i = items.length := Nat.le_antisymm hi hge
    subst e
    exact .inl ⟨wk.stop H s, hd acc H hl hacc p⟩

/-! ### constants of the module, permutations -/
theorem pe_gk {X : Cx} {x : Str} {v : V} {pos : Pos} (h : ∃ u, X.mg x = some u ∧ RelV v u) (hg : Gl X x := by rfl) (hd : (x == ("__debug__" : Str)) = false := by decide) : PE X (.Name x pos) (tC v) := by
  obtain ⟨u, hm, r⟩ := h
  exact pe_glob hg hm r hd
def zNeg : V → Hp → VK → Prop := fun x H Q => match x with
  | .int i => Q (.int (-i)) H
  | _ => False
theorem un_negZ {X : Cx} : UnR X (unaryOp .USub) zNeg :=
  fun pins s σ H x v Q I r h => by
    unfold zNeg at h
    split at h
    · exact un_neg pins s σ H _ v Q I r ⟨_, rfl, h⟩
    · exact h.elim
def perm_0 {α : Type} (l : List α) : List α := l
theorem perm_0_ok {zs : List V} {ws : List Value} (r : Vals zs ws) : Vals (perm_0 zs) (perm_0 ws) := r
def perm_1_0 {α : Type} : List α → List α
  | [a, b] => [b, a]
  | _ => []
theorem perm_1_0_ok {zs : List V} {ws : List Value} (r : Vals zs ws) : Vals (perm_1_0 zs) (perm_1_0 ws) := by
  match zs, ws, r with
  | [], [], _ => exact .nil
  | [_], [_], _ => exact .nil
  | [_, _], [_, _], .cons a (.cons b .nil) => exact .cons b (.cons a .nil)
  | _ :: _ :: _ :: _, _ :: _ :: _ :: _, _ => exact .nil

/-! ### the same rules over the written part by its own name (a block's rules must not speak of the block) -/
section
variable {X : Cx} (K : PySem.W.Frag)
theorem k_add (hK : X.K = K := by rfl) : OpR X (binaryOp .Add) (zAdd K) := hK ▸ o_add
theorem k_eq (hu : X.A.units + 64 < cLine) (hK : X.K = K := by rfl) : OpR X (compareOp .Eq) (zEq K false) := hK ▸ o_eq hu
theorem k_ne (hu : X.A.units + 64 < cLine) (hK : X.K = K := by rfl) : OpR X (compareOp .NotEq) (zEq K true) := hK ▸ o_ne hu
theorem k_in (hK : X.K = K := by rfl) : OpR X (compareOp .In) (zIn K false) := hK ▸ o_in
theorem k_nin (hK : X.K = K := by rfl) : OpR X (compareOp .NotIn) (zIn K true) := hK ▸ o_nin
theorem k_ix (hK : X.K = K := by rfl) : IxR X (zIx K) := hK ▸ o_ix
theorem k_sl (hK : X.K = K := by rfl) : SlR X (zSl K) := hK ▸ o_sl
theorem k_len (hK : X.K = K := by rfl) : CallR X (.builtin "len") (zLen K) := hK ▸ c_len
theorem k_sum (hc : X.calm = true) (hK : X.K = K := by rfl) : CallR X (.builtin "sum") (zSum K) := hK ▸ c_sum hc
theorem k_all (hc : X.calm = true) (hK : X.K = K := by rfl) : CallR X (.builtin "all") (zAll K) := hK ▸ c_all hc
theorem k_list (hK : X.K = K := by rfl) : CallR X (.type "list") (zList K) := hK ▸ c_list
theorem k_tuple (hK : X.K = K := by rfl) : CallR X (.type "tuple") (zTuple K) := hK ▸ c_tuple
theorem k_isi (hK : X.K = K := by rfl) : CallR X (.builtin "isinstance") (zIsi K) := hK ▸ c_isi
theorem mk_join (hK : X.K = K := by rfl) : MtR X "str.join" (ofS (zJoin K)) := hK ▸ m_join
theorem pt_trK {a : Expr} {ta : TE} (h : PE X a ta) (hK : X.K = K := by rfl) (he : ∀ whole, isTrue a X.env whole = (do let v ← whole; standAt a.pos; holding [v] (truthy v)) := by intro _; rfl) : PT X a (tTr K ta) := hK ▸ pt_tr h he
theorem pi_lzK {tg e : Expr} {te : TE} (h : PE X e te) (hK : X.K = K := by rfl) : PI X tg e (tItL K te) := hK ▸ pi_lz h
theorem pi_tzK {tg e : Expr} {te : TE} (h : PE X e te) (hK : X.K = K := by rfl) : PI X tg e (tItT K te) := hK ▸ pi_tz h
theorem pg_tzK {es : List Expr} {k : Nat} {pos : Pos} {t : TGs} {n : Nat} (hc : X.calm = true) (h : PGs X es t) (hK : X.K = K := by rfl) (hn : (assignEach es X.env).length = n := by rfl) (hst : (assignEach es X.env).findIdx? (·.1) = none := by rfl) : PG X (.Tuple es k pos) (gTz K n t) :=
  hK ▸ pg_tz hc h hn hst
theorem pe_mlK {e o : Expr} {es : List Expr} {to : TE} {t : TA} {name : Str} {apos cpos : Pos} {id : String} {r : Addr → List V → Hp → VK → Prop} (slot : Slot "list" name id) (hty : typeOf (.builtin id) = pure (.type "method_descriptor")) (hm : MtR X id (ofL r)) (ho : PE X o to) (ha : PA X (e :: es) t)
    (hK : X.K = K := by rfl) (hbase : attributeBase o name X.env (eval o X.env) = eval o X.env := by rfl)
    (hfew : ((backTo cpos (starEach (e :: es) X.env)).all (fun x => !x.1) && (backToKw cpos (keywordEach [] X.env)).all (fun x => x.1.isSome)
      && decide ((e :: es).length + ([] : List Keyword).length + (if ([] : List Keyword).isEmpty then 0 else 1) < 30)) = true := by rfl)
    (hline : (apos.endLine == cpos.line) = true := by rfl) (hs : starEach (e :: es) X.env = (false, eval e X.env) :: starEach es X.env := by rfl) (hplain : (backTo cpos (starEach es X.env)).any (·.1) = false := by rfl) :
    PE X (.Call (.Attribute o name apos) (e :: es) [] cpos) (tMl K r to t) := hK ▸ pe_ml slot hty hm ho ha hbase hfew hline hs hplain
end

/-! ### items at a place -/
theorem atI_some {α : Type} {xs : List α} {r : Int} (h0 : 0 ≤ r) (h : r < (xs.length : Int)) : ∃ v, atI xs r = some v ∧ v ∈ xs ∧ xs[r.toNat]? = some v := by
  have hl : r.toNat < xs.length := by omega
  have q := atI_nat (List.getElem?_eq_getElem hl)
  rw [Int.toNat_of_nonneg h0] at q
  exact ⟨xs[r.toNat], q, List.getElem_mem hl, List.getElem?_eq_getElem hl⟩
/-- an int of a written list -/
theorem menuI (ms : List Int) {r : Int} (h0 : 0 ≤ r) (h : r < (ms.length : Int)) : ∃ v, atI (ms.map V.int) r = some (.int v) ∧ v ∈ ms := by
  obtain ⟨v, h1, h2, _⟩ := atI_some (xs := ms.map V.int) h0 (by rw [List.length_map]; exact h)
  obtain ⟨i, hi, rfl⟩ := List.mem_map.mp h2
  exact ⟨i, h1, hi⟩
theorem iteY {c : Bool} {A B : Prop} (h : c = true) (a : A) : if c = true then A else B := by
  rw [if_pos h]
  exact a
theorem iteN {c : Bool} {A B : Prop} (h : c = false) (b : B) : if c = true then A else B := by
  rw [if_neg (by rw [h]; exact Bool.false_ne_true)]
  exact b
/-- one of two walks -/
def tIor (a b : TI) : TI := fun σ H R => a σ H R ∨ b σ H R
theorem pi_or {X : Cx} {tg e : Expr} {a b : TI} (ha : PI X tg e a) (hb : PI X tg e b) : PI X tg e (tIor a b) := ⟨fun pins s σ H R I h => by
  rcases h with h | h
  · exact ha.run pins s σ H R I h
  · exact hb.run pins s σ H R I h⟩
theorem dT {p : Prop} [Decidable p] (h : decide p = true) : p := of_decide_eq_true h
theorem dF {p : Prop} [Decidable p] (h : ¬ decide p = true) : ¬ p := fun q => h (decide_eq_true q)
theorem signsV_len (x : Str) : (signsV x).length = x.length := by
  rw [signsV, List.length_map, Array.length_toList]
  rfl
theorem signsV_at {x : Str} {i : Nat} {v : V} (h : (signsV x)[i]? = some v) : ∃ c, x.cps.toList[i]? = some c ∧ v = signV c := by
  rw [signsV, List.getElem?_map] at h
  cases e : x.cps.toList[i]? with
  | none => rw [e] at h; cases h
  | some c =>
    rw [e] at h
    exact ⟨c, rfl, (Option.some.inj h).symm⟩

/-! ### the end -/
section
variable {P : Program} {w : World} {K : PySem.W.Frag} {mg : Str → Option Value} {base : Heap}
theorem df_mk {h : Heap} (X : K.In h) (G : h.Ns mainGlobals mg) {x : Str} {st : Stmt} {ps : List Str} {f : Addr} {oc : Value} {od an : Option Addr} {osl : Array (Option Value)} {kV doc pm cdv ct : Value} (a : PySem.W.nsIn K mainGlobals x = some (some (.ref f)))
    (l : K.lookup f = some ⟨oc, od, .func (PySem.W.fnOf x x (defArgs st) (defBody st) (defScope st) .none kV doc pm an cdv ct), osl⟩) (c : PySem.W.codeIn K cdv x = true) (k : PySem.W.keepIn K (.ref f) = true)
    (b : ∀ (kV doc pm : Value) (an : Option Addr) (cdv ct : Value) (us : List Value), us.length = ps.length → bindArgs (PySem.W.fnOf x x (defArgs st) (defBody st) (defScope st) .none kV doc pm an cdv ct) ⟨us, []⟩ = pure (ps.zip us)) : Df K mg x st ps :=
  ⟨f, _, fun_mk l c k, PySem.W.mg_of X G a, (fun_mk l c k).binds b⟩
theorem law_fn {CX : CXT} {k : Nat} {x : Str} {ps : List Str} {sp : Sp} {fa : Addr} {fd : FuncData} {oc : Value} {od : Option Addr} {osl : Array (Option Value)} (C : Ct P w K mg base CX k x ps sp) (hfa : mg x = some (.ref fa))
    (l : K.lookup fa = some ⟨oc, od, .func fd, osl⟩) : FnOk P w K mg base CX k fa fd ps sp := by
  obtain ⟨f, fd', hm, _, _, F, oc', od', osl', hl⟩ := C.ex
  have e : f = fa := by
    rw [hm] at hfa
    cases hfa
    rfl
  subst e
  have e2 : fd' = fd := by
    rw [hl] at l
    cases l
    rfl
  subst e2
  exact F
end
end Z

/-! G: defs that call repr: what the room says of the guards is known. -/
namespace Z
open PySem PySem.Spec PyProof.Rows L2

/-- room, and nothing is being shown -/
structure RoomG (k : Nat) (A : Around) : Prop where
  room : Room k A
  free : A.guards = some []
theorem RoomG.mono {j k : Nat} {A : Around} (r : RoomG k A) (h : j ≤ k) : RoomG j A := ⟨r.room.mono h, r.free⟩
theorem RoomG.down {k : Nat} {A : Around} (r : RoomG (k + 1) A) (env : Env) : RoomG k (A.deeper env) := ⟨r.room.deeper env, r.free⟩
/-- one call of a def, at one place -/
theorem one_call {CX : CXT} {P : Program} {w : World} {K : PySem.W.Frag} {mg : Str → Option Value} {base : Heap} {k : Nat} {x qual : Str} {st : Stmt} {f : Addr} {fd : FuncData} {N ps : List Str} (F : Fun K x qual st f fd) (S : FnScope N ps (defScope st))
    {A : Around} {outer : List Env} {s : Shared} {H : Hp} {args : Args} {us : List Value} {vs : List V} {Q : VK} {E : XK} (hr : Room (k + 1) A) (e0 : Env0 P w K mg base A outer s H) (hb : BindsTo s fd args (ps.zip us)) (r : Vals vs us) (hl : vs.length = ps.length)
    (body : ∀ cdv : Value, ∃ t, PSs (cxOf CX P w K mg base N qual (defScope st) f cdv A outer s H E) (defBody st) t ∧ t { nx := fun _ H' => Q .non H', rt := Q } (start N vs) H) :
    codeAny (model P w) A (.call (.ref f) args) (CR CX outer P w H s Q E) s := by
  obtain ⟨oc, od, kV, doc, pm, an, cdv, ct, osl, e, lk, hcd⟩ := F.ex
  subst e
  obtain ⟨t, ht, hq⟩ := body cdv
  have grow : ∀ b o, base.get? b = some o → s.heap.get? b = some o := fun b o q => (e0.bs b o q).1
  have inK := e0.mod.kin.keeps grow
  have seen : ∀ y ∈ ps.zip us, (defScope st).names.lookup y.1 = some .local ∨ ((defScope st).names.lookup y.1 = some .cell ∧ ((cellsFrom (s.heap.objs.size + 1) (defScope st).names []).lookup y.1).isSome = true) := by
    intro y hy
    exact (S.par y.1 (List.of_mem_zip (a := y.1) (b := y.2) hy).1).imp_right fun q => ⟨q, PySem.W.cellsFrom_some _ _ _ (.inl q)⟩
  apply codeAny_call_function hr.depth (inK _ _ lk) rfl S.co S.gen rfl (PySem.W.codeRec_of inK hcd)
  apply hb
  apply wpAny_newFunctionEnv_cells S.kind seen
  rintro env rfl s1 x1
  refine And.intro ((e0.mod.nolimit.keeps grow).keeps x1.toInCall.keep) (codeAny_func ?_)
  have I := inv_start (CX := CX) (E := E) S hr.hd e0 hl r x1
  refine wpAny_mono (ht.run [] s1 (start N vs) H _ I hq) ?_ (fun _ _ z => z)
  have out : ∀ (s' : Shared) (σ' : L2.St) (H' : Hp) (v : V) (u : Value), Inv (cxOf CX P w K mg base N qual (defScope st) f cdv A outer s H E) [] σ' H' s' → RelV v u → Q v H' → CE outer P w H s Q u s' :=
    fun s' σ' H' v u J rv z => ⟨v, H', J.os, J.bare, J.base, J.hok, rv, z⟩
  intro fl s' hs
  match fl, hs with
  | .ret u, ⟨v, σ', H', J, rv, z⟩ => exact out s' σ' H' v u J rv z
  | .next, ⟨σ', H', J, z⟩ => exact out s' σ' H' .non .none J rfl z
  | .brk, ⟨_, _, _, z⟩ => exact z.elim
  | .cont, ⟨_, _, _, z⟩ => exact z.elim
/-- a def's promise where nothing is being shown -/
structure FnG (P : Program) (w : World) (K : PySem.W.Frag) (mg : Str → Option Value) (base : Heap) (CX : CXT) (k : Nat) (f : Addr) (fd : FuncData) (ps : List Str) (sp : Sp) : Prop where
  many : ∀ vs H Q E, sp vs H Q E → vs.length = ps.length
  call : ∀ (A : Around) (outer : List Env) (s : Shared) (H : Hp) (args : Args) (us : List Value) (vs : List V) (Q : VK) (E : XK), RoomG k A → Env0 P w K mg base A outer s H → BindsTo s fd args (ps.zip us) → Vals vs us → sp vs H Q E →
    codeAny (model P w) A (.call (.ref f) args) (CR CX outer P w H s Q E) s
structure Cg (P : Program) (w : World) (K : PySem.W.Frag) (mg : Str → Option Value) (base : Heap) (CX : CXT) (k : Nat) (x : Str) (ps : List Str) (sp : Sp) : Prop where
  ex : ∃ f fd, mg x = some (.ref f) ∧ PySem.W.keepIn K (.ref f) = true ∧ Binds K fd ps [] ∧ FnG P w K mg base CX k f fd ps sp ∧ ∃ oc od osl, K.lookup f = some ⟨oc, od, .func fd, osl⟩
theorem Ct.g {P : Program} {w : World} {K : PySem.W.Frag} {mg : Str → Option Value} {base : Heap} {CX : CXT} {k : Nat} {x : Str} {ps : List Str} {sp : Sp} (C : Ct P w K mg base CX k x ps sp) : Cg P w K mg base CX k x ps sp := by
  obtain ⟨f, fd, a, b, c, F, d⟩ := C.ex
  exact ⟨f, fd, a, b, c, ⟨F.len, fun A outer s H args us vs Q E r => F.run A outer s H args us vs Q E r.room⟩, d⟩
section
variable {X : Cx} {CX : CXT} {k : Nat} {x : Str} {ps : List Str} {sp : Sp} {E : XK} {p pos : Pos} {e : Expr} {es : List Expr} {t : TA}
/-- the callee runs -/
theorem fng_at {f : Addr} {fd : FuncData} {pins : List (Addr × Obj)} {σ : L2.St} {H : Hp} {s : Shared} {Q : VK} {us : List Value} {vs : List V} (F : FnG X.prog X.w X.K X.mg X.base CX k f fd ps sp) (hr : RoomG k X.A) (hb : Binds X.K fd ps []) (hx : Passes CX X E)
    (I : Inv X pins σ H s) (r : Vals vs us) (h : sp vs H Q E) : wpAny (model X.prog X.w) X.A (call (.ref f) us) (EP X pins σ Q) X.xe s := by
  have hl : us.length = ps.length := r.length.symm.trans (F.many _ _ _ _ h)
  have b := hb s us I.kIn (by simpa using hl)
  rw [List.append_nil] at b
  refine wpAny_call (codeAny_mono (F.call X.A X.stack s H ⟨us, []⟩ us vs Q E hr I.env0 b r h) ?_)
  intro r s' hq
  match r, hq with
  | .error e, hq => exact hx pins σ H s e s' I hq
  | .ok (.ret u), hq => exact I.after hq
  | .ok .next, hq => exact False.elim hq
  | .ok .brk, hq => exact False.elim hq
  | .ok .cont, hq => exact False.elim hq
theorem pe_cg (C : Cg X.prog X.w X.K X.mg X.base CX k x ps sp) (hr : RoomG k X.A) (hx : Passes CX X E) (ha : PA X (e :: es) t) (hg : Gl X x := by rfl)
    (hdb : (x == ("__debug__" : Str)) = false := by decide)
    (he : starEach (e :: es) X.env = (false, eval e X.env) :: starEach es X.env := by rfl) (hpl : (backTo pos (starEach es X.env)).any (·.1) = false := by rfl) : PE X (.Call (.Name x p) (e :: es) [] pos) (tCl sp E t) := by
  obtain ⟨f, fd, hm, hk, hb, F, _⟩ := C.ex
  exact ⟨fun pins s σ H Q I h => wpAny_Call_Name_kw (ld_glob I hg hm (PySem.W.callWith_K (h₀ := X.base) I.ok.mod.kin hk (thn (ha.run pos pins s σ H _ I h) fun us s1 ⟨vs, H1, I1, r, q⟩ => ⟨I1.kIn, fng_at F hr hb hx I1 r q⟩) he hpl) hdb)⟩
end
section
variable {P : Program} {w : World} {K : PySem.W.Frag} {mg : Str → Option Value} {base : Heap}
theorem fng {x : Str} {st : Stmt} {f : Addr} {fd : FuncData} {N ps : List Str} {k : Nat} {sp : Sp} (F : Fun K x x st f fd) (S : FnScope N ps (defScope st)) (len : ∀ vs H Q E, sp vs H Q E → vs.length = ps.length)
    (body : ∀ (cdv : Value) (A : Around) (outer : List Env) (s : Shared) (H : Hp) (vs : List V) (Q : VK) (E : XK), RoomG k (A.deeper (envOfC x (defScope st) s.heap.objs.size f cdv)) → sp vs H Q E →
      ∃ t, PSs (cxOf CX0 P w K mg base N x (defScope st) f cdv A outer s H E).nox (defBody st) t ∧ t { nx := fun _ H' => Q .non H', rt := Q } (start N vs) H) : FnG P w K mg base CX0 (k + 1) f fd ps sp :=
  ⟨len, fun A outer s H args us vs Q E hr e0 hb r h => one_call F S hr.room e0 hb r (len _ _ _ _ h) fun cdv => by
    obtain ⟨t, a, b⟩ := body cdv A outer s H vs Q E (hr.down _) h
    exact ⟨t, a.nox, b⟩⟩
theorem cg0 {x : Str} {st : Stmt} {N : List Str} {k : Nat} {p : Hp → VK → XK → Prop} (D : Df K mg x st []) (S : FnScope N [] (defScope st))
    (body : ∀ (f : Addr) (cdv : Value) (A : Around) (outer : List Env) (s : Shared) (H : Hp) (Q : VK) (E : XK), RoomG k (A.deeper (envOfC x (defScope st) s.heap.objs.size f cdv)) → p H Q E →
      ∃ t, PSs (cxOf CX0 P w K mg base N x (defScope st) f cdv A outer s H E).nox (defBody st) t ∧ t { nx := fun _ H' => Q .non H', rt := Q } (start N []) H) : Cg P w K mg base CX0 (k + 1) x [] (fun vs H Q E => vs = [] ∧ p H Q E) := by
  obtain ⟨f, fd, F, hm, hb⟩ := D.ex
  refine ⟨f, fd, hm, F.kp, hb, fng F S (fun vs H Q E h => by rw [h.1]; rfl) (fun cdv A outer s H vs Q E hr h => ?_), fun_at F⟩
  obtain ⟨rfl, h⟩ := h
  exact body f cdv A outer s H Q E hr h
theorem cg1 {x : Str} {st : Stmt} {a : Str} {N : List Str} {k : Nat} {p : V → Hp → VK → XK → Prop} (D : Df K mg x st [a]) (S : FnScope N [a] (defScope st))
    (body : ∀ (f : Addr) (cdv : Value) (A : Around) (outer : List Env) (s : Shared) (H : Hp) (u : V) (Q : VK) (E : XK), RoomG k (A.deeper (envOfC x (defScope st) s.heap.objs.size f cdv)) → p u H Q E →
      ∃ t, PSs (cxOf CX0 P w K mg base N x (defScope st) f cdv A outer s H E).nox (defBody st) t ∧ t { nx := fun _ H' => Q .non H', rt := Q } (start N [u]) H) : Cg P w K mg base CX0 (k + 1) x [a] (sp1 p) := by
  obtain ⟨f, fd, F, hm, hb⟩ := D.ex
  refine ⟨f, fd, hm, F.kp, hb, fng F S (fun vs H Q E h => ?_) (fun cdv A outer s H vs Q E hr h => ?_), fun_at F⟩
  · obtain ⟨u, rfl, _⟩ := sp1_of h
    rfl
  · obtain ⟨u, rfl, h⟩ := sp1_of h
    exact body f cdv A outer s H u Q E hr h
theorem cg2 {x : Str} {st : Stmt} {a b : Str} {N : List Str} {k : Nat} {p : V → V → Hp → VK → XK → Prop} (D : Df K mg x st [a, b]) (S : FnScope N [a, b] (defScope st))
    (body : ∀ (f : Addr) (cdv : Value) (A : Around) (outer : List Env) (s : Shared) (H : Hp) (u v : V) (Q : VK) (E : XK), RoomG k (A.deeper (envOfC x (defScope st) s.heap.objs.size f cdv)) → p u v H Q E →
      ∃ t, PSs (cxOf CX0 P w K mg base N x (defScope st) f cdv A outer s H E).nox (defBody st) t ∧ t { nx := fun _ H' => Q .non H', rt := Q } (start N [u, v]) H) : Cg P w K mg base CX0 (k + 1) x [a, b] (sp2 p) := by
  obtain ⟨f, fd, F, hm, hb⟩ := D.ex
  refine ⟨f, fd, hm, F.kp, hb, fng F S (fun vs H Q E h => ?_) (fun cdv A outer s H vs Q E hr h => ?_), fun_at F⟩
  · obtain ⟨u, v, rfl, _⟩ := sp2_of h
    rfl
  · obtain ⟨u, v, rfl, h⟩ := sp2_of h
    exact body f cdv A outer s H u v Q E hr h
theorem cg3 {x : Str} {st : Stmt} {a b c : Str} {N : List Str} {k : Nat} {p : V → V → V → Hp → VK → XK → Prop} (D : Df K mg x st [a, b, c]) (S : FnScope N [a, b, c] (defScope st))
    (body : ∀ (f : Addr) (cdv : Value) (A : Around) (outer : List Env) (s : Shared) (H : Hp) (u v v3 : V) (Q : VK) (E : XK), RoomG k (A.deeper (envOfC x (defScope st) s.heap.objs.size f cdv)) → p u v v3 H Q E →
      ∃ t, PSs (cxOf CX0 P w K mg base N x (defScope st) f cdv A outer s H E).nox (defBody st) t ∧ t { nx := fun _ H' => Q .non H', rt := Q } (start N [u, v, v3]) H) : Cg P w K mg base CX0 (k + 1) x [a, b, c] (sp3 p) := by
  obtain ⟨f, fd, F, hm, hb⟩ := D.ex
  refine ⟨f, fd, hm, F.kp, hb, fng F S (fun vs H Q E h => ?_) (fun cdv A outer s H vs Q E hr h => ?_), fun_at F⟩
  · obtain ⟨u, v, v3, rfl, _⟩ := sp3_of h
    rfl
  · obtain ⟨u, v, v3, rfl, h⟩ := sp3_of h
    exact body f cdv A outer s H u v v3 Q E hr h
end
end Z

/-! D: data with dicts, as it stands in the abstract heap; repr. -/
namespace Z
open PySem PySem.Spec PyProof.V PyProof.Rows L2

def keyD : Key → PyData
  | .inl i => .int i
  | .inr x => .str x
mutual
/-- a value as data; g: the lists do not lie where the modules do (what is asked where a dict is shown, too) -/
inductive Dz (g : Bool) (H : Hp) : V → PyData → Prop
  | non : Dz g H .non .none
  | bl (b : Bool) : Dz g H (.bl b) (.bool b)
  | int (i : Int) : Dz g H (.int i) (.int i)
  | str (x : Str) : Dz g H (.str x) (.str x)
  | lst {a : Addr} {xs : List V} {ds : List PyData} : H a = some (.lst xs) → (g = true → a ≠ sysModules) → DzAll g H xs ds → Dz g H (.ref a) (.list ds)
  | tup {a : Addr} {xs : List V} {ds : List PyData} : H a = some (.tup xs) → DzAll g H xs ds → Dz g H (.ref a) (.tuple ds)
  | dic {a : Addr} {kvs : List (Key × V)} {D : List (PyData × PyData)} : H a = some (.dK kvs) → DzKv g H kvs D → Dz g H (.ref a) (.dict D)
inductive DzAll (g : Bool) (H : Hp) : List V → List PyData → Prop
  | nil : DzAll g H [] []
  | cons {v : V} {vs : List V} {d : PyData} {ds : List PyData} : Dz g H v d → DzAll g H vs ds → DzAll g H (v :: vs) (d :: ds)
inductive DzKv (g : Bool) (H : Hp) : List (Key × V) → List (PyData × PyData) → Prop
  | nil : DzKv g H [] []
  | cons {k : Key} {v : V} {kvs : List (Key × V)} {d : PyData} {D : List (PyData × PyData)} : Dz g H v d → DzKv g H kvs D → DzKv g H ((k, v) :: kvs) ((keyD k, d) :: D)
end
mutual
theorem Dz.same {g : Bool} {H H2 : Hp} (s : Same H H2) : ∀ {v : V} {d : PyData}, Dz g H v d → Dz g H2 v d
  | _, _, .non => .non
  | _, _, .bl b => .bl b
  | _, _, .int i => .int i
  | _, _, .str x => .str x
  | _, _, .lst h n a => .lst (s _ _ h) n (DzAll.same s a)
  | _, _, .tup h a => .tup (s _ _ h) (DzAll.same s a)
  | _, _, .dic h a => .dic (s _ _ h) (DzKv.same s a)
theorem DzAll.same {g : Bool} {H H2 : Hp} (s : Same H H2) : ∀ {vs : List V} {ds : List PyData}, DzAll g H vs ds → DzAll g H2 vs ds
  | _, _, .nil => .nil
  | _, _, .cons h t => .cons (Dz.same s h) (DzAll.same s t)
theorem DzKv.same {g : Bool} {H H2 : Hp} (s : Same H H2) : ∀ {kvs : List (Key × V)} {D : List (PyData × PyData)}, DzKv g H kvs D → DzKv g H2 kvs D
  | _, _, .nil => .nil
  | _, _, .cons h t => .cons (Dz.same s h) (DzKv.same s t)
end
theorem key_reads {h : Heap} : ∀ (k : Key) (key : Value), keyIs k key = true → Reads h key (keyD k) [] := fun k key e => by
  rcases keyIs_shape e with ⟨i, t, rfl, rfl⟩ | ⟨x, t, rfl, rfl⟩
  · exact .int i t
  · exact .str x t
section
variable {g : Bool} {X : Cx} {pins : List (Addr × Obj)} {σ : L2.St} {H : Hp} {s : Shared}
mutual
theorem Dz.reads (I : Inv X pins σ H s) : ∀ {v : V} {d : PyData} (u : Value), Dz g H v d → RelV v u → ∃ as, Reads s.heap u d as ∧ (g = true → sysModules ∉ as)
  | _, _, u, .non, r => by
    cases r
    exact ⟨_, .none, fun _ => by simp⟩
  | _, _, u, .bl b, r => by
    cases r
    exact ⟨_, .bool b, fun _ => by simp⟩
  | _, _, u, .int i, r => by
    obtain ⟨t, rfl⟩ := r
    exact ⟨_, .int i t, fun _ => by simp⟩
  | _, _, u, .str x, r => by
    obtain ⟨t, rfl⟩ := r
    exact ⟨_, .str x t, fun _ => by simp⟩
  | _, _, u, .lst h n a, r => by
    cases r
    obtain ⟨_, its, m, rv, e⟩ := I.hok _ _ h
    obtain ⟨as, q, w⟩ := DzAll.reads I its a rv
    exact ⟨_, .list e rfl rfl (by simpa using q), fun e => by simp only [List.mem_cons, not_or]; exact ⟨fun z => n e z.symm, w e⟩⟩
  | _, _, u, .tup h a, r => by
    cases r
    obtain ⟨_, its, rv, o, ho, hc, m, hd⟩ := I.hok _ _ h
    obtain ⟨as, q, w⟩ := DzAll.reads I its a rv
    exact ⟨_, .tuple ho hc hd (by simpa using q), w⟩
  | _, _, u, .dic h a, r => by
    cases r
    obtain ⟨_, n, vs, rv, e⟩ := I.hok _ _ h
    obtain ⟨bs, q, w⟩ := DzKv.reads I vs a rv
    exact ⟨_, reads_dictOf key_reads e q, fun e => by simp only [List.mem_cons, not_or]; exact ⟨fun z => by rw [← z] at n; exact absurd n (by decide), w e⟩⟩
theorem DzAll.reads (I : Inv X pins σ H s) : ∀ {vs : List V} {ds : List PyData} (us : List Value), DzAll g H vs ds → Vals vs us → ∃ as, ReadsAll s.heap us ds as ∧ (g = true → sysModules ∉ as)
  | _, _, us, .nil, r => by
    cases r
    exact ⟨_, .nil, fun _ => by simp⟩
  | _, _, us, .cons h t, r => by
    cases r with
    | cons r1 r2 =>
      obtain ⟨as, q1, w1⟩ := Dz.reads I _ h r1
      obtain ⟨bs, q2, w2⟩ := DzAll.reads I _ t r2
      exact ⟨_, .cons q1 q2, fun e z => (List.mem_append.mp z).elim (w1 e) (w2 e)⟩
theorem DzKv.reads (I : Inv X pins σ H s) : ∀ {kvs : List (Key × V)} {D : List (PyData × PyData)} (vs : List (Key × Value)), DzKv g H kvs D → KV kvs vs → ∃ as, PairsRead s.heap keyD vs D as ∧ (g = true → sysModules ∉ as)
  | _, _, vs, .nil, r => by
    cases r
    exact ⟨_, .nil, fun _ => by simp⟩
  | _, _, vs, .cons h t, r => by
    cases r with
    | @cons _ b _ _ r1 r2 =>
      obtain ⟨k, u⟩ := b
      obtain ⟨rfl, r1⟩ := r1
      obtain ⟨as, q1, w1⟩ := Dz.reads I _ h r1
      obtain ⟨bs, q2, w2⟩ := DzKv.reads I _ t r2
      exact ⟨_, .cons q1 q2, fun e z => (List.mem_append.mp z).elim (w1 e) (w2 e)⟩
end
end
/-- repr(x) of data -/
def zRepr : List V → Hp → VK → Prop := fun vs H Q => match vs with
  | [v] => ∃ g d, Dz g H v d ∧ (d.hasDict = true → g = true) ∧ d.showable = true ∧ d.depth ≤ 60 ∧ d.shown.length ≤ sizeLine ∧ Q (.str d.shown) H
  | _ => False
theorem c_repr {X : Cx} {k : Nat} (hr : RoomG k X.A) : CallR X (.builtin "repr") zRepr := by
  intro pins s σ H xs us Q I r h
  unfold zRepr at h
  split at h
  · obtain ⟨g, d, hd, hg, hs, hp, hz, q⟩ := h
    obtain ⟨u, rfl, ru⟩ := vals1 r
    have un := hr.room.un
    obtain ⟨as, rd, w⟩ := Dz.reads I u hd ru
    have keep : ∀ {t : Nat} {h' : Heap}, (∀ b o, s.heap.get? b = some o → h'.get? b = some o) → ∀ t', EP X pins σ Q (.str d.shown t') { s with heap := h', toks := t } := fun hk t' => ⟨.str d.shown, H, I.kept hk, ⟨_, rfl⟩, q⟩
    cases rd with
    | none => exact PySem.P.repr_of_none ⟨.str _, H, I.tok _, ⟨_, rfl⟩, q⟩
    | bool b => exact PySem.P.repr_of_bool ⟨.str _, H, I.tok _, ⟨_, rfl⟩, by cases b <;> exact q⟩
    | int i t => exact PySem.P.repr_of_int (by simpa [PyData.showable] using hs) ⟨.str _, H, I.tok _, ⟨_, rfl⟩, q⟩
    | str x t => exact PySem.P.repr_of_str ⟨.str _, H, I.tok _, ⟨_, rfl⟩, q⟩ hz
    | list a b c e => exact repr_of_reads' (Reads.list a b c e) hs (fun z => w (hg z)) hr.free (by omega) (fun _ _ z => z) (fun h' u tk hk => keep hk _) hz
    | tuple a b c e => exact repr_of_reads' (Reads.tuple a b c e) hs (fun z => w (hg z)) hr.free (by omega) (fun _ _ z => z) (fun h' u tk hk => keep hk _) hz
    | dict a b c e f => exact repr_of_reads' (Reads.dict a b c e f) hs (fun z => w (hg z)) hr.free (by omega) (fun _ _ z => z) (fun h' u tk hk => keep hk _) hz
  · exact h.elim
/-- a list display, not where the modules are -/
def tLzS (t : TA) : TE := fun σ H Q => t σ H fun xs H1 => xs.length ≤ sizeLine ∧ ∀ p H2, Nw H1 p (.lst xs) H2 → p ≠ sysModules → Q (.ref p) H2
theorem pe_lzS {X : Cx} {es : List Expr} {t : TA} {pos : Pos} (h : PA X es t) : PE X (.List es pos) (tLzS t) := by
  constructor
  intro pins s σ H Q I hq
  refine wpAny_List_spliced (thn (h.run pos pins s σ H _ I hq) ?_)
  rintro us s1 ⟨xs, H1, I1, r, z, q⟩
  have free : H1 s1.heap.objs.size = none := I1.hok.fresh (Nat.le_refl _)
  have far : s1.heap.objs.size ≠ sysModules := Nat.ne_of_gt I1.big
  refine ⟨by rw [← r.length]; exact z, .ref _, _, I1.laid (t' := s1.toks) (o := .lst xs) (fun b u e => Heap.get?_push_of_some _ e) (Nat.le_refl _) ⟨z, us, 0, r, Heap.get?_push_size _ rfl⟩, rfl, q _ _ (nw free) far⟩
end Z

/-! E: the end of a law whose def calls repr. -/
namespace Z
open PySem PySem.Spec PyProof.Rows L2

/-- the script alone is tracked, if the object does not know it -/
def scriptH (K : PySem.W.Frag) (a : Addr) (o : Obj) (ns : List Int) : Hp := fun b => if b = a ∧ (K.lookup a).isNone = true then some (.frz o (.lst (ns.map V.int))) else none
theorem scriptH_at {K : PySem.W.Frag} {a b : Addr} {o : Obj} {ns : List Int} {u : HO} (h : scriptH K a o ns b = some u) : b = a ∧ K.lookup a = none ∧ u = .frz o (.lst (ns.map V.int)) := by
  unfold scriptH at h
  split at h
  · rename_i c
    exact ⟨c.1, Option.isNone_iff_eq_none.mp c.2, (Option.some.inj h).symm⟩
  · cases h
theorem walk_g {l : PySem.W.OpenLaw} {n k : Nat} {q : Program} {loose : List Str} {XP : (Str → Option Value) → Heap → Prop} {YP : World → Heap → Prop} {d : DefRec} {K : Params → PySem.W.Frag} {CX : CXT} {sp : World → Sp} {x : Str}
    (hn : l.most = some n) (hn2 : n ≤ sizeLine) (hdf : d.params.defaults = []) (hr : RoomG k callerA) (hY : ∀ (w : World) (h : Heap), YP w h → (K w.params).In h)
    (F : ∀ (w : World) (mg : Str → Option Value) (fa : Addr) (h : Heap), (K w.params).In h → h.Ns mainGlobals mg → mg d.name = some (.ref fa) →
      ∃ fd : FuncData, (∀ (s : Shared) (u : Value), BindsTo s fd ⟨[u], []⟩ [(x, u)]) ∧ ∀ base : Heap, (K w.params).In base → base.Ns mainGlobals mg → FnG l.prog w (K w.params) mg base CX k fa fd [x] (sp w))
    (hsp : ∀ (w : World) (H : Hp) (a : Addr) (ns : List Int), ns.length ≤ n → SqL (K w.params) H a (ns.map V.int) → sp w [.ref a] H (fun v _ => v = .bl true) fun _ _ _ => False)
    (hCX : ∀ (H : Hp) (s : Shared) (e : Value) (s' : Shared), CX [] H s (fun _ _ _ => False) e s' → False) :
    PySem.W.WalkO q loose XP YP l.row.toRowW d [] (fun f vs => PySem.call f vs) := by
  refine Att.attach_call hn hdf ?_
  intro w s₀ s₁ mg mb fa o pm cd doc a vs ns G Y _ _ _ hmg ha hints hlen hg
  have KX := hY w _ Y
  obtain ⟨fd, hbind, hF⟩ := F w mg fa _ KX G.T.g hmg
  have hspw := hsp w
  generalize K w.params = K at *
  generalize eo : ({ cls := .type "list", data := .seq vs.toArray } : Obj) = obj at ha
  have rv := vals_ints hints
  have lenV := hints.length
  have hS : SqL K (scriptH K a obj ns) a (ns.map V.int) := by
    cases hk : K.lookup a with
    | none => exact .inl (.inr ⟨obj, if_pos ⟨rfl, by rw [hk]; rfl⟩⟩)
    | some o2 =>
      have e2 := KX a o2 hk
      rw [ha] at e2
      cases e2
      subst eo
      exact .inr ⟨_, vs.toArray, _, hk, rfl, rfl, rfl, by rw [List.size_toArray, lenV]; exact Nat.le_trans hlen hn2, by simpa using rv⟩
  have seen : ∀ {b : Addr} {u : Obj}, s₁.heap.get? b = some u → (b = a → K.lookup a = some u ∨ False) → (hidT s₁.heap (scriptH K a obj ns)).get? b = some u := fun {b u} e c => hidT_get e (by
    cases z : scriptH K a obj ns b with
    | none => rfl
    | some v =>
      obtain ⟨e1, e2, _⟩ := scriptH_at z
      rcases c e1 with c | c
      · rw [e2] at c; cases c
      · exact c.elim)
  have inK : K.In (hidT s₁.heap (scriptH K a obj ns)) := fun b u e => seen (KX b u e) fun z => .inl (by rw [← z]; exact e)
  have names : ∀ {b : Addr} {m : Str → Option Value}, s₁.heap.Ns b m → (hidT s₁.heap (scriptH K a obj ns)).Ns b m := fun {b m} ⟨u, es, ep, e, dd, rest⟩ => ⟨u, es, ep, seen e (fun z => by
    subst z
    rw [ha] at e
    cases e
    subst eo
    exact nomatch dd), dd, rest⟩
  obtain ⟨mc, lim1, lim2⟩ := G.T.nolimit
  have world : Env0 l.prog w K mg (hidT s₁.heap (scriptH K a obj ns)) callerA [] s₁ (scriptH K a obj ns) := by
    constructor
    · rfl
    · exact ⟨inK, names G.T.g, ⟨mb, names G.T.b, G.T.builtins⟩, ⟨mc, names lim1, lim2⟩⟩
    · exact fun b u e => of_hidT e
    · exact Nat.le_of_eq (hidT_size _ _)
    · trivial
    · exact fun b z => absurd (show b ∈ ([] : List Addr) from z) List.not_mem_nil
    · intro b u e
      obtain ⟨rfl, _, rfl⟩ := scriptH_at e
      exact ⟨ha, by rw [List.length_map]; exact Nat.le_trans hlen hn2, vs, 0, rv, by rw [ha, ← eo]⟩
    · exact .of_eq hg
  have run := (hF _ inK (names G.T.g)).call callerA [] s₁ (scriptH K a obj ns) ⟨[.ref a], []⟩ [.ref a] [.ref a] (fun v _ => v = .bl true) (fun _ _ _ => False) hr world (hbind s₁ (.ref a)) (.cons rfl .nil) (hspw _ a ns hlen hS)
  refine codeAny_mono run ?_
  intro r s' h
  match r, h with
  | .error e, h => exact (hCX _ _ e s' h).elim
  | .ok .next, h => exact False.elim h
  | .ok .brk, h => exact False.elim h
  | .ok .cont, h => exact False.elim h
  | .ok (.ret u), ⟨v, H', os, bare, un, hok', r', hv⟩ =>
    have hv : v = .bl true := hv
    subst hv
    have r' : u = Value.bool true := r'
    subst r'
    refine ⟨rfl, OldK.of_keep ?_, os, bare⟩
    intro b u e
    cases z : scriptH K a obj ns b with
    | none => exact un.keep b u e z (fun c => absurd (show b ∈ ([] : List Addr) from c) List.not_mem_nil) List.not_mem_nil
    | some v =>
      obtain ⟨rfl, _, rfl⟩ := scriptH_at z
      have e2 := (hok' _ _ (un.frzs _ _ _ z)).1
      rw [ha] at e
      cases e
      exact e2
/-- dict(..) of a list of pairs, of a dict -/
def zDict (K : PySem.W.Frag) : List V → Hp → VK → Prop := fun vs H Q => match vs with
  | [.ref a] => (∃ (ps : List Addr) (kvs : List (Key × V)), SqL K H a (ps.map V.ref) ∧ Paired (fun p kv => SqT K H p [kV kv.1, kv.2]) ps kvs ∧ ∀ p H2, Nw H p (.dK (mergeK [] kvs)) H2 → Q (.ref p) H2) ∨
    ∃ kvs, H a = some (.dK kvs) ∧ ∀ p H2, Nw H p (.dK kvs) H2 → Q (.ref p) H2
  | _ => False
theorem c_dict {X : Cx} (hc : X.calm = true) : CallR X (.type "dict") (zDict X.K) := by
  intro pins s σ H xs us Q I r h
  unfold zDict at h
  split at h
  · rename_i a
    rcases h with ⟨ps, kvs, h1, h2, q⟩ | ⟨kvs, h1, q⟩
    · exact call_dictP hc pins s σ H _ us Q I r ⟨a, ps, kvs, rfl, h1, h2, fun p hp => q p _ (nw hp)⟩
    · obtain ⟨u, rfl, ru⟩ := vals1 r
      cases ru
      exact d_copyOf I (.inl h1) fun p s' hp J => ⟨.ref p, _, J, rfl, q p _ (nw hp)⟩
  · exact h.elim
theorem k_dict {X : Cx} (K : PySem.W.Frag) (hc : X.calm = true) (hK : X.K = K := by rfl) : CallR X (.type "dict") (zDict K) := hK ▸ c_dict hc
theorem law_gn {P : Program} {w : World} {K : PySem.W.Frag} {mg : Str → Option Value} {base : Heap} {CX : CXT} {k : Nat} {x : Str} {ps : List Str} {sp : Sp} {fa : Addr} {fd : FuncData} {oc : Value} {od : Option Addr} {osl : Array (Option Value)} (C : Cg P w K mg base CX k x ps sp) (hfa : mg x = some (.ref fa))
    (l : K.lookup fa = some ⟨oc, od, .func fd, osl⟩) : FnG P w K mg base CX k fa fd ps sp := by
  obtain ⟨f, fd', hm, _, _, F, oc', od', osl', hl⟩ := C.ex
  obtain rfl : f = fa := by
    rw [hm] at hfa
    cases hfa
    rfl
  obtain rfl : fd' = fd := by
    rw [hl] at l
    cases l
    rfl
  exact F
end Z

/-! X: own errors over an own class over Exception. -/
namespace Z
open PySem PySem.Spec PyProof.Rows L2

abbrev tailE : List Value := [.type "Exception", .type "BaseException", .type "object"]
/-- the classes of an error: its own, the package's, Exception's -/
def mroE (C B : Addr) : List Value := .ref C :: .ref B :: tailE
theorem mroE_has (C B : Addr) (Y : String) : (mroE C B).contains (.type Y) = tailE.contains (.type Y) := by
  unfold mroE
  rw [List.contains_cons, List.contains_cons]
  rfl
theorem mroE_pass (C B : Addr) (self : Value) : refuseLoop self "__setattr__" (mroE C B) = pure () := by
  unfold mroE
  rw [refuseLoop_ref, refuseLoop_ref]
  exact PySem.F.store_Exception.passes self
/-- what the written part says of an error's class -/
structure ErrC (K : PySem.W.Frag) (C B : Addr) : Prop where
  cls : ∃ nm q N bs sn sub ab col dd k0 k1 k2 k3 k5, K.lookup C = some (excClassObj nm q C N bs (.ref B :: tailE) true sn sub ab col dd k0 k1 k2 k3 k5 "Exception.__new__")
  sa : PySem.W.findIn K (.ref C) "__setattr__" = some (some (.builtin "object.__setattr__"))
  exC : PySem.W.subIn K (.ref C) (.type "BaseException") = some true
  tyC : PySem.W.typeIn K (.ref C) = some (.type "type")
  kC : PySem.W.keepIn K (.ref C) = true
section
open PySem.W PySem.Calls PySem.HandSPX Builtin Builtin.ObjectAttr
variable {prog : Program} {w : World} {A : Around} {R : Result → Shared → Prop} {hp : Heap} {g : Array GenState} {d : Drawn} {t : Nat} {os : OsState}
/-- the first field of an error -/
theorem first_field {K : PySem.W.Frag} {nm : Str} {tk : Tok} {v : Value} {x C B : Addr} {fv : Array Value} {cd : ClassData} (inK : K.In hp) (here : hp.get? x = some { cls := .ref C, data := .fields fv }) (kd : PySem.W.clsIn K C = some cd) (mro : cd.mro = mroE C B) (has : cd.hasDict = true)
    (own : PySem.W.findIn K (.ref C) nm = some none)
    (done : ∀ h' tk' dx, (∀ b o, b ≠ x → hp.get? b = some o → h'.get? b = some o) → hp.objs.size ≤ dx → dx ≠ x → h'.get? x = some { cls := .ref C, dict := some dx, data := .fields fv } → h'.Ns1 dx (fun y => if y = nm then some v else none) →
      R (.ok (.ret .none)) ⟨h', g, d, tk', os⟩) : codeAny (model prog w) A (.call (.builtin "object.__setattr__") ⟨[.ref x, .str nm tk, v], []⟩) R ⟨hp, g, d, t, os⟩ := by
  have at0 : PySem.W.InstAt hp x { cls := .ref C, data := .fields fv } C none := ⟨here, rfl, rfl, trivial⟩
  have far : x ≠ hp.objs.size := Nat.ne_of_lt (Heap.lt_size here)
  have obj : cd.mro.contains (.type "object") = true := by rw [mro, mroE_has]; decide +kernel
  have isObj : PySem.W.Looks (model prog w) hp (isInstance (.ref x) (.type "object")) true :=
    at0.type.andThen (PySem.W.looks_mroIn inK (by unfold PySem.W.mroIn; rw [kd, Option.bind_some, if_neg (by rw [mro]; exact Bool.false_ne_true), obj]))
  have St := PySem.F.store_object
  apply codeAny_call_builtin St.slot.plain St.entry
  apply @PySem.W.check_slot (model prog w) _ _ ⟨hp, g, d, t, os⟩ "object.__setattr__" "object" "__setattr__" (.ref x) [.str nm tk, v] [] _ St.kind St.split isObj (St.args (.ref x) (.str nm tk) v)
  have theMro : PySem.W.Looks (model prog w) hp (mroOf (.ref C)) cd.mro := PySem.W.Looks.andThen (PySem.W.looks_clsIn inK kd) .now
  have noTaker : PySem.W.Looks (model prog w) hp (storeTaker? none) none := .now
  have theCls : PySem.W.Looks (model prog w) hp (classData C) cd := PySem.W.looks_clsIn inK kd
  rw [PySem.W.osa_eq, refuse_eq]
  apply wpAny_bind
  apply wpAny_bind
  apply at0.type.at
  apply wpAny_bind
  apply theMro.at
  rw [mro, mroE_pass]
  apply wpAny_pure
  apply wpAny_bind
  apply at0.type.at
  apply wpAny_bind
  apply PySem.W.Looks.at (PySem.W.looks_findIn inK own)
  apply wpAny_bind
  apply noTaker.at
  show wpAny _ _ (storeInOwnDict (.ref x) (.ref C) (.str nm tk) nm v false) _ _ _
  cases cd with
  | mk n1 n2 n3 n4 n5 n6 n7 n8 n9 n10 n11 =>
    have n6t : n6 = true := has
    subst n6t
    unfold storeInOwnDict ownDictForStores
    repeat (first | with_reducible refine store_in_new ?_ ?_ | with_reducible refine wpAny_loadPart_at here ?_ | with_reducible refine theCls.at ?_ | wp_step)
    · exact ⟨_, #[], _, (Heap.get?_update_ne _ _ _ _ far.symm).trans (Heap.get?_push_at rfl rfl), rfl, fun e z => absurd z (by simp), fun _ => rfl⟩
    · intro h' tk' names but
      have there := Heap.get?_push_of_some { cls := .type "dict", data := .dict #[] } here
      refine done h' tk' hp.objs.size ?_ (Nat.le_refl _) far.symm ((but.2 x far).trans (Heap.get?_update_self _ there rfl)) names
      intro b o nb ob
      exact ((but.2 b (Nat.ne_of_lt (Heap.lt_size ob))).trans (Heap.get?_update_ne _ _ _ _ nb)).trans (Heap.get?_push_of_some _ ob)
end
section
variable {X : Cx} {pins : List (Addr × Obj)} {σ : L2.St} {H : Hp} {s : Shared} {a C B : Addr} {E : Value → Shared → Prop} {A : Around}
/-- the base's own part of the making: nothing of it is seen -/
theorem base_init {us : List Value} {Q : Value → Shared → Prop} (T : ErrC X.K C B) (I : Inv X pins σ H s) (e : H a = some (exo a C none)) (hl : us.length ≤ sizeLine) (h : ∀ s', Inv X pins σ H s' → Q .none s') :
    wpAny (model X.prog X.w) A (call (.builtin "Exception.__init__") (.ref a :: us)) Q E s := by
  obtain ⟨_, _, _, _, _, _, _, _, _, _, _, _, _, _, cl⟩ := T.cls
  obtain ⟨old, here⟩ := exo_at I.hok e
  cases s with
  | mk hp g d t os =>
    apply wpAny_call
    apply PySem.HandSPX.init_base PySem.F.excBase_Exception (fun Y => by rw [List.contains_cons]; rfl) (I.kIn _ _ cl) here hl
    intro h' new keep now
    have same : upd H a (exo a C none) = H := funext fun b => by
      unfold upd
      split
      · rename_i z
        rw [z, e]
      · rfl
    have J := I.write (t' := t) (x := a) (e := a) (o := exo a C none) (by rw [e]; exact True.intro) (Or.inl rfl) keep ⟨_, now⟩ (exo_ok now)
    rw [same] at J
    exact h _ J
/-- what is tracked as another kind stands elsewhere -/
theorem apart {b c : Addr} {o u : HO} (p : H b = some o) (q : H c = some u) (d : o ≠ u) : c ≠ b := fun z => d (by
  rw [z, p] at q
  exact Option.some.inj q)
/-- self.f = y, the first field -/
theorem err_set {f : Str} {y : V} {u : Value} {Q : Unit → Shared → Prop} (T : ErrC X.K C B) (I : Inv X pins σ H s) (e : H a = some (exo a C none)) (own : PySem.W.findIn X.K (.ref C) f = some none) (ry : RelV y u)
    (h : ∀ dx s', H dx = none → dx ≠ a → Inv X pins σ (upd (upd H dx (exd dx [(f, y)])) a (exo a C (some dx))) s' → Q () s') : wpAny (model X.prog X.w) A (setAttr (.ref a) f u) Q E s := by
  obtain ⟨m1, m2, m3, m4, m5, m6, m7, m8, m9, m10, m11, m12, m13, m14, cl⟩ := T.cls
  have kd : PySem.W.clsIn X.K C = some ⟨m1, m4, mroE C B, m3, m2, true, m5, m6, m7, m8, false⟩ := by
    unfold PySem.W.clsIn
    rw [cl]
    rfl
  obtain ⟨old, here⟩ := exo_at I.hok e
  cases s with
  | mk hp g d t os =>
    apply PySem.W.set_plain I.kIn (ox := { cls := .ref C, dict := none, data := .fields #[.ref old, .none, .none, .none, .bool false, .none] }) (od := none) ⟨here, rfl, rfl, trivial⟩ T.sa
    apply first_field I.kIn here kd rfl rfl own
    intro h' tk' dx keep big nd now names
    have none1 : H dx = none := I.hok.fresh big
    have off : ∀ {b : Addr} {o : Obj}, hp.get? b = some o → b ≠ dx := fun q => Nat.ne_of_lt (Nat.lt_of_lt_of_le (Heap.lt_size q) big)
    have offA : ∀ {b : Addr}, H b = none → b ≠ a := fun q z => by rw [z, e] at q; cases q
    have stays : ∀ {b : Addr} {o : HO}, H b = some o → o ≠ exo a C none → (upd (upd H dx (exd dx [(f, y)])) a (exo a C (some dx))) b = some o := fun {b o} q k => by
      rw [upd_ne (apart e q (fun z => k z.symm)), upd_ne (ne_of_none q none1)]
      exact q
    refine h dx _ none1 nd (I.un (t' := tk') ?_ ?_)
    · constructor
      · intro b o q n _ _
        exact keep b o (offA n) q
      · intro b o q n _ _
        exact ⟨o.slots, keep b o (offA n) q⟩
      · intro b o q n _
        rw [upd_ne (offA n), upd_ne (off q)]
        exact n
      · intro b o q _
        rcases Nat.decEq b a with z | z
        · exact ⟨o, keep b o z q⟩
        · exact ⟨_, z ▸ now⟩
      · intro b xs q
        exact stays q (fun z => exo_tup z.symm)
      · intro b o v q
        exact stays q (fun z => exo_frz z.symm)
      · intro b ps q
        exact ⟨#[], by rw [stays q (fun z => exo_tbl z.symm)]; simp⟩
    · intro b o q
      rcases Nat.decEq b a with z | z
      · rw [upd_ne z] at q
        rcases Nat.decEq b dx with zd | zd
        · rw [upd_ne zd] at q
          refine (I.hok b o q).stay ?_ (fun c k => stays k (fun z => exo_own z.symm)) fun c xs k => stays k (fun z => exo_tup z.symm)
          intro c v k p
          refine keep c v ?_ p
          rcases k with k | k
          · rw [k]; exact z
          · exact apart e k exo_own
        · subst zd
          rw [upd_same] at q
          cases q
          exact exd_ok names (relO_put (fs := []) ry fun _ => True.intro)
      · subst z
        rw [upd_same] at q
        cases q
        exact exo_ok now
end
section
variable {X : Cx} {C B : Addr}
/-- C(e, ..) where C's own __init__ keeps sp -/
theorem pmk_err {CX : CXT} {x : Str} {fI : Addr} {k : Nat} {fd : FuncData} {ps : List Str} {sp : Sp} {e : Expr} {es : List Expr} {ta : TA} {p pos : Pos} (T : ErrC X.K C B) (iC : PySem.W.findIn X.K (.ref C) "__init__" = some (some (.ref fI))) (tI : PySem.W.typeIn X.K (.ref fI) = some (.type "function"))
    (F1 : FnOk X.prog X.w X.K X.mg X.base CX k fI fd ps sp) (hr : Room (k + 1) X.A) (hb : Binds X.K fd ps []) (hx : Passes CX X (fun _ _ _ => False)) (hm : X.mg x = some (.ref C)) (ha : PA X (e :: es) ta) (hg : Gl X x := by rfl) (hdb : (x == ("__debug__" : Str)) = false := by decide)
    (he : starEach (e :: es) X.env = (false, eval e X.env) :: starEach es X.env := by rfl) (hpl : (backTo pos (starEach es X.env)).any (·.1) = false := by rfl) : PMk X (.Call (.Name x p) (e :: es) [] pos) (tMkO C sp [] ta) := by
  intro pins s σ H Q I h
  obtain ⟨_, _, _, _, _, _, _, _, _, _, _, _, _, _, cl⟩ := T.cls
  apply wpAny_Call_Name_kw
  refine ld_glob I hg hm (PySem.W.callWith_K (h₀ := X.base) I.ok.mod.kin T.kC ?_ he hpl) hdb
  · apply thn (ha.run pos pins s σ H _ I h)
    rintro us ⟨hp, g, dr, tk, os⟩ ⟨vs, H1, I1, r1, few, q1⟩
    refine ⟨I1.kIn, ?_⟩
    have later : hp.objs.size ≤ hp.objs.size + 1 := Nat.le_succ _
    have q2 := q1 _ (I1.hok.fresh later)
    rw [List.append_nil] at q2
    have more : ∀ b o, hp.get? b = some o → ((hp.push (PySem.W.kdv_tup us)).push (PySem.HandSPX.excO C hp.objs.size)).get? b = some o := fun _ _ z => Heap.get?_push_of_some _ (Heap.get?_push_of_some _ z)
    have new : ((hp.push (PySem.W.kdv_tup us)).push (PySem.HandSPX.excO C hp.objs.size)).get? (hp.objs.size + 1) = some (PySem.HandSPX.excO C hp.objs.size) := by heap_get
    have I2 := I1.laid (t' := tk) (o := exo (hp.objs.size + 1) C none) more later (exo_ok new)
    have r2 : Vals (V.ref (hp.objs.size + 1) :: vs) (Value.ref (hp.objs.size + 1) :: us) := .cons rfl r1
    have len : (Value.ref (hp.objs.size + 1) :: us).length = ps.length := r2.length.symm.trans (F1.len _ _ _ _ q2)
    have bind := hb _ (Value.ref (hp.objs.size + 1) :: us) I2.kIn (by simpa using len)
    rw [List.append_nil] at bind
    have fit : us.length ≤ sizeLine := by
      rw [← Paired.length r1, sizeLine_eq]
      omega
    apply wpAny_call
    apply PySem.HandSPX.call_own PySem.F.excBase_Exception (fun Y => by rw [List.contains_cons]; rfl) (I1.kIn _ _ cl) (PySem.W.looks_findIn I1.kIn iC) (fun self => PySem.W.bind_fn I1.kIn self tI) fit
    refine codeAny_mono (F1.run _ X.stack _ _ ⟨Value.ref (hp.objs.size + 1) :: us, []⟩ _ _ _ (fun _ _ _ => False) (hr.make C us []) (I2.env0.make C us []) bind r2 q2) ?_
    intro r s' z
    match r, s', z with
    | .error er, s', z => exact hx pins σ _ _ er s' I2 z
    | .ok (.ret u), ⟨h2, g2, d2, t2, os'⟩, ⟨v, H2, sos, sbare, sun, sok, rv, ev, d, fs, ea, ed, hd1, q3⟩ =>
      subst ev
      exact ⟨rv, mk_end (raises_own T.exC T.tyC) I1 later more sun sok sos sbare ea ed hd1 q3⟩
    | .ok .next, _, z => exact False.elim z
    | .ok .brk, _, z => exact False.elim z
    | .ok .cont, _, z => exact False.elim z
/-- self.f = e, the first field of an error -/
def tErr (K : PySem.W.Frag) (f : Str) (to te : TE) : TS := fun D σ H => te σ H fun y H1 => to σ H1 fun x H2 => ∃ a C B : Addr, x = .ref a ∧ ErrC K C B ∧ PySem.W.findIn K (.ref C) f = some none ∧ H2 a = some (exo a C none) ∧
  ∀ dx, H2 dx = none → dx ≠ a → D.nx σ (upd (upd H2 dx (exd dx [(f, y)])) a (exo a C (some dx)))
theorem ps_err {o e : Expr} {to te : TE} {f : Str} {p' pos : Pos} (ho : PE X o to) (he : PE X e te) (hs : swapsWith e (some (.Attribute o f p')) pos.line X.env = pure false := by rfl) : PS X (.Assign [.Attribute o f p'] e pos) (tErr X.K f to te) := by
  constructor
  intro pins s σ H D I h
  apply plainObj_wpAny_Assign_Attribute _ hs
  apply thn (he.run pins s σ H _ I h)
  rintro v s1 ⟨y, H1, I1, r1, q1⟩
  apply thn (ho.run pins s1 σ H1 _ I1 q1)
  rintro u s2 ⟨x, H2, I2, r2, a, C, B, rfl, T, own, ea, q⟩
  obtain rfl : u = Value.ref a := r2
  exact err_set T I2 ea own r1 fun dx s' n ne J => ⟨σ, _, J, q dx n ne⟩
/-- Base.__init__(self, ..) by the class's name -/
def tBI (K : PySem.W.Frag) (ta : TA) : TE := fun σ H Q => ta σ H fun vs H1 => ∃ (a C B : Addr) (ws : List V), vs = .ref a :: ws ∧ ws.length ≤ 1000 ∧ ErrC K C B ∧ H1 a = some (exo a C none) ∧ Q .non H1
theorem pe_binit {x : Str} {D : Addr} {mc : Value} {e : Expr} {es : List Expr} {ta : TA} {p1 p2 pos : Pos} {pl : Sem Bool} (hm : X.mg x = some (.ref D)) (sg : PySem.W.specialIn X.K (.ref D) "__getattribute__" = some (some (.builtin "type.__getattribute__"))) (rd : PySem.W.readsIn X.K D mc = true)
    (fv : PySem.W.findCls X.K (.ref D) mc "__init__" = some (.val (.builtin "Exception.__init__"))) (ha : PA X (e :: es) ta) (hg : Gl X x := by rfl) (hdb : (x == ("__debug__" : Str)) = false := by decide)
    (hc : eval (.Call (.Attribute (.Name x p1) "__init__" p2) (e :: es) [] pos) X.env = (do
      let ov ← eval (.Name x p1) X.env
      standAt p2.atName
      let (f, first) ← holding [ov] (getMethod ov "__init__" pl)
      callWith pos f first (backTo pos (starEach (e :: es) X.env)) (backToKw pos (keywordEach [] X.env))) := by rfl)
    (he : starEach (e :: es) X.env = (false, eval e X.env) :: starEach es X.env := by rfl) (hpl : (backTo pos (starEach es X.env)).any (·.1) = false := by rfl) : PE X (.Call (.Attribute (.Name x p1) "__init__" p2) (e :: es) [] pos) (tBI X.K ta) := by
  constructor
  intro pins s σ H Q I h
  refine PySem.W.methodCall_KW (ld_glob I hg hm ?_ hdb) hc
  refine PySem.W.method_cls I.kIn sg (PySem.W.cls_value I.kIn rd fv (by decide +kernel) ?_)
  refine callWith_method1 (thn (ha.run pos pins _ σ H _ (I.tok _) h) ?_) he hpl
  rintro us s1 ⟨vs, H1, I1, r1, a, C, B, ws, rfl, few, T, ea, q⟩
  cases r1 with
  | @cons _ u0 _ ur ra rest =>
    obtain rfl : u0 = Value.ref a := ra
    exact base_init T I1 ea (by rw [← Paired.length rest, sizeLine_eq]; omega) fun s' J => ⟨.non, H1, J, rfl, q⟩
end
end Z

/-! Y: defs that raise own errors, and try around them. -/
namespace Z
open PySem PySem.Spec PyProof.Rows L2

/-! ### defs that may raise -/
section
variable {P : Program} {w : World} {K : PySem.W.Frag} {mg : Str → Option Value} {base : Heap}
theorem cx1 {x : Str} {st : Stmt} {a : Str} {N : List Str} {k : Nat} {p : V → Hp → VK → XK → Prop} (D : Df K mg x st [a]) (S : FnScope N [a] (defScope st))
    (body : ∀ (f : Addr) (cdv : Value) (A : Around) (outer : List Env) (s : Shared) (H : Hp) (u : V) (Q : VK) (E : XK), Room k (A.deeper (envOfC x (defScope st) s.heap.objs.size f cdv)) → p u H Q E →
      ∃ t, PSs (cxOf (L2.CX P w) P w K mg base N x (defScope st) f cdv A outer s H E) (defBody st) t ∧ t { nx := fun _ H' => Q .non H', rt := Q } (start N [u]) H) : Ct P w K mg base (L2.CX P w) (k + 1) x [a] (sp1 p) := by
  obtain ⟨f, fd, F, hm, hb⟩ := D.ex
  refine ⟨f, fd, hm, F.kp, hb, F.okX S ?_ ?_, fun_at F⟩
  · intro vs H Q E h
    obtain ⟨u, rfl, _⟩ := sp1_of h
    rfl
  · intro cdv A outer s H vs Q E hr h
    obtain ⟨u, rfl, h⟩ := sp1_of h
    exact body f cdv A outer s H u Q E hr h
theorem cx2 {x : Str} {st : Stmt} {a b : Str} {N : List Str} {k : Nat} {p : V → V → Hp → VK → XK → Prop} (D : Df K mg x st [a, b]) (S : FnScope N [a, b] (defScope st))
    (body : ∀ (f : Addr) (cdv : Value) (A : Around) (outer : List Env) (s : Shared) (H : Hp) (u v : V) (Q : VK) (E : XK), Room k (A.deeper (envOfC x (defScope st) s.heap.objs.size f cdv)) → p u v H Q E →
      ∃ t, PSs (cxOf (L2.CX P w) P w K mg base N x (defScope st) f cdv A outer s H E) (defBody st) t ∧ t { nx := fun _ H' => Q .non H', rt := Q } (start N [u, v]) H) : Ct P w K mg base (L2.CX P w) (k + 1) x [a, b] (sp2 p) := by
  obtain ⟨f, fd, F, hm, hb⟩ := D.ex
  refine ⟨f, fd, hm, F.kp, hb, F.okX S ?_ ?_, fun_at F⟩
  · intro vs H Q E h
    obtain ⟨u, v, rfl, _⟩ := sp2_of h
    rfl
  · intro cdv A outer s H vs Q E hr h
    obtain ⟨u, v, rfl, h⟩ := sp2_of h
    exact body f cdv A outer s H u v Q E hr h
/-- an __init__ of two parameters -/
theorem ini2 {q : Str} {st : Stmt} {f : Addr} {fd : FuncData} {a b : Str} {N : List Str} {k : Nat} {p : V → V → Hp → VK → XK → Prop} (F : Fun K "__init__" q st f fd) (S : FnScope N [a, b] (defScope st))
    (body : ∀ (cdv : Value) (A : Around) (outer : List Env) (s : Shared) (H : Hp) (u v : V) (Q : VK) (E : XK), Room k (A.deeper (envOfC q (defScope st) s.heap.objs.size f cdv)) → p u v H Q E →
      ∃ t, PSs (cxOf CX0 P w K mg base N q (defScope st) f cdv A outer s H E).nox (defBody st) t ∧ t { nx := fun _ H' => Q .non H', rt := Q } (start N [u, v]) H) : FnOk P w K mg base CX0 (k + 1) f fd [a, b] (sp2 p) := by
  refine F.ok S ?_ ?_
  · intro vs H Q E h
    obtain ⟨u, v, rfl, _⟩ := sp2_of h
    rfl
  · intro cdv A outer s H vs Q E hr h
    obtain ⟨u, v, rfl, h⟩ := sp2_of h
    exact body cdv A outer s H u v Q E hr h
end
/-- what an error's own __init__ leaves: its one field -/
def spIni (C : Addr) (f : Str) : Sp := sp2 fun u v H Q _ => ∃ a, u = .ref a ∧ H a = some (exo a C none) ∧ ∀ dx, H dx = none → dx ≠ a → Q .non (upd (upd H dx (exd dx [(f, v)])) a (exo a C (some dx)))
/-- an error's class, under its name -/
structure Er (P : Program) (w : World) (K : PySem.W.Frag) (mg : Str → Option Value) (base : Heap) (k : Nat) (x f : Str) (C : Addr) : Prop where
  name : mg x = some (.ref C)
  ex : ∃ (B fI : Addr) (fd : FuncData) (ps : List Str), ErrC K C B ∧ PySem.W.findIn K (.ref C) "__init__" = some (some (.ref fI)) ∧ PySem.W.typeIn K (.ref fI) = some (.type "function") ∧ FnOk P w K mg base CX0 k fI fd ps (spIni C f) ∧ Binds K fd ps []
/-- what is asked of a caught error -/
structure Es (K : PySem.W.Frag) (C : Addr) : Prop where
  xf : XfC K C
  ty : PySem.W.typeIn K (.ref C) = some (.type "type")
  ha : PySem.W.findIn K (.ref C) "__class__" = some (some (.builtin "object.__class__"))
  hn : PySem.W.specialIn K (.builtin "object.__class__") "__get__" = some (some (.builtin "getset_descriptor.__get__"))
  ht : PySem.W.takesIn K (.builtin "object.__class__") = some true
  hm : PySem.W.mroIn K C (.type "object") = some true
theorem Es.exm {K : PySem.W.Frag} {C : Addr} {c : Value} {b : Bool} (S : Es K C) (h : PySem.W.subIn K c (.ref C) = some b) : PySem.W.exmOne K c (.ref C) = some b := PySem.W.exm_ref S.xf.exC S.xf.hdC S.ty h
section
variable {X : Cx}
/-- raise C(e) -/
def tRz (C : Addr) (f : Str) (t : TA) (W : WX) : TS := fun _ σ H => t σ H fun vs H1 => match vs with
  | [v] => ∀ d H2, Nw H1 d (.xd [(f, v)]) H2 → W (.ref C) (some d) σ H2
  | _ => False
theorem ps_rz {W : WX} {k : Nat} {x f : Str} {C : Addr} {e : Expr} {t : TA} {p p2 pos : Pos} (hc : X.calm = true) (tk : Takes X W) (R : Er X.prog X.w X.K X.mg X.base k x f C) (hr : Room (k + 1) X.A) (ha : PA X [e] t) (hg : Gl X x := by rfl) (hdb : (x == ("__debug__" : Str)) = false := by decide)
    (he : starEach [e] X.env = (false, eval e X.env) :: starEach [] X.env := by rfl) (hpl : (backTo p2 (starEach [] X.env)).any (·.1) = false := by rfl) : PS X (.Raise (some (.Call (.Name x p) [e] [] p2)) none pos) (tRz C f t W) := by
  obtain ⟨B, fI, fd, ps, T, iC, tI, F, hb⟩ := R.ex
  refine ps_w (ps_raise hc tk (pmk_err T iC tI F hr hb pass0 R.name (pa_mon ha) hg hdb he hpl)) ?_
  intro D σ H h
  refine ⟨_, h, ?_⟩
  intro vs H1 h1
  split at h1
  · rename_i v
    refine ⟨by show 1 ≤ 1000; decide, fun a na => ?_⟩
    refine ⟨a, rfl, upd_same, fun dx nd ne => ⟨rfl, dx, [(f, v)], upd_same, ?_, ?_, ?_⟩⟩
    · rw [upd_ne ne, upd_same]
    · rw [upd_ne ne] at nd
      exact nd
    · rw [upd_ne ne] at nd
      have e : upd (del (upd (upd (upd H1 a (exo a C none)) dx (exd dx [(f, v)])) a (exo a C (some dx))) a) dx (.xd [(f, v)]) = upd H1 dx (.xd [(f, v)]) := by
        funext b
        by_cases z : b = dx
        · rw [z, upd_same, upd_same]
        · rw [upd_ne z, upd_ne z]
          by_cases y : b = a
          · rw [y, del_same, na]
          · rw [del_ne y, upd_ne y, upd_ne z, upd_ne y]
      rw [e]
      exact h1 dx _ (nw nd)
  · exact h1.elim
/-- a call that may let an error out -/
theorem pe_clS {W : WX} {k : Nat} {x : Str} {ps : List Str} {sp : Sp} {p pos : Pos} {e : Expr} {es : List Expr} {t : TA} (C : Ct X.prog X.w X.K X.mg X.base (L2.CX X.prog X.w) k x ps sp) (hr : Room k X.A) (tk : Takes X W) (ha : PA X (e :: es) t) (hg : Gl X x := by rfl)
    (hdb : (x == ("__debug__" : Str)) = false := by decide) (he : starEach (e :: es) X.env = (false, eval e X.env) :: starEach es X.env := by rfl) (hpl : (backTo pos (starEach es X.env)).any (·.1) = false := by rfl) : PE X (.Call (.Name x p) (e :: es) [] pos) (tCallS sp (WE W) t) := by
  obtain ⟨f, fd, hm, hk, hb, F, _⟩ := C.ex
  exact pe_callS F hr hg hm hk hb (passAt tk) ha hdb he hpl
def tClKS (g : {α : Type} → List α → List α) (sp : Sp) (E : L2.St → XK) (t : TA) : TE := fun σ H Q => t σ H fun zs H1 => sp (g zs) H1 Q (E σ)
theorem pe_clKS {W : WX} {k : Nat} {x : Str} {ps ks : List Str} {g : {α : Type} → List α → List α} {sp : Sp} {p pos : Pos} {kws : List Keyword} {t : TA} (C : CtK X.prog X.w X.K X.mg X.base (L2.CX X.prog X.w) k x ps ks g sp) (hr : Room k X.A) (tk : Takes X W)
    (hkw : PK X kws t) (hg : Gl X x := by rfl) (hall : (backToKw pos (keywordEach kws X.env)).all (·.1.isSome) = true := by rfl) (hks : (backToKw pos (keywordEach kws X.env)).filterMap (·.1) = ks := by rfl)
    (hdb : (x == ("__debug__" : Str)) = false := by decide) (hpl : ((backTo pos (starEach [] X.env)).any (·.1) || (backToKw pos (keywordEach kws X.env)).any (·.1.isNone)) = false := by rfl) :
    PE X (.Call (.Name x p) [] kws pos) (tClKS g sp (WE W) t) := by
  obtain ⟨f, fd, hm, hk, hb, hrel, F⟩ := C.ex
  constructor
  intro pins s σ H Q I h
  apply wpAny_Call_Name_kw
  refine ld_glob I hg hm (PySem.W.callWith_KW0 (h₀ := X.base) I.ok.mod.kin hk hall ?_ hpl) hdb
  apply thn (hkw.run pos pins s σ H _ I h)
  rintro ws s1 ⟨zs, H1, I1, rz, q⟩
  refine ⟨I1.kIn, ?_⟩
  rw [hks]
  have r2 := hrel rz
  have hl : (g ws).length = ps.length := r2.length.symm.trans (F.len _ _ _ _ q)
  apply wpAny_call
  refine codeAny_mono (F.run X.A X.stack s1 H1 ⟨[], ks.zip ws⟩ (g ws) (g zs) Q (WE W σ) hr I1.env0 (hb s1 ws hl) r2 q) ?_
  intro r s' z
  match r, z with
  | .error er, z => exact passAt tk σ pins H1 s1 er s' I1 z
  | .ok (.ret u), z => exact I1.after z
  | .ok .next, z => exact False.elim z
  | .ok .brk, z => exact False.elim z
  | .ok .cont, z => exact False.elim z
end

/-! ### try with several clauses, each with a name -/
/-- behind a clause its name is gone -/
def gone (i : Nat) (D : Ends) : Ends := { nx := fun σ' H' => D.nx (σ'.set i none) H', rt := D.rt, bk := fun σ' H' => D.bk (σ'.set i none) H', ct := fun σ' H' => D.ct (σ'.set i none) H' }
/-- what the clauses wish of an error: its class, the place of its name, what is read there -/
def wClauses (K : PySem.W.Frag) (Wout : WX) (D : Ends) : List (Value × Nat × (Addr → Value → Option Addr → TS)) → WX
  | [] => Wout
  | (c, i, ts) :: r => fun cls d σ H => ∃ b, PySem.W.exmOne K cls c = some b ∧ (b = true → ∀ a, H a = none → ts a cls d (gone i D) (σ.set i (some (.ref a))) H) ∧ (b = false → wClauses K Wout D r cls d σ H)
inductive Clauses (X : Cx) : List ExceptHandler → List (Value × Nat × (Addr → Value → Option Addr → TS)) → Prop
  | nil : Clauses X [] []
  | cons {x n : Str} {c : Value} {i : Nat} {ts : Addr → Value → Option Addr → TS} {first : Stmt} {more : List Stmt} {np hp : Pos} {hds : List ExceptHandler} {l : List (Value × Nat × (Addr → Value → Option Addr → TS))} (names : Names X x c) (slot : X.N[i]? = some n) (loc : X.env.kindOf n = some .local)
      (suite : ∀ (a : Addr) (oe : Obj) (cls : Value) (d : Option Addr) (pn : List (Addr × Obj)), Zc cls d oe → (∃ vs, oe.data = .fields vs) → PSs (X.suite a ((a, oe) :: pn)) (first :: more) (ts a cls d)) (rest : Clauses X hds l) :
      Clauses X (.ExceptHandler (some (.Name x np)) (some n) (first :: more) hp :: hds) ((c, i, ts) :: l)
  | bare {x : Str} {c : Value} {i : Nat} {ts : Addr → Value → Option Addr → TS} {first : Stmt} {more : List Stmt} {np hp : Pos} {hds : List ExceptHandler} {l : List (Value × Nat × (Addr → Value → Option Addr → TS))} (names : Names X x c) (far : X.N.length ≤ i)
      (suite : ∀ (a : Addr) (oe : Obj) (cls : Value) (d : Option Addr) (pn : List (Addr × Obj)), Zc cls d oe → (∃ vs, oe.data = .fields vs) → PSs (X.suite a ((a, oe) :: pn)) (first :: more) (ts a cls d)) (rest : Clauses X hds l) :
      Clauses X (.ExceptHandler (some (.Name x np)) none (first :: more) hp :: hds) ((c, i, ts) :: l)
section
variable {X : Cx} {body : List Stmt} {h1 : ExceptHandler} {hds : List ExceptHandler} {l : List (Value × Nat × (Addr → Value → Option Addr → TS))} {pos : Pos} {tb : WX → TS} {Wout : WX}
theorem ps_tryC (hs : X.stack = X.env :: X.outer) (hf : X.env.frame = some X.env.locals) (hN : X.N.Nodup) (tk : Takes X Wout)
    (hb : ∀ (W : WX) (pn : List (Addr × Obj)) (xe : Value → Shared → Prop), Takes (X.tr pn xe) W → PassesOwn (model X.prog X.w) X.A X.env xe → PSs (X.tr pn xe) body (tb W))
    (cl : Clauses X (h1 :: hds) l) : PS X (.Try body (h1 :: hds) [] [] pos) (fun D σ H => tb (wClauses X.K Wout D l) D σ H) := by
  constructor
  intro pins s σ H D I h
  have ok := I.ok
  have frames : X.A.frames = some (X.env :: X.outer) := by
    rw [ok.frames, hs]
  apply wpAny_Try_except
  refine wpAny_mono ((hb (wClauses X.K Wout D l) (X.pn ++ pins) (fun e z1 => wpAny (model X.prog X.w) X.A (noteFrame e X.env) (fun _ z2 => wpAny (model X.prog X.w) X.A (setFlight e none) (fun _ z3 =>
    wpAny (model X.prog X.w) X.A (handleBy e X.env (h1 :: hds)) (SP X pins D) X.xe z3) X.xe z2) X.xe z1) ?_ PassesOwn.looking).run [] s σ H D (I.toTry _) h) ?_ (fun _ _ z => z)
  · rintro u s' ⟨a, G, sI, pins', σ1, Ha, cls, d, rfl, Jt, apart, up, sky, na, os, ag, wish⟩
    have J : Inv X pins σ1 Ha sI := Jt.ofTry ok
    rw [show (X.tr (X.pn ++ pins) _).stack = X.stack from rfl, hs] at sky
    show wpAny (model X.prog X.w) X.A (noteFrame (.ref a) X.env) _ _ _
    apply Sky.land Zc.steady frames hf sky
    intro hp fly upp
    have Jh : Inv X pins σ1 Ha { s' with heap := hp } := J.landed apart fly.1 (up.trans upp) os ag
    obtain ⟨oe, fv, here, hz, hd⟩ := fly.there
    have noFrame : a ∉ frs (X.env :: X.outer) := by
      intro m
      obtain ⟨_, o', e', nf⟩ := fly.2.2.1.mem m
      rw [here] at e'
      cases e'
      exact nf _ hd
    have offL : a ≠ X.env.locals := by
      intro z
      apply noFrame
      apply List.mem_filterMap.mpr
      exact ⟨X.env, List.mem_cons_self, by rw [hf, z]⟩
    have offF : a ∉ X.fs := by
      intro m
      obtain ⟨e, he, q⟩ := List.mem_filterMap.mp m
      exact noFrame (List.mem_filterMap.mpr ⟨e, List.mem_cons_of_mem _ he, q⟩)
    have Js := Jh.suite here hd na offL offF
    have all : ∀ {hds' : List ExceptHandler} {l' : List (Value × Nat × (Addr → Value → Option Addr → TS))}, Clauses X hds' l' → wClauses X.K Wout D l' cls d σ1 Ha → wpAny (model X.prog X.w) X.A (handleBy (.ref a) X.env hds') (SP X pins D) X.xe { s' with heap := hp } := by
      intro hds' l' c
      induction c with
      | nil =>
        intro wish
        apply wpAny_handleBy_nil
        obtain ⟨_, _, _, _, _, T, _, _, there, _, dd, one, _⟩ := id fly
        unfold PySem.passOn
        apply wpAny_bind
        apply wpAny_field there dd one
        rw [if_neg (show ¬ ((Value.ref T == Value.none) = true) by simp)]
        have fin : wpAny (model X.prog X.w) X.A (setFlight (.ref a) X.env.frame) (fun _ z => wpAny (model X.prog X.w) X.A (throw (.ref a) : Sem Flow) (SP X pins D) X.xe z) X.xe { s' with heap := hp } := by
          rw [hf]
          apply HandSPX.setFlight_upZ fly
          intro h4 held upq
          apply wpAny_throw
          apply tk
          exact ⟨a, G, sI, pins, σ1, Ha, cls, d, rfl, J, apart, (up.trans upp).trans upq, .inr (.inr (by rw [hs]; exact held)), na, os, ag, wish⟩
        first
          | exact wpAny_bind (wpAny_pure (wpAny_bind fin))
          | exact wpAny_bind fin
      | @cons x n c i ts first more np hpos hds2 l2 names slot loc suite rest ih =>
        rintro ⟨b, ask, yes, no⟩
        apply wpAny_handleBy_cons _ (by intro q; cases q)
        apply codeAny_handlers_test
        have looks : PySem.W.Looks (model X.prog X.w) hp (typeOf (.ref a)) cls := fun A Q E z k q => wpAny_typeOf_ref (k _ _ here) (by rw [hz.1]; exact q)
        have named : ∀ {Q : Value → Shared → Prop} {E : Value → Shared → Prop}, Q c { s' with heap := hp } → wpAny (model X.prog X.w) (X.A.mark (some (.ref a))) (eval (.Name x np) X.env) Q E { s' with heap := hp } := by
          intro Q E q
          obtain ⟨hg, hdb, hm | ⟨hm, hv, hnn⟩⟩ := names
          · exact ld_glob (X := X.suite a ((a, oe) :: (X.pn ++ pins))) Js hg hm q hdb
          · exact ld_blt (X := X.suite a ((a, oe) :: (X.pn ++ pins))) Js hg hm hv q hnn hdb
        apply named
        apply (PySem.W.exm_one (M := model X.prog X.w) Jh.kIn looks ask).here
        cases b with
        | false => exact ih (no rfl)
        | true =>
          apply codeAny_handlers_suite_as
          apply HandSPX.lands_againZ fly
          intro h4 fly4 up4
          have J4 : Inv X pins σ1 Ha { s' with heap := h4 } := J.landed apart fly4.1 ((up.trans upp).trans up4) os ag
          obtain ⟨oe4, fv4, here4, hz4, hd4⟩ := fly4.there
          have S4 := J4.suite here4 hd4 na offL offF
          refine store_ok (X := X.suite a ((a, oe4) :: (X.pn ++ pins))) (v := .ref a) S4 hN slot (.inl loc) rfl ?_ (.inr loc)
          intro s5 S5
          have fin : ∀ {σ6 : L2.St} {H6 : Hp} {s6 : Shared} {Q : Shared → Prop}, Inv (X.suite a ((a, oe4) :: (X.pn ++ pins))) [] σ6 H6 s6 → (∀ s7, Inv X pins (σ6.set i none) H6 s7 → Q s7) →
              wpAny (model X.prog X.w) X.A (do bindName X.env n .none; unbindBehindTheSuite X.env n hpos) (fun _ s7 => Q s7) X.xe s6 := fun S6 hq => gone_ok (S6.unsuite ok) hN slot loc hq
          refine wpAny_mono ((suite a oe4 cls d (X.pn ++ pins) hz4 ⟨_, hd4⟩).run [] s5 _ Ha _ S5 (yes rfl a na)) ?_ (fun _ _ z => False.elim z)
          intro f s6 out
          cases f with
          | next =>
            obtain ⟨_, _, S6, q⟩ := out
            exact fin S6 fun _ J7 => ⟨_, _, J7, q⟩
          | brk =>
            obtain ⟨_, _, S6, q⟩ := out
            exact fin S6 fun _ J7 => ⟨_, _, J7, q⟩
          | cont =>
            obtain ⟨_, _, S6, q⟩ := out
            exact fin S6 fun _ J7 => ⟨_, _, J7, q⟩
          | ret u =>
            obtain ⟨_, _, _, S6, rv, q⟩ := out
            exact fin S6 fun _ J7 => ⟨_, _, _, J7, rv, q⟩
      | @bare x c i ts first more np hpos hds2 l2 names far suite rest ih =>
        rintro ⟨b, ask, yes, no⟩
        apply wpAny_handleBy_cons _ (by intro q; cases q)
        apply codeAny_handlers_test
        have looks : PySem.W.Looks (model X.prog X.w) hp (typeOf (.ref a)) cls := fun A Q E z k q => wpAny_typeOf_ref (k _ _ here) (by rw [hz.1]; exact q)
        have named : ∀ {Q : Value → Shared → Prop} {E : Value → Shared → Prop}, Q c { s' with heap := hp } → wpAny (model X.prog X.w) (X.A.mark (some (.ref a))) (eval (.Name x np) X.env) Q E { s' with heap := hp } := by
          intro Q E q
          obtain ⟨hg, hdb, hm | ⟨hm, hv, hnn⟩⟩ := names
          · exact ld_glob (X := X.suite a ((a, oe) :: (X.pn ++ pins))) Js hg hm q hdb
          · exact ld_blt (X := X.suite a ((a, oe) :: (X.pn ++ pins))) Js hg hm hv q hnn hdb
        apply named
        apply (PySem.W.exm_one (M := model X.prog X.w) Jh.kIn looks ask).here
        cases b with
        | false => exact ih (no rfl)
        | true =>
          apply codeAny_handlers_suite
          apply HandSPX.lands_againZ fly
          intro h4 fly4 up4
          have J4 : Inv X pins σ1 Ha { s' with heap := h4 } := J.landed apart fly4.1 ((up.trans upp).trans up4) os ag
          obtain ⟨oe4, fv4, here4, hz4, hd4⟩ := fly4.there
          have S4 := J4.suite here4 hd4 na offL offF
          have same : ∀ {σ' : L2.St} {v : Option V}, σ'.length = X.N.length → σ'.set i v = σ' := fun {σ' v} hl => List.set_eq_of_length_le (by rw [hl]; exact far)
          have yes' := yes rfl a na
          rw [same J.len] at yes'
          refine wpAny_mono ((suite a oe4 cls d (X.pn ++ pins) hz4 ⟨_, hd4⟩).run [] _ _ Ha _ S4 yes') ?_ (fun _ _ z => False.elim z)
          intro f s6 out
          cases f with
          | next =>
            obtain ⟨_, _, S6, q⟩ := out
            have q : D.nx _ _ := q
            rw [same S6.len] at q
            exact ⟨_, _, S6.unsuite ok, q⟩
          | brk =>
            obtain ⟨_, _, S6, q⟩ := out
            have q : D.bk _ _ := q
            rw [same S6.len] at q
            exact ⟨_, _, S6.unsuite ok, q⟩
          | cont =>
            obtain ⟨_, _, S6, q⟩ := out
            have q : D.ct _ _ := q
            rw [same S6.len] at q
            exact ⟨_, _, S6.unsuite ok, q⟩
          | ret u =>
            obtain ⟨_, _, _, S6, rv, q⟩ := out
            exact ⟨_, _, _, S6.unsuite ok, rv, q⟩
    exact all cl wish
  · intro f s1 out
    cases f with
    | next =>
      obtain ⟨_, _, Jt, q⟩ := out
      exact wpAny_execs_nil ⟨_, _, Jt.ofTry ok, q⟩
    | brk =>
      obtain ⟨_, _, Jt, q⟩ := out
      exact ⟨_, _, Jt.ofTry ok, q⟩
    | cont =>
      obtain ⟨_, _, Jt, q⟩ := out
      exact ⟨_, _, Jt.ofTry ok, q⟩
    | ret u =>
      obtain ⟨_, _, _, Jt, rv, q⟩ := out
      exact ⟨_, _, _, Jt.ofTry ok, rv, q⟩
end
/-- isinstance(e, c) of the error that a clause holds -/
def rIsC (K : PySem.W.Frag) (cls : Value) (d : Option Addr) (a : Addr) : List V → Hp → VK → Prop := fun xs H Q => match xs with
  | [.ref a', .ref c] => ∃ (C dd : Addr) (fs : List (Str × V)) (b : Bool), a' = a ∧ cls = .ref C ∧ d = some dd ∧ H dd = some (.xd fs) ∧ Es K C ∧ PySem.W.kitOne K (.ref C) (.ref c) = some b ∧ Q (.bl b) H
  | _ => False
theorem c_isC {X : Cx} {a : Addr} {oe : Obj} {cls : Value} {d : Option Addr} {pn : List (Addr × Obj)} (hz : Zc cls d oe) (hf : ∃ vs, oe.data = .fields vs) : CallR (X.suite a ((a, oe) :: pn)) (.builtin "isinstance") (rIsC X.K cls d a) := by
  intro pins s σ H xs us Q I r h
  unfold rIsC at h
  split at h
  · rename_i a' c
    obtain ⟨C, dd, fs, b, rfl, rfl, rfl, hx, S, ask, q⟩ := h
    cases r with
    | cons r1 rr =>
      cases rr with
      | cons r2 rr =>
        cases rr
        cases r1
        cases r2
        obtain ⟨here, _⟩ := I.pin (a', oe) (List.mem_append.mpr (.inl List.mem_cons_self))
        obtain ⟨vs, hd⟩ := hf
        obtain ⟨mA, ns, _⟩ := (show ObjOk X.prog X.w H s.heap dd (.xd fs) from I.hok dd _ hx)
        obtain ⟨od, ho, _⟩ := lookIn_ns ns
        have J : PySem.W.InstAt s.heap a' oe C (some od) := ⟨here, hz.1, by unfold PySem.W.notCls; rw [hd] <;> rfl, by rw [hz.2]; exact ho⟩
        have cl : (PySem.W.clsIn X.K C).isSome = true := by
          obtain ⟨cd, hc, _⟩ := PySem.W.any_some S.xf.hdC
          rw [hc]
          rfl
        exact PySem.W.kia_one (PySem.W.kitx_exc cl S.xf.ga S.xf.gg S.xf.exC S.ha S.hn S.ht S.hm) I.kIn J ask (fun z => nomatch z) fun tk => ⟨.bl b, H, I.tok _, rfl, q⟩
  · exact h.elim
theorem k_isC {X : Cx} (K : PySem.W.Frag) {a : Addr} {oe : Obj} {cls : Value} {d : Option Addr} {pn : List (Addr × Obj)} (hz : Zc cls d oe) (hf : ∃ vs, oe.data = .fields vs) (hK : X.K = K := by rfl) : CallR (X.suite a ((a, oe) :: pn)) (.builtin "isinstance") (rIsC K cls d a) := hK ▸ c_isC hz hf
/-- the class of that name at the top -/
def clsAt (K : PySem.W.Frag) (x : Str) (C : Addr) : Prop := PySem.W.nsIn K mainGlobals x = some (some (.ref C))
theorem clsAt.one {K : PySem.W.Frag} {x : Str} {C D : Addr} (a : clsAt K x C) (b : clsAt K x D) : C = D := by
  unfold clsAt at a b
  rw [a] at b
  cases b
  rfl
/-- what is asked of the base whose __init__ is called by its name -/
structure BaseC (K : PySem.W.Frag) (B : Addr) : Prop where
  ex : ∃ mc, PySem.W.specialIn K (.ref B) "__getattribute__" = some (some (.builtin "type.__getattribute__")) ∧ PySem.W.readsIn K B mc = true ∧ PySem.W.findCls K (.ref B) mc "__init__" = some (.val (.builtin "Exception.__init__"))
/-- an error of the class x with this field leaves -/
def Rz (K : PySem.W.Frag) (x f : Str) (v : V) (H : Hp) (E : XK) : Prop := ∀ C d H2, clsAt K x C → Same H H2 → H2 d = some (.xd [(f, v)]) → E (.ref C) (some d) H2
theorem Rz.go {K : PySem.W.Frag} {x f : Str} {v : V} {H H1 H2 : Hp} {E : XK} {C d : Addr} (h : Rz K x f v H E) (c : clsAt K x C) (s : Same H H1) (n : Nw H1 d (.xd [(f, v)]) H2) : E (.ref C) (some d) H2 := h C d H2 c (s.trans n.same) n.here
/-- a list some times over -/
def zRepL : R2 := fun x y H Q => match x, y with
  | .ref l, .int k => ∃ xs, H l = some (.lst xs) ∧ -(2 ^ 63) ≤ k ∧ k < 2 ^ 63 ∧ xs.length * k.toNat ≤ sizeLine ∧ ∀ p H2, Nw H p (.lst (List.replicate k.toNat xs).flatten) H2 → Q (.ref p) H2
  | _, _ => False
theorem o_repL {X : Cx} : OpR X (binaryOp .Mult) zRepL := by
  intro pins s σ H x y v u Q I rx ry h
  unfold zRepL at h
  split at h
  · obtain ⟨xs, h1, h2, h3, h4, q⟩ := h
    exact op_rep pins s σ H _ _ v u Q I rx ry ⟨_, _, xs, rfl, rfl, h1, h2, h3, h4, fun p hp => q p _ (nw hp)⟩
  · exact h.elim
/-- what stands in a class -/
def clsB : Stmt → List Stmt
  | .ClassDef (body := inside) .. => inside
  | _ => []
theorem ct0 {P : Program} {w : World} {K : PySem.W.Frag} {mg : Str → Option Value} {base : Heap} {x : Str} {st : Stmt} {N : List Str} {k : Nat} {p : Hp → VK → XK → Prop} (D : Df K mg x st []) (S : FnScope N [] (defScope st))
    (body : ∀ (f : Addr) (cdv : Value) (A : Around) (outer : List Env) (s : Shared) (H : Hp) (Q : VK) (E : XK), Room k (A.deeper (envOfC x (defScope st) s.heap.objs.size f cdv)) → p H Q E →
      ∃ t, PSs (cxOf CX0 P w K mg base N x (defScope st) f cdv A outer s H E).nox (defBody st) t ∧ t { nx := fun _ H' => Q .non H', rt := Q } (start N []) H) : Ct P w K mg base CX0 (k + 1) x [] (fun vs H Q E => vs = [] ∧ p H Q E) := by
  obtain ⟨f, fd, F, hm, hb⟩ := D.ex
  refine ⟨f, fd, hm, F.kp, hb, F.ok S ?_ ?_, fun_at F⟩
  · intro vs H Q E h
    rw [h.1]
    rfl
  · intro cdv A outer s H vs Q E hr h
    obtain ⟨rfl, h⟩ := h
    exact body f cdv A outer s H Q E hr h
/-- d[k] = v -/
def zSetD : V → V → V → Hp → (Hp → Prop) → Prop := fun o i v H Q => match o with
  | .ref a => ∃ kvs k, H a = some (.dK kvs) ∧ i = kV k ∧ kvs.length < sizeLine ∧ ∀ H2, Wr H a (.dK (putK kvs k v)) H2 → Q H2
  | _ => False
theorem s_dict {X : Cx} (hu : X.A.units + 1 < cLine) : PSet X zSetD := by
  intro pins s σ H o i v ov iv u Q I ro ri rv h
  unfold zSetD at h
  split at h
  · obtain ⟨kvs, k, ea, rfl, hl, q⟩ := h
    cases ro
    exact d_setItem hu I (DPut.k ea hl) ri rv fun s' J => ⟨_, J, q _ wr⟩
  · exact h.elim
/-- range(a, b) -/
def tRng2 (ta : TA) : TI := fun σ H R => ta σ H fun vs H1 => match vs with
  | [.int i, .int j] => -(2 ^ 62) ≤ i ∧ i < 2 ^ 62 ∧ -(2 ^ 62) ≤ j ∧ j < 2 ^ 62 ∧ R (Itr i (j - i).toNat) H1
  | _ => False
theorem pi_rng2 {X : Cx} {tg a b : Expr} {ta : TA} {p pos : Pos} (hg : Gl X "range") (hm : X.mg "range" = none) (ha : PA X [a, b] ta) (hs : starEach [a, b] X.env = [(false, eval a X.env), (false, eval b X.env)] := by rfl) (hs2 : starEach [b] X.env = [(false, eval b X.env)] := by rfl) :
    PI X tg (.Call (.Name "range" p) [a, b] [] pos) (tRng2 ta) :=
  pi_w (pi_range2 hg hm (pa_mon ha) hs hs2) fun σ H R h => ⟨_, h, fun vs H1 h1 => by
    split at h1
    · obtain ⟨a1, a2, a3, a4, q⟩ := h1
      exact ⟨_, _, rfl, ⟨a1, a2, a3, a4⟩, q⟩
    · exact h1.elim⟩
/-! ### lists that may be shown beside a dict: they do not lie where the modules do -/
def zAddS (K : PySem.W.Frag) : R2 := fun x y H Q => match x, y with
  | .ref l, .ref b => ∃ xs zs, H l = some (.lst xs) ∧ H b = some (.lst zs) ∧ xs.length + zs.length ≤ sizeLine ∧ ∀ p H2, Nw H p (.lst (xs ++ zs)) H2 → p ≠ sysModules → Q (.ref p) H2
  | x, y => zAdd K x y H Q
theorem o_addS {X : Cx} : OpR X (binaryOp .Add) (zAddS X.K) := by
  intro pins s σ H x y v u Q I rx ry h
  unfold zAddS at h
  split at h
  · rename_i l b
    obtain ⟨xs, zs, h1, h2, hz, q⟩ := h
    cases rx
    cases ry
    obtain ⟨z1, its, n, r, hl, e⟩ := I.lstM h1
    obtain ⟨z2, its2, n2, r2, hl2, e2⟩ := I.lstM h2
    refine PySem.P.add_list e e2 ?_ (by rw [List.size_toArray, List.size_toArray]; omega)
    rw [show its.toArray ++ its2.toArray = (its ++ its2).toArray by simp]
    exact ⟨.ref _, _, I.lnew (t' := s.toks) (r.append r2) (by rw [List.length_append]; omega), rfl, q _ _ (nw I.fresh) (Nat.ne_of_gt I.big)⟩
  · exact o_add pins s σ H _ _ v u Q I rx ry h
theorem k_addS {X : Cx} (K : PySem.W.Frag) (hK : X.K = K := by rfl) : OpR X (binaryOp .Add) (zAddS K) := hK ▸ o_addS
def zListS (K : PySem.W.Frag) : List V → Hp → VK → Prop := fun vs H Q => match vs with
  | [.ref p] => ∃ ys, (SqL K H p ys ∨ SqT K H p ys) ∧ ∀ l H2, Nw H l (.lst ys) H2 → l ≠ sysModules → Q (.ref l) H2
  | _ => False
theorem c_listS {X : Cx} : CallR X (.type "list") (zListS X.K) := by
  intro pins s σ H xs us Q I r h
  unfold zListS at h
  split at h
  · rename_i p
    obtain ⟨ys, hq, q⟩ := h
    obtain ⟨u, rfl, ru⟩ := vals1 r
    cases ru
    have put : ∀ (its : List Value), Vals ys its → ys.length ≤ sizeLine → ∀ (h' : Heap) (n : Nat), (∀ b o, s.heap.get? b = some o → h'.get? b = some o) →
        h'.get? s.heap.objs.size = some { cls := .type "list", dict := none, data := .seq its.toArray n, slots := #[] } → EP X pins σ Q (.ref s.heap.objs.size) { s with heap := h' } := by
      intro its rv hz h' n kp e
      exact ⟨.ref _, _, I.laid (t' := s.toks) kp (Nat.le_refl _) (show ObjOk X.prog X.w _ h' _ (.lst ys) from ⟨hz, its, n, rv, e⟩), rfl, q _ _ (nw (I.hok.fresh (Nat.le_refl _))) (Nat.ne_of_gt I.big)⟩
    rcases hq with hq | hq
    · obtain ⟨its, rv, pl, hz⟩ := I.list hq
      have ll := rv.length
      obtain ⟨o, ho, hc, n, hd⟩ := pl.isList
      refine call_list_seq p (.inl rfl) ho hc hd (fun h' n' kp e => put its rv hz h' n' kp e) ?_
      simp only [List.size_toArray] <;> omega
    · obtain ⟨its, rv, ⟨o, ho, hc, n, hd⟩, hz⟩ := I.tuple hq
      have ll := rv.length
      refine call_list_seq p (.inr rfl) ho hc hd (fun h' n' kp e => put its rv hz h' n' kp e) ?_
      simp only [List.size_toArray] <;> omega
  · exact h.elim
theorem k_listS {X : Cx} (K : PySem.W.Frag) (hK : X.K = K := by rfl) : CallR X (.type "list") (zListS K) := hK ▸ c_listS
/-- isinstance of an error, by what the classes say of each other -/
theorem kit_sub {K : PySem.W.Frag} {C D : Addr} {b : Bool} (h : PySem.W.subIn K (.ref C) (.ref D) = some b) (self : PySem.W.subIn K (.ref C) (.ref C) = some true) (hd : PySem.W.hasDictIn K D = true) (ty : PySem.W.typeIn K (.ref D) = some (.type "type")) : PySem.W.kitOne K (.ref C) (.ref D) = some b := by
  unfold PySem.W.kitOne
  split
  · rename_i e
    have e : C = D := Value.ref.inj (eq_of_beq e)
    subst e
    rw [self] at h
    exact h
  · obtain ⟨cd, hc, _⟩ := PySem.W.any_some hd
    have e2 : ((PySem.W.clsIn K D).isSome && PySem.W.typeIn K (.ref D) == some (.type "type")) = true := by rw [hc, ty] <;> rfl
    show (if ((PySem.W.clsIn K D).isSome && PySem.W.typeIn K (.ref D) == some (.type "type")) = true then PySem.W.subIn K (.ref C) (.ref D) else none) = some b
    rw [if_pos e2]
    exact h
end Z

/-! V: own errors as values: made by place and by name, their fields, their classes. -/
namespace PySem
namespace HandSPX
open Builtin Builtin.ObjectAttr
section
variable {M : Model} {prog : Program} {w : World} {A : Around} {E : Value → Shared → Prop} {R : Result → Shared → Prop} {h : Heap} {g : Array GenState} {d : Drawn} {t : Nat} {os : OsState}
variable {nm q : Str} {C N : Addr} {bs bm bmB : List Value} {hdct : Bool} {sn : List Str} {sub : List Value} {ab : Bool} {col : Option Bool} {dd : Option Addr} {k0 k1 k2 k3 k5 : Option Value} {B newId initId : String} {kw : List (Str × Value)}
theorem check_new_kw (F : ExcBaseFacts B newId initId bmB) (hT : ∀ X : String, bm.contains (.type X) = bmB.contains (.type X)) {Q : Unit → Shared → Prop}
    (hC : h.get? C = some (excClassObj nm q C N bs bm hdct sn sub ab col dd k0 k1 k2 k3 k5 newId)) (hq : Q () ⟨h, g, d, t, os⟩) : wpAny M A (checkBuiltinCall newId ⟨[.ref C], kw⟩) Q E ⟨h, g, d, t, os⟩ := by
  have hcont : (Value.ref C :: bm).contains (.type B) = true := by rw [List.contains_cons, hT, F.hasB, Bool.or_true]
  have hstar := F.noStar
  simp only [checkBuiltinCall, F.newKind, F.newSplit, F.newRow]
  repeat (first | refine wpAny_loadPart_at hC ?_ | (refine wpAny_isSubtype_exc hC ?_; rw [hcont]) | refine wpAny_staticBase_exc hC ?_ | refine wpAny_madeBy_exc hC ?_ | simp only [bne_self_eq_false, Bool.false_eq_true, if_false] | wp_step)
  exact hq
theorem new_kw (F : ExcBaseFacts B newId initId bmB) (hT : ∀ X : String, bm.contains (.type X) = bmB.contains (.type X))
    (hC : h.get? C = some (excClassObj nm q C N bs bm hdct sn sub ab col dd k0 k1 k2 k3 k5 newId))
    (hq : R (.ok (.ret (.ref (h.objs.size + 1)))) ⟨(h.push { cls := .type "tuple", data := .seq #[] }).push
      { cls := .ref C, data := .fields #[.ref h.objs.size, .none, .none, .none, .bool false, .none] }, g, d, t, os⟩) :
    codeAny (model prog w) A (.builtin newId ⟨[.ref C], kw⟩) R ⟨h, g, d, t, os⟩ := by
  have hends := F.ends
  have hcB : (Value.ref C :: bm).contains (.type B) = true := by rw [List.contains_cons, hT, F.hasB, Bool.or_true]
  have hcA : (Value.ref C :: bm).contains (.type "AttributeError") = false := by rw [List.contains_cons, hT, F.noAttr]; rfl
  have hcN : (Value.ref C :: bm).contains (.type "NameError") = false := by rw [List.contains_cons, hT, F.noName]; rfl
  refine codeAny_builtinAt F.entry ?_
  unfold Builtin.«BaseException.__new__»
  refine wpAt_bind ?_
  show wpAt _ _ _ (stack >>= _) _ _ _
  refine wpAt_bind (wpAt_stack fun p below => wpAt_of_wpAny ?_)
  wp_walk
  refine wpAt_of_wpAny ?_
  rw [F.owner]
  repeat (first | with_reducible refine wpAny_madeHere_exc F.canon hC ?_ | with_reducible refine wpAny_loadPart_at hC ?_ | (with_reducible refine wpAny_isSubtype_exc hC ?_; first | rw [hcB] | rw [hcA] | rw [hcN]) | wp_step)
  show R _ _
  rw [Heap.size_push]
  exact hq
theorem type_call_kw (F : ExcBaseFacts B newId initId bmB) (hT : ∀ X : String, bm.contains (.type X) = bmB.contains (.type X)) {fI : Addr} {Q : Fin → Shared → Prop}
    (hC : h.get? C = some (excClassObj nm q C N bs bm hdct sn sub ab col dd k0 k1 k2 k3 k5 newId))
    (hi : W.Looks (model prog w) h (typeLookup (.ref C) "__init__") (some (.ref fI))) (hb : ∀ self, W.Looks (model prog w) h (bindSpecial (.ref fI) self) (.ref fI, [self]))
    (hq : codeAny (model prog w) A (.call (.ref fI) ⟨[.ref (h.objs.size + 1)], kw⟩)
      (fun r s' => match r with | .ok (.ret v) => v = .none ∧ Q (.done (.ret (.ref (h.objs.size + 1)))) s' | .ok _ => False | .error e => E e s')
      ⟨(h.push (W.kdv_tup [])).push (excO C h.objs.size), g, d, t, os⟩) :
    wpAny (model prog w) A (Builtin.«type.__call__» ⟨[.ref C], kw⟩) Q E ⟨h, g, d, t, os⟩ := by
  repeat (first | with_reducible refine wpAny_loadPart_at hC ?_ | with_reducible refine wpAny_madeBy_exc hC ?_ | wp_step)
  refine codeAny_call_builtin_code (Code.quiet_builtin _ F.quiet) (check_new_kw F hT hC ?_)
  refine new_kw F hT hC ?_
  show wpAny _ _ _ _ _ _
  have k : ∀ b o, h.get? b = some o → ((h.push (W.kdv_tup [])).push (excO C h.objs.size)).get? b = some o := fun b o e => Heap.get?_push_of_some _ (Heap.get?_push_of_some _ e)
  have hC₁ := k _ _ hC
  have hget : ((h.push (W.kdv_tup [])).push (excO C h.objs.size)).get? (h.objs.size + 1) = some (excO C h.objs.size) := by heap_get
  have hcC : (Value.ref C :: bm).contains (.ref C) = true := by simp
  have i1 := hi.keeps k
  have b1 := (hb (.ref (h.objs.size + 1))).keeps k
  unfold isInstance
  repeat (first | with_reducible refine wpAny_loadPart_at hget ?_ | (with_reducible refine wpAny_isSubtype_exc hC₁ ?_; rw [hcC]) | wp_step)
  show wpAny _ _ (typeLookup (.ref C) _) _ _ _
  refine i1.at ?_
  refine wpAny_holding (wpAny_bind (b1.at ?_))
  refine wpAny_bind (wpAny_call (codeAny_mono hq fun r s' z => ?_))
  rcases r with e | (v | _ | _ | _) <;> first | exact z | exact z.elim | skip
  obtain ⟨rfl, z⟩ := z
  first
    | exact wpAny_pure (wpAny_pure z)
    | (wp_walk; exact z)
theorem call_kw (F : ExcBaseFacts B newId initId bmB) (hT : ∀ X : String, bm.contains (.type X) = bmB.contains (.type X)) {fI : Addr}
    (hC : h.get? C = some (excClassObj nm q C N bs bm hdct sn sub ab col dd k0 k1 k2 k3 k5 newId))
    (hi : W.Looks (model prog w) h (typeLookup (.ref C) "__init__") (some (.ref fI))) (hb : ∀ self, W.Looks (model prog w) h (bindSpecial (.ref fI) self) (.ref fI, [self]))
    (hq : codeAny (model prog w) (A.under (.builtin "type.__call__" ⟨[.ref C], kw⟩)) (.call (.ref fI) ⟨[.ref (h.objs.size + 1)], kw⟩) (W.InitBack (h.objs.size + 1) R)
      ⟨(h.push (W.kdv_tup [])).push (excO C h.objs.size), g, d, t, os⟩) :
    codeAny (model prog w) A (.call (.ref C) ⟨[], kw⟩) R ⟨h, g, d, t, os⟩ := by
  have f1 := tc_lookup
  have f2 := tc_bind (.ref C)
  have hTy : (⟨h, g, d, t, os⟩ : Shared).TypeIs (.ref C) "type" := ⟨_, hC, rfl⟩
  refine codeAny_of_tree ?_
  show wpAny _ _ (callAny (.ref C) _) _ _ _
  repeat (any_goals (first | assumption | with_reducible refine wpAny_loadPart_at hC ?_ | wp_step))
  refine ⟨rfl, ?_⟩
  refine codeAny_call_builtin_at (Code.quiet_builtin _ (by decide +kernel)) entry_typeCall (wpAny_check_type_call_sub hC (type_call_kw F hT hC hi hb ?_))
  refine codeAny_mono hq fun r s' z => ?_
  rcases r with e | (v | _ | _ | _) <;> exact z
end
end HandSPX
end PySem

/-! C: own classes: their methods, which may raise, by place and by name. -/
namespace Z
open PySem PySem.Spec PyProof.Rows L2

/-- a method's contract -/
structure Mt (P : Program) (w : World) (K : PySem.W.Frag) (mg : Str → Option Value) (base : Heap) (CX : CXT) (k : Nat) (C : Addr) (m : Str) (ps : List Str) (sp : Sp) : Prop where
  ex : ∃ f fd, Cls K C ∧ Meth K C m f ∧ Binds K fd ps [] ∧ FnOk P w K mg base CX k f fd ps sp ∧ ∃ oc od osl, K.lookup f = some ⟨oc, od, .func fd, osl⟩
/-- a method's def as it stands -/
structure Dm (K : PySem.W.Frag) (C : Addr) (m qual : Str) (st : Stmt) (ps : List Str) : Prop where
  ex : ∃ f fd, Fun K m qual st f fd ∧ Cls K C ∧ Meth K C m f ∧ Binds K fd ps []
section
variable {P : Program} {w : World} {K : PySem.W.Frag} {mg : Str → Option Value} {base : Heap} {C : Addr} {m qual : Str} {st : Stmt}
theorem mt_of {N ps : List Str} {k : Nat} {sp : Sp} (D : Dm K C m qual st ps) (S : FnScope N ps (defScope st)) (len : ∀ vs H Q E, sp vs H Q E → vs.length = ps.length)
    (body : ∀ (f : Addr) (cdv : Value) (A : Around) (outer : List Env) (s : Shared) (H : Hp) (vs : List V) (Q : VK) (E : XK), Room k (A.deeper (envOfC qual (defScope st) s.heap.objs.size f cdv)) → sp vs H Q E →
      ∃ t, PSs (cxOf CX0 P w K mg base N qual (defScope st) f cdv A outer s H E).nox (defBody st) t ∧ t { nx := fun _ H' => Q .non H', rt := Q } (start N vs) H) : Mt P w K mg base CX0 (k + 1) C m ps sp := by
  obtain ⟨f, fd, F, hc, hm, hb⟩ := D.ex
  exact ⟨f, fd, hc, hm, hb, F.ok S len fun cdv A outer s H vs Q E hr h => body f cdv A outer s H vs Q E hr h, fun_at F⟩
theorem mx_of {N ps : List Str} {k : Nat} {sp : Sp} (D : Dm K C m qual st ps) (S : FnScope N ps (defScope st)) (len : ∀ vs H Q E, sp vs H Q E → vs.length = ps.length)
    (body : ∀ (f : Addr) (cdv : Value) (A : Around) (outer : List Env) (s : Shared) (H : Hp) (vs : List V) (Q : VK) (E : XK), Room k (A.deeper (envOfC qual (defScope st) s.heap.objs.size f cdv)) → sp vs H Q E →
      ∃ t, PSs (cxOf (L2.CX P w) P w K mg base N qual (defScope st) f cdv A outer s H E) (defBody st) t ∧ t { nx := fun _ H' => Q .non H', rt := Q } (start N vs) H) : Mt P w K mg base (L2.CX P w) (k + 1) C m ps sp := by
  obtain ⟨f, fd, F, hc, hm, hb⟩ := D.ex
  exact ⟨f, fd, hc, hm, hb, F.okX S len fun cdv A outer s H vs Q E hr h => body f cdv A outer s H vs Q E hr h, fun_at F⟩
theorem len1 {p : V → Hp → VK → XK → Prop} {a : Str} (vs : List V) (H : Hp) (Q : VK) (E : XK) (h : sp1 p vs H Q E) : vs.length = [a].length := by
  obtain ⟨u, rfl, _⟩ := sp1_of h
  rfl
theorem len2 {p : V → V → Hp → VK → XK → Prop} {a b : Str} (vs : List V) (H : Hp) (Q : VK) (E : XK) (h : sp2 p vs H Q E) : vs.length = [a, b].length := by
  obtain ⟨u, v, rfl, _⟩ := sp2_of h
  rfl
theorem len3 {p : V → V → V → Hp → VK → XK → Prop} {a b c : Str} (vs : List V) (H : Hp) (Q : VK) (E : XK) (h : sp3 p vs H Q E) : vs.length = [a, b, c].length := by
  obtain ⟨u, v, y, rfl, _⟩ := sp3_of h
  rfl
/-- methods of one to three parameters, self first -/
theorem mt1 {a : Str} {N : List Str} {k : Nat} {p : V → Hp → VK → XK → Prop} (D : Dm K C m qual st [a]) (S : FnScope N [a] (defScope st))
    (body : ∀ (f : Addr) (cdv : Value) (A : Around) (outer : List Env) (s : Shared) (H : Hp) (u : V) (Q : VK) (E : XK), Room k (A.deeper (envOfC qual (defScope st) s.heap.objs.size f cdv)) → p u H Q E →
      ∃ t, PSs (cxOf CX0 P w K mg base N qual (defScope st) f cdv A outer s H E).nox (defBody st) t ∧ t { nx := fun _ H' => Q .non H', rt := Q } (start N [u]) H) : Mt P w K mg base CX0 (k + 1) C m [a] (sp1 p) :=
  mt_of D S len1 fun f cdv A outer s H vs Q E hr h => by
    obtain ⟨u, rfl, h⟩ := sp1_of h
    exact body f cdv A outer s H u Q E hr h
theorem mt2 {a b : Str} {N : List Str} {k : Nat} {p : V → V → Hp → VK → XK → Prop} (D : Dm K C m qual st [a, b]) (S : FnScope N [a, b] (defScope st))
    (body : ∀ (f : Addr) (cdv : Value) (A : Around) (outer : List Env) (s : Shared) (H : Hp) (u v : V) (Q : VK) (E : XK), Room k (A.deeper (envOfC qual (defScope st) s.heap.objs.size f cdv)) → p u v H Q E →
      ∃ t, PSs (cxOf CX0 P w K mg base N qual (defScope st) f cdv A outer s H E).nox (defBody st) t ∧ t { nx := fun _ H' => Q .non H', rt := Q } (start N [u, v]) H) : Mt P w K mg base CX0 (k + 1) C m [a, b] (sp2 p) :=
  mt_of D S len2 fun f cdv A outer s H vs Q E hr h => by
    obtain ⟨u, v, rfl, h⟩ := sp2_of h
    exact body f cdv A outer s H u v Q E hr h
theorem mx1 {a : Str} {N : List Str} {k : Nat} {p : V → Hp → VK → XK → Prop} (D : Dm K C m qual st [a]) (S : FnScope N [a] (defScope st))
    (body : ∀ (f : Addr) (cdv : Value) (A : Around) (outer : List Env) (s : Shared) (H : Hp) (u : V) (Q : VK) (E : XK), Room k (A.deeper (envOfC qual (defScope st) s.heap.objs.size f cdv)) → p u H Q E →
      ∃ t, PSs (cxOf (L2.CX P w) P w K mg base N qual (defScope st) f cdv A outer s H E) (defBody st) t ∧ t { nx := fun _ H' => Q .non H', rt := Q } (start N [u]) H) : Mt P w K mg base (L2.CX P w) (k + 1) C m [a] (sp1 p) :=
  mx_of D S len1 fun f cdv A outer s H vs Q E hr h => by
    obtain ⟨u, rfl, h⟩ := sp1_of h
    exact body f cdv A outer s H u Q E hr h
theorem mx2 {a b : Str} {N : List Str} {k : Nat} {p : V → V → Hp → VK → XK → Prop} (D : Dm K C m qual st [a, b]) (S : FnScope N [a, b] (defScope st))
    (body : ∀ (f : Addr) (cdv : Value) (A : Around) (outer : List Env) (s : Shared) (H : Hp) (u v : V) (Q : VK) (E : XK), Room k (A.deeper (envOfC qual (defScope st) s.heap.objs.size f cdv)) → p u v H Q E →
      ∃ t, PSs (cxOf (L2.CX P w) P w K mg base N qual (defScope st) f cdv A outer s H E) (defBody st) t ∧ t { nx := fun _ H' => Q .non H', rt := Q } (start N [u, v]) H) : Mt P w K mg base (L2.CX P w) (k + 1) C m [a, b] (sp2 p) :=
  mx_of D S len2 fun f cdv A outer s H vs Q E hr h => by
    obtain ⟨u, v, rfl, h⟩ := sp2_of h
    exact body f cdv A outer s H u v Q E hr h
theorem mx3 {a b c : Str} {N : List Str} {k : Nat} {p : V → V → V → Hp → VK → XK → Prop} (D : Dm K C m qual st [a, b, c]) (S : FnScope N [a, b, c] (defScope st))
    (body : ∀ (f : Addr) (cdv : Value) (A : Around) (outer : List Env) (s : Shared) (H : Hp) (u v y : V) (Q : VK) (E : XK), Room k (A.deeper (envOfC qual (defScope st) s.heap.objs.size f cdv)) → p u v y H Q E →
      ∃ t, PSs (cxOf (L2.CX P w) P w K mg base N qual (defScope st) f cdv A outer s H E) (defBody st) t ∧ t { nx := fun _ H' => Q .non H', rt := Q } (start N [u, v, y]) H) : Mt P w K mg base (L2.CX P w) (k + 1) C m [a, b, c] (sp3 p) :=
  mx_of D S len3 fun f cdv A outer s H vs Q E hr h => by
    obtain ⟨u, v, y, rfl, h⟩ := sp3_of h
    exact body f cdv A outer s H u v y Q E hr h
/-- the same method called by names behind self: g puts the values in the parameters' order -/
structure MtK (P : Program) (w : World) (K : PySem.W.Frag) (mg : Str → Option Value) (base : Heap) (CX : CXT) (k : Nat) (C : Addr) (m : Str) (ps ks : List Str) (g : {α : Type} → List α → List α) (sp : Sp) : Prop where
  ex : ∃ f fd, Cls K C ∧ Meth K C m f ∧ (∀ (s : Shared) (u : Value) (ws : List Value), (u :: g ws).length = ps.length → BindsTo s fd ⟨[u], ks.zip ws⟩ (ps.zip (u :: g ws))) ∧ (∀ {zs : List V} {ws : List Value}, Vals zs ws → Vals (g zs) (g ws)) ∧ FnOk P w K mg base CX k f fd ps sp
theorem Mt.kw {CX : CXT} {k : Nat} {ps ks : List Str} {g : {α : Type} → List α → List α} {sp : Sp} (M : Mt P w K mg base CX k C m ps sp) (D : Dm K C m qual st ps)
    (h : ∀ (kV doc pm : Value) (an : Option Addr) (cdv ct : Value) (u : Value) (ws : List Value), (u :: g ws).length = ps.length → bindArgs (PySem.W.fnOf m qual (defArgs st) (defBody st) (defScope st) .none kV doc pm an cdv ct) ⟨[u], ks.zip ws⟩ = pure (ps.zip (u :: g ws)))
    (hg : ∀ {zs : List V} {ws : List Value}, Vals zs ws → Vals (g zs) (g ws)) : MtK P w K mg base CX k C m ps ks g sp := by
  obtain ⟨f, fd, hc, hm, hb, F, oc, od, osl, hl⟩ := M.ex
  obtain ⟨f', fd', F', _, hm', _⟩ := D.ex
  have e : f = f' := by
    have a := hm.at_
    rw [hm'.at_] at a
    cases a
    rfl
  subst e
  obtain ⟨oc', od', kV, doc, pm, an, cdv, ct, osl', rfl, hl', _⟩ := F'.ex
  have e2 : fd = PySem.W.fnOf m qual (defArgs st) (defBody st) (defScope st) .none kV doc pm an cdv ct := by
    rw [hl] at hl'
    cases hl'
    rfl
  subst e2
  exact ⟨f, _, hc, hm, fun s u ws hlen => .of_eq (h kV doc pm an cdv ct u ws hlen), hg, F⟩
end
/-- o.m(..): the receiver, then the values -/
def tMt (C : Addr) (m : Str) (sp : Sp) (E : L2.St → XK) (ta : TE) (t : TA) : TE := fun σ H Q => ta σ H fun x H1 => match x with
  | .ref a => ∃ dx fs, H1 a = some (.ins C dx fs) ∧ fs.lookup m = none ∧ t σ H1 fun vs H2 => sp (.ref a :: vs) H2 Q (E σ)
  | _ => False
def tMtK (C : Addr) (m : Str) (g : {α : Type} → List α → List α) (sp : Sp) (E : L2.St → XK) (ta : TE) (t : TA) : TE := fun σ H Q => ta σ H fun x H1 => match x with
  | .ref a => ∃ dx fs, H1 a = some (.ins C dx fs) ∧ fs.lookup m = none ∧ t σ H1 fun vs H2 => sp (.ref a :: g vs) H2 Q (E σ)
  | _ => False
section
variable {X : Cx} {CX : CXT} {k : Nat} {C : Addr} {m : Str} {ps ks : List Str} {sp : Sp} {E : L2.St → XK} {pos apos : Pos} {e o : Expr} {es : List Expr} {ta : TE} {t : TA} {kws : List Keyword}
theorem pe_mtA {pl : Sem Bool} (M : Mt X.prog X.w X.K X.mg X.base CX k C m ps sp) (hr : Room k X.A) (hx : ∀ σ, PassesAt CX X σ (E σ)) (ho : PE X o ta) (ha : PA X (e :: es) t)
    (hst : starEach (e :: es) X.env = (false, eval e X.env) :: starEach es X.env := by rfl) (hpl : (backTo pos (starEach es X.env)).any (·.1) = false := by rfl)
    (ht : eval (.Call (.Attribute o m apos) (e :: es) [] pos) X.env = (do
      let ov ← eval o X.env
      standAt apos.atName
      let (f, first) ← holding [ov] (getMethod ov m pl)
      callWith pos f first (backTo pos (starEach (e :: es) X.env)) (backToKw pos (keywordEach [] X.env))) := by rfl) : PE X (.Call (.Attribute o m apos) (e :: es) [] pos) (tMt C m sp E ta t) := by
  obtain ⟨f, fd, hc, hm, hb, F, _⟩ := M.ex
  constructor
  intro pins s σ H Q I h
  refine PySem.W.methodCall_KW (pl := pl) (thn (ho.run pins s σ H _ I h) ?_) ht
  rintro u s1 ⟨x, H1, I1, rx, h1⟩
  split at h1
  · rename_i a
    obtain ⟨dx, fs, ea, l, q⟩ := h1
    obtain rfl : u = Value.ref a := rx
    apply getmeth_ok I1 ea hc hm l
    refine PySem.W.callWith_K (first := [.ref a]) (h₀ := X.base) I.ok.mod.kin hm.kp (thn (ha.run pos pins s1 σ H1 _ I1 q) ?_) hst hpl
    rintro us s2 ⟨vs, H2, I2, r, q2⟩
    exact ⟨I2.kIn, run_fnS (us := .ref a :: us) (vs := .ref a :: vs) F hr hb (hx σ) I2 (.cons rfl r) q2⟩
  · exact h1.elim
theorem pe_mtA0 {pl : Sem Bool} (M : Mt X.prog X.w X.K X.mg X.base CX k C m ps sp) (hr : Room k X.A) (hx : ∀ σ, PassesAt CX X σ (E σ)) (ho : PE X o ta)
    (ht : eval (.Call (.Attribute o m apos) [] [] pos) X.env = (do
      let ov ← eval o X.env
      standAt apos.atName
      let (f, first) ← holding [ov] (getMethod ov m pl)
      callWith pos f first (backTo pos (starEach [] X.env)) (backToKw pos (keywordEach [] X.env))) := by rfl) : PE X (.Call (.Attribute o m apos) [] [] pos) (tMt C m sp E ta tNil) := by
  obtain ⟨f, fd, hc, hm, hb, F, _⟩ := M.ex
  constructor
  intro pins s σ H Q I h
  refine PySem.W.methodCall_KW (pl := pl) (thn (ho.run pins s σ H _ I h) ?_) ht
  rintro u s1 ⟨x, H1, I1, rx, h1⟩
  split at h1
  · rename_i a
    obtain ⟨dx, fs, ea, l, q⟩ := h1
    obtain rfl : u = Value.ref a := rx
    apply getmeth_ok I1 ea hc hm l
    exact PySem.W.callWith_K0 (first := [.ref a]) I1.kIn hm.kp (run_fnS (us := [.ref a]) (vs := [.ref a]) F hr hb (hx σ) I1 (.cons rfl .nil) q)
  · exact h1.elim
theorem pe_mtK {pl : Sem Bool} {g : {α : Type} → List α → List α} (M : MtK X.prog X.w X.K X.mg X.base CX k C m ps ks g sp) (hr : Room k X.A) (hx : ∀ σ, PassesAt CX X σ (E σ)) (ho : PE X o ta) (hkw : PK X kws t)
    (hall : (backToKw pos (keywordEach kws X.env)).all (·.1.isSome) = true := by rfl) (hks : (backToKw pos (keywordEach kws X.env)).filterMap (·.1) = ks := by rfl)
    (hpl : ((backTo pos (starEach [] X.env)).any (·.1) || (backToKw pos (keywordEach kws X.env)).any (·.1.isNone)) = false := by rfl)
    (ht : eval (.Call (.Attribute o m apos) [] kws pos) X.env = (do
      let ov ← eval o X.env
      standAt apos.atName
      let (f, first) ← holding [ov] (getMethod ov m pl)
      callWith pos f first (backTo pos (starEach [] X.env)) (backToKw pos (keywordEach kws X.env))) := by rfl) : PE X (.Call (.Attribute o m apos) [] kws pos) (tMtK C m g sp E ta t) := by
  obtain ⟨f, fd, hc, hm, hb, hrel, F⟩ := M.ex
  constructor
  intro pins s σ H Q I h
  refine PySem.W.methodCall_KW (pl := pl) (thn (ho.run pins s σ H _ I h) ?_) ht
  rintro u s1 ⟨x, H1, I1, rx, h1⟩
  split at h1
  · rename_i a
    obtain ⟨dx, fs, ea, l, q⟩ := h1
    obtain rfl : u = Value.ref a := rx
    apply getmeth_ok I1 ea hc hm l
    refine PySem.W.callWith_KW0 (first := [.ref a]) (h₀ := X.base) I.ok.mod.kin hm.kp hall (thn (hkw.run pos pins s1 σ H1 _ I1 q) ?_) hpl
    rintro ws s2 ⟨zs, H2, I2, rz, q2⟩
    refine ⟨I2.kIn, ?_⟩
    rw [hks]
    have r2 : Vals (V.ref a :: g zs) (Value.ref a :: g ws) := .cons rfl (hrel rz)
    have hl : (Value.ref a :: g ws).length = ps.length := r2.length.symm.trans (F.len _ _ _ _ q2)
    apply wpAny_call
    refine codeAny_mono (F.run X.A X.stack s2 H2 ⟨[.ref a], ks.zip ws⟩ (.ref a :: g ws) (.ref a :: g zs) Q (E σ) hr I2.env0 (hb s2 (.ref a) ws hl) r2 q2) ?_
    intro r s' z
    match r, z with
    | .error er, z => exact hx σ pins H2 s2 er s' I2 z
    | .ok (.ret u), z => exact I2.after z
    | .ok .next, z => exact False.elim z
    | .ok .brk, z => exact False.elim z
    | .ok .cont, z => exact False.elim z
  · exact h1.elim
/-- nothing is let out, of a def that may not; of a def that may, but does not here -/
theorem at0 (σ : L2.St) : PassesAt CX0 X σ ((fun _ => E0) σ) := fun _ _ _ _ _ _ h => h.elim
theorem atL (σ : L2.St) : PassesAt (L2.CX X.prog X.w) X σ ((fun _ => E0) σ) := fun _ _ _ _ _ _ h => by
  obtain ⟨_, _, _, _, _, _, _, _, _, _, _, _, z⟩ := h
  exact z.elim
/-- C(): the class under its name, its __init__ alone of self -/
structure Kn (P : Program) (w : World) (K : PySem.W.Frag) (mg : Str → Option Value) (base : Heap) (k : Nat) (x : Str) (C : Addr) (sp : Sp) : Prop where
  ex : ∃ f fd ps, Mk K C f ∧ FnOk P w K mg base CX0 k f fd ps sp ∧ mg x = some (.ref C) ∧ Binds K fd ps []
def tNew (C : Addr) (sp : Sp) : TE := fun _ H Q => ∀ a dx, H a = none → H dx = none → dx ≠ a → sp [.ref a] (upd (upd H dx (.own a)) a (.ins C dx [])) (fun v H2 => v = .non ∧ Q (.ref a) H2) E0
theorem pe_new0 {x : Str} {p : Pos} (c : Kn X.prog X.w X.K X.mg X.base k x C sp) (hr : Room (k + 1) X.A) (hg : Gl X x := by rfl) (hdb : (x == ("__debug__" : Str)) = false := by decide) : PE X (.Call (.Name x p) [] [] pos) (tNew C sp) := by
  obtain ⟨f, fd, ps, M, F, hm, b⟩ := c.ex
  refine pe_w (pe_make0 (E := E0) M F hr hg hm b .nil pass0 hdb) ?_
  intro σ H Q h a dx na nd ne
  exact h a dx na nd ne
end
/-! ### fields -/
section
variable {X : Cx} {C : Addr} {f : Str} {o e value : Expr} {pos pos' tpos : Pos} {ta tv : TE}
def tFdC (C : Addr) (ta : TE) (f : Str) : TE := fun σ H Q => ta σ H fun x H1 => match x with
  | .ref a => ∃ dx fs v, H1 a = some (.ins C dx fs) ∧ fs.lookup f = some v ∧ Q v H1
  | _ => False
theorem pe_fdC (c : Cls X.K C) (n : NoAttr X.K C f) (he : PE X e ta) (hb : attributeBase e f X.env (eval e X.env) = eval e X.env := by rfl) : PE X (.Attribute e f pos) (tFdC C ta f) :=
  pe_w (pe_fld (pe_mon he) hb) fun σ H Q h => ⟨_, h, fun x H1 h1 => by
    split at h1
    · obtain ⟨dx, fs, v, ea, l, q⟩ := h1
      exact ⟨_, C, dx, fs, v, rfl, ea, c, n, l, q⟩
    · exact h1.elim⟩
def sFdC (C : Addr) (ta tv : TE) (f : Str) : TS := fun D σ H => tv σ H fun y H1 => ta σ H1 fun x H2 => match x with
  | .ref a => ∃ dx fs, H2 a = some (.ins C dx fs) ∧ fs.length < 1000 ∧ ∀ H3, Wr H2 a (.ins C dx (putF f y fs)) H3 → D.nx σ H3
  | _ => False
theorem ps_fdC (c : Cls X.K C) (n : NoAttr X.K C f) (ha : PE X o ta) (hv : PE X value tv) (hs : swapsWith value (some (.Attribute o f pos')) pos.line X.env = pure false := by rfl) : PS X (.Assign [.Attribute o f pos'] value pos) (sFdC C ta tv f) :=
  ps_w (ps_fld (pe_mon ha) (pe_mon hv) hs) fun D σ H h => ⟨_, h, fun y H1 h1 => ⟨_, h1, fun x H2 h2 => by
    split at h2
    · obtain ⟨dx, fs, ea, l, q⟩ := h2
      exact ⟨_, C, dx, fs, rfl, ea, c, n, l, q _ wr⟩
    · exact h2.elim⟩⟩
def sFaC (C : Addr) (ta tv : TE) (rd : V → V → Hp → VK → Prop) (f : Str) : TS := fun D σ H => ta σ H fun x H1 => match x with
  | .ref a => ∃ dx fs v, H1 a = some (.ins C dx fs) ∧ fs.lookup f = some v ∧ tv σ H1 fun y H2 => rd v y H2 fun z H3 => ∃ dx' fs', H3 a = some (.ins C dx' fs') ∧ fs'.length < 1000 ∧ ∀ H4, Wr H3 a (.ins C dx' (putF f z fs')) H4 → D.nx σ H4
  | _ => False
end
section
variable {X : Cx} {C : Addr} {f : Str} {o value : Expr} {pos tpos : Pos} {ta tv : TE}
theorem inop_mon {op : Operator} {rd : V → V → Hp → VK → Prop} (h : InOp X op rd) : InOp X op (fun x y H Q => ∃ Q0 : VK, rd x y H Q0 ∧ ∀ z H1, Q0 z H1 → Q z H1) := fun pins s σ H x y u v Q I rx ry ⟨Q0, q, i⟩ =>
  thn (h pins s σ H x y u v Q0 I rx ry q) fun w s' ⟨z, H', J, r, q'⟩ => ⟨z, H', J, r, i z H' q'⟩
theorem ps_faC {op : Operator} {rd : V → V → Hp → VK → Prop} (c : Cls X.K C) (n : NoAttr X.K C f) (ha : PE X o ta) (hv : PE X value tv) (hop : InOp X op rd) : PS X (.AugAssign (.Attribute o f tpos) op value pos) (sFaC C ta tv rd f) :=
  ps_w (ps_fldaug (pe_mon ha) (pe_mon hv) (inop_mon hop)) fun D σ H h => ⟨_, h, fun x H1 h1 => by
    split at h1
    · obtain ⟨dx, fs, v, ea, l, q⟩ := h1
      exact ⟨_, C, dx, fs, v, rfl, ea, c, n, l, _, q, fun y H2 q2 => ⟨_, q2, fun z H3 q3 => by
        obtain ⟨dx', fs', e3, l3, q3⟩ := q3
        exact ⟨dx', fs', e3, l3, q3 _ wr⟩⟩⟩
    · exact h1.elim⟩
end
/-! ### dicts -/
section
variable {X : Cx} {o i e f : Expr} {td ty tx : TE} {pos apos cpos : Pos}
def tDG (td ty : TE) : TE := fun σ H Q => td σ H fun x H1 => match x with
  | .ref a => (∃ kvs, H1 a = some (.dK kvs)) ∧ ty σ H1 fun y H2 => ∃ kvs k v, H2 a = some (.dK kvs) ∧ y = kV k ∧ valV kvs k = some v ∧ Q v H2
  | _ => False
theorem pe_dg (hu : X.A.units + 1 < cLine) (ho : PE X o td) (hi : PE X i ty) (hs : NoSl i) : PE X (.Subscript o i pos) (tDG td ty) :=
  pe_w (pe_dget hu (pe_mon ho) (pe_mon hi) hs) fun σ H Q h => ⟨_, h, fun x H1 h1 => by
    split at h1
    · obtain ⟨⟨kvs, e⟩, q⟩ := h1
      exact ⟨_, q, fun y H2 q2 => by
        obtain ⟨kvs2, k, v, e2, rfl, hv, q2⟩ := q2
        exact ⟨_, v, rfl, hv ▸ DGet.k e2, q2⟩⟩
    · exact h1.elim⟩
def tDG2 (td ty tx : TE) : TE := fun σ H Q => td σ H fun x H1 => match x with
  | .ref a => (∃ kvs, H1 a = some (.dK kvs)) ∧ ty σ H1 fun y H2 => tx σ H2 fun z H3 => ∃ kvs k, H3 a = some (.dK kvs) ∧ y = kV k ∧ Q ((valV kvs k).getD z) H3
  | _ => False
theorem pe_dg2 (hu : X.A.units + 1 < cLine) (ho : PE X o td) (he : PE X e ty) (hf : PE X f tx) (m : M2 X o "get" apos e f cpos) : PE X (.Call (.Attribute o "get" apos) [e, f] [] cpos) (tDG2 td ty tx) :=
  pe_w (pe_dget2 hu (pe_mon ho) (pe_mon he) (pe_mon hf) m) fun σ H Q h => ⟨_, h, fun x H1 h1 => by
    split at h1
    · obtain ⟨⟨kvs, e⟩, q⟩ := h1
      exact ⟨_, rfl, .inl ⟨kvs, .inl e⟩, _, q, fun y H2 q2 => ⟨_, q2, fun z H3 q3 => by
        obtain ⟨kvs2, k, e3, rfl, q3⟩ := q3
        exact ⟨_, DGet.k e3, q3⟩⟩⟩
    · exact h1.elim⟩
def zInD (neg : Bool) : R2 := fun x y H Q => match y with
  | .ref a => ∃ kvs k, H a = some (.dK kvs) ∧ x = kV k ∧ Q (.bl (neg ^^ (valV kvs k).isSome)) H
  | _ => False
theorem o_inZ (hu : X.A.units + 1 < cLine) : OpR X (compareOp .In) (zInD false) := by
  intro pins s σ H x y v u Q I rx ry h
  unfold zInD at h
  split at h
  · obtain ⟨kvs, k, e, rfl, q⟩ := h
    cases ry
    exact d_in hu I (DGet.k e) rx fun s' J => ⟨.bl _, H, J, rfl, by simpa using q⟩
  · exact h.elim
theorem o_ninZ (hu : X.A.units + 1 < cLine) : OpR X (compareOp .NotIn) (zInD true) := by
  intro pins s σ H x y v u Q I rx ry h
  unfold zInD at h
  split at h
  · obtain ⟨kvs, k, e, rfl, q⟩ := h
    cases ry
    exact d_notIn hu I (DGet.k e) rx fun s' J => ⟨.bl _, H, J, rfl, by simpa using q⟩
  · exact h.elim
def zListD : List V → Hp → VK → Prop := fun vs H Q => match vs with
  | [.ref a] => ∃ kvs, H a = some (.dK kvs) ∧ ∀ p H2, Nw H p (.lst (kvs.map fun kv => kV kv.1)) H2 → Q (.ref p) H2
  | _ => False
theorem c_listD (hc : X.calm = true) : CallR X (.type "list") zListD := callr_w (call_listD hc) fun vs H Q h => by
  unfold zListD at h
  split at h
  · obtain ⟨kvs, e, q⟩ := h
    exact ⟨_, kvs, rfl, .inl e, fun p hp => q p _ (nw hp)⟩
  · exact h.elim
def zSortS (K : PySem.W.Frag) : List V → Hp → VK → Prop := fun vs H Q => match vs with
  | [.ref a] => ∃ xs : List Str, SqL K H a (xs.map V.str) ∧ xs.length < 64 ∧ ∀ (ys : List Str) (p : Addr) (H2 : Hp), ys.Perm xs → sortedS ys = true → Nw H p (.lst (ys.map V.str)) H2 → Q (.ref p) H2
  | _ => False
theorem c_sortS : CallR X (.builtin "sorted") (zSortS X.K) := callr_w cr_sortedS fun vs H Q h => by
  unfold zSortS at h
  split at h
  · obtain ⟨xs, e, l, q⟩ := h
    exact ⟨_, xs, rfl, e, l, fun ys p a b hp => q ys p _ a b (nw hp)⟩
  · exact h.elim
theorem k_sortS (K : PySem.W.Frag) (hK : X.K = K := by rfl) : CallR X (.builtin "sorted") (zSortS K) := hK ▸ c_sortS
def tRv (K : PySem.W.Frag) (te : TE) : TE := fun σ H Q => te σ H fun x H1 => match x with
  | .ref a => ∃ xs, SqL K H1 a xs ∧ ∀ p H2, Nw H1 p (.lst xs.reverse) H2 → Q (.ref p) H2
  | _ => False
theorem pe_rv {k : Nat} {p1 p2 p3 : Pos} (K : PySem.W.Frag) (he : PE X e td) (hK : X.K = K := by rfl) : PE X (.Subscript e (.Slice none none (some (.UnaryOp .USub (.Constant (.int 1) k p1) p2)) p3) pos) (tRv K td) :=
  hK ▸ pe_w (pe_revL (pe_mon he)) fun σ H Q h => ⟨_, h, fun x H1 h1 => by
    split at h1
    · obtain ⟨xs, e, q⟩ := h1
      exact ⟨_, xs, rfl, e, fun p hp => q p _ (nw hp)⟩
    · exact h1.elim⟩
end
/-- an __init__ of self alone -/
theorem ini1 {P : Program} {w : World} {K : PySem.W.Frag} {mg : Str → Option Value} {base : Heap} {q : Str} {st : Stmt} {f : Addr} {fd : FuncData} {a : Str} {N : List Str} {k : Nat} {p : V → Hp → VK → XK → Prop} (F : Fun K "__init__" q st f fd) (S : FnScope N [a] (defScope st))
    (body : ∀ (cdv : Value) (A : Around) (outer : List Env) (s : Shared) (H : Hp) (u : V) (Q : VK) (E : XK), Room k (A.deeper (envOfC q (defScope st) s.heap.objs.size f cdv)) → p u H Q E →
      ∃ t, PSs (cxOf CX0 P w K mg base N q (defScope st) f cdv A outer s H E).nox (defBody st) t ∧ t { nx := fun _ H' => Q .non H', rt := Q } (start N [u]) H) : FnOk P w K mg base CX0 (k + 1) f fd [a] (sp1 p) := by
  refine F.ok S len1 ?_
  intro cdv A outer s H vs Q E hr h
  obtain ⟨u, rfl, h⟩ := sp1_of h
  exact body cdv A outer s H u Q E hr h

/-! ### a < b < c as a test, five parameters -/
section
variable {X : Cx} {ta tb tc : TE} {a b c : Expr} {pos : Pos}
theorem pt_chT {op op' : CmpOp} {r r' : R2} (ho : OpR X (compareOp op) r) (ho' : OpR X (compareOp op') r') (ha : PE X a ta) (hb : PE X b tb) (hc : PE X c tc) (hm : lastMarks [op, op'] [b, c] = false := by with_unfolding_all rfl) :
    PT X (.Compare a [op, op'] [b, c] pos) (tBz (tChZ r r' ta tb tc)) :=
  pt_w (pt_chain (opr_mon ho) (opr_mon ho') (pe_mon ha) (pe_mon hb) (pe_mon hc) hm) fun σ H Q h => ⟨_, h, fun x H1 h1 => ⟨_, h1, fun y H2 h2 => ⟨_, h2, fun z H3 h3 => by
    obtain ⟨k, e, h4⟩ := zB_of h3
    refine ⟨k, e, ?_⟩
    cases k with
    | false => exact zB_of h4
    | true => exact ⟨_, h4, fun w' H4 h5 => ⟨_, h5, fun z' H5 h6 => zB_of h6⟩⟩⟩⟩⟩
end
def sp5 (p : V → V → V → V → V → Hp → VK → XK → Prop) : Sp := fun vs H Q E => match vs with
  | [a, b, c, d, e] => p a b c d e H Q E
  | _ => False
theorem sp5_of {p : V → V → V → V → V → Hp → VK → XK → Prop} {vs : List V} {H : Hp} {Q : VK} {E : XK} (h : sp5 p vs H Q E) : ∃ a b c d e, vs = [a, b, c, d, e] ∧ p a b c d e H Q E := by
  unfold sp5 at h
  split at h
  · exact ⟨_, _, _, _, _, rfl, h⟩
  · exact h.elim
section
variable {P : Program} {w : World} {K : PySem.W.Frag} {mg : Str → Option Value} {base : Heap}
theorem ct5 {x : Str} {st : Stmt} {a b c d e : Str} {N : List Str} {k : Nat} {p : V → V → V → V → V → Hp → VK → XK → Prop} (D : Df K mg x st [a, b, c, d, e]) (S : FnScope N [a, b, c, d, e] (defScope st))
    (body : ∀ (f : Addr) (cdv : Value) (A : Around) (outer : List Env) (s : Shared) (H : Hp) (u v y z q : V) (Q : VK) (E : XK), Room k (A.deeper (envOfC x (defScope st) s.heap.objs.size f cdv)) → p u v y z q H Q E →
      ∃ t, PSs (cxOf CX0 P w K mg base N x (defScope st) f cdv A outer s H E).nox (defBody st) t ∧ t { nx := fun _ H' => Q .non H', rt := Q } (start N [u, v, y, z, q]) H) : Ct P w K mg base CX0 (k + 1) x [a, b, c, d, e] (sp5 p) := by
  obtain ⟨f, fd, F, hm, hb⟩ := D.ex
  refine ⟨f, fd, hm, F.kp, hb, F.ok S (fun vs H Q E h => ?_) (fun cdv A outer s H vs Q E hr h => ?_), fun_at F⟩
  · obtain ⟨u, v, y, z, q, rfl, _⟩ := sp5_of h
    rfl
  · obtain ⟨u, v, y, z, q, rfl, h⟩ := sp5_of h
    exact body f cdv A outer s H u v y z q Q E hr h
end
end Z

/-! C7: unpacking a list, enumerate of a list, != of two dicts, startswith. -/
namespace Z
open PySem PySem.Spec PyProof.Rows L2

section
variable {X : Cx} {pos : Pos}
def gLz (K : PySem.W.Frag) (n : Nat) (t : TGs) : TG := fun v σ H Q => match v with
  | .ref a => ∃ xs, SqL K H a xs ∧ xs.length = n ∧ t xs σ H Q
  | _ => False
theorem pg_lzK {es : List Expr} {k : Nat} {t : TGs} {n : Nat} (K : PySem.W.Frag) (hc : X.calm = true) (h : PGs X es t) (hK : X.K = K := by rfl) (hn : (assignEach es X.env).length = n := by rfl) (hst : (assignEach es X.env).findIdx? (·.1) = none := by rfl) :
    PG X (.Tuple es k pos) (gLz K n t) :=
  hK ▸ pg_w (pg_lst hc h hn hst) fun v σ H Q h => by
    unfold gLz at h
    split at h
    · obtain ⟨xs, h1, h2, q⟩ := h
      exact ⟨_, xs, rfl, h1, h2, q⟩
    · exact h.elim
end
/-- enumerate(list) -/
def iEnL (K : PySem.W.Frag) (ta : TA) : TI := fun σ H R => ta σ H fun vs H1 => match vs with
  | [.ref a] => (∃ xs, SqL K H1 a xs) ∧ R (Ite K a) H1
  | _ => False
theorem pi_enL {X : Cx} (K : PySem.W.Frag) {e : Expr} {ta : TA} {p pos tpos : Pos} {elts : List Expr} {kk : Nat} (hg : Gl X "enumerate") (hm : X.mg "enumerate" = none) (ha : PA X [e] ta) (hK : X.K = K := by rfl) (hs : starEach [e] X.env = [(false, eval e X.env)] := by rfl) :
    PI X (.Tuple elts kk tpos) (.Call (.Name "enumerate" p) [e] [] pos) (iEnL K ta) :=
  hK ▸ pi_w (pi_enum hg hm (pa_mon ha) hs) fun σ H R h => ⟨_, h, fun vs H1 h1 => by
    split at h1
    · obtain ⟨⟨xs, h2⟩, q⟩ := h1
      exact ⟨_, xs, rfl, h2, q⟩
    · exact h1.elim⟩
/-- for over a list with its places -/
theorem for_eL {K : PySem.W.Frag} {a : Addr} {items : List V} {g : TG} {tb : TS} {D : Ends} {σ : L2.St} {H : Hp} (Pv : Nat → L2.St → Hp → Prop) (h0 : Pv 0 σ H) (hS : ∀ i σ H, Pv i σ H → SqL K H a items)
    (hs : ∀ i x σ H T H2, items[i]? = some x → Pv i σ H → Nw H T (.tup [.int (i : Nat), x]) H2 → g (.ref T) σ H2 fun σ2 H3 => tb { D with nx := Pv (i + 1), ct := Pv (i + 1), bk := D.nx } σ2 H3) (hd : ∀ σ H, Pv items.length σ H → D.nx σ H) :
    ∃ W : Nat → Nat → L2.St → Hp → Prop, (∃ m, W 0 m σ H) ∧ ∀ i m σ H, W i m σ H →
      ((Ite K a).stop i H ∧ D.nx σ H) ∨ ((Ite K a).go i H ∧ ∃ N : L2.St → Hp → Prop, (∀ σ' H', N σ' H' → ∃ m', m' < m ∧ W (i + 1) m' σ' H') ∧ ∀ x H', (Ite K a).yld i H x H' → g x σ H' fun σ2 H2 => tb { D with nx := N, ct := N, bk := D.nx } σ2 H2) := by
  refine ⟨fun i m σ H => m = items.length - i ∧ i ≤ items.length ∧ Pv i σ H, ⟨_, rfl, Nat.zero_le _, h0⟩, ?_⟩
  rintro i m σ H ⟨rfl, hi, p⟩
  have s := hS i σ H p
  rcases Nat.lt_or_ge i items.length with hlt | hge
  · refine .inr ⟨⟨items, items[i], s, by simp [hlt]⟩, Pv (i + 1), fun σ' H' p' => ⟨items.length - (i + 1), by omega, rfl, hlt, p'⟩, fun x H' y => ?_⟩
    obtain ⟨T, x, rfl, hT, rfl, hx⟩ := y
    exact hs i x σ _ T _ (hx _ s) p (nw hT)
  · have e : i = items.length := Nat.le_antisymm hi hge
    subst e
    exact .inl ⟨⟨items, s, Nat.le_refl _⟩, hd σ H p⟩
/-- startswith -/
def zSw : Str → List V → Hp → VK → Prop := fun a xs H Q => match xs with
  | [.str b] => Q (.bl (Txt.startswith a b)) H
  | _ => False
theorem m_startswith {X : Cx} : MtR X "str.startswith" (ofS zSw) := mt_w mt_startswith fun x vs H Q ⟨a, e, h⟩ => by
  unfold zSw at h
  split at h
  · exact ⟨a, _, e, rfl, h⟩
  · exact h.elim
/-! ### d != e of two dicts that are equal -/
open PySem.W in
theorem nePairs {prog : Program} {w : World} {κ : Type} [DecidableEq κ] {knd : KeyKind prog w κ} {A : Around} {E : Value → Shared → Prop} {s : Shared} {a b : Addr} {us ws : List (κ × Value)} {r : Bool} {Q : Value → Shared → Prop} (m1 : (a == sysModules) = false) (m2 : (b == sysModules) = false)
    (d1 : s.heap.DictOf knd a us) (d2 : s.heap.DictOf knd b ws) (room : A.units < cLine) (all : us.length = ws.length → KeqHitsP prog w A.in1 s ws us r) (h : Q (.bool (!(us.length == ws.length && r))) s) : wpAny (model prog w) A (compareOp .NotEq (.ref a) (.ref b)) Q E s := by
  have t1 := d1.typeIs
  have t2 := d2.typeIs
  refine wpAny_richCompare_same_room (op := .NotEq) t1 t2 PySem.F.slot_dict_ne (wpAny_call_entry PySem.F.slot_dict_ne t1 PySem.F.entry_dict_ne ?_ (PySem.F.args_dict_ne_2 _ _)) room
  show wpAny _ _ (Builtin.Dict.dictSlotArgs "__ne__" ⟨[Value.ref a, Value.ref b], []⟩ >>= _) _ _ s
  apply wpAny_bind
  unfold Builtin.Dict.dictSlotArgs
  apply wpAny_bind
  refine wpAny_notOrdered_dict t1 ?_
  show wpAny _ _ (pure ((Value.ref a : Value), (Value.ref b : Value))) _ _ s
  apply wpAny_pure
  refine wpAny_bind (wpAny_isInstance (T := "dict") t2 PySem.F.sub_dict_dict ?_)
  simp only [Bool.not_true, Bool.false_eq_true, if_false]
  apply wpAny_bind
  apply wpAny_pure
  apply wpAny_bind
  apply wpAny_pure
  refine wpAny_bind (samePairsP m1 m2 d1 d2 all ?_)
  refine wpAny_pure ⟨_, rfl, ?_, ?_⟩
  · intro z
    cases z
  · simpa using h
def zNeD (K : PySem.W.Frag) : R2 := fun x y H Q => match x, y with
  | .ref a, .ref b => ∃ ks ls, H a = some (.dK ks) ∧ H b = some (.dK ls) ∧ ks.length = ls.length ∧ (∀ p ∈ ks, ∃ u, valV ls p.1 = some u ∧ EqV K H 5 p.2 u) ∧ Q (.bl false) H
  | _, _ => False
theorem o_neDD {X : Cx} (hu : X.A.units + 64 < cLine) : OpR X (compareOp .NotEq) (zNeD X.K) := by
  intro pins s σ H x y v u Q I rx ry h
  unfold zNeD at h
  split at h
  · obtain ⟨ks, ls, ha, hb, hl, hp, q⟩ := h
    cases rx
    cases ry
    obtain ⟨_, ya, va, ra, da⟩ := I.hok _ _ ha
    obtain ⟨_, yb, vb, rb, db⟩ := I.hok _ _ hb
    have e : va.length = vb.length := by
      rw [← ra.length, ← rb.length]
      exact hl
    refine nePairs (knd := mixKind X.prog X.w) (r := true) ya yb da db (by omega) (fun _ => hits_run (eqV_run I 5 X.A.in1 (by show X.A.units + 1 + 5 < cLine; omega)) rb ra hp) ⟨.bl false, H, I, ?_, q⟩
    show Value.bool _ = Value.bool false
    rw [e]
    simp
  · exact h.elim
theorem k_neDD {X : Cx} (K : PySem.W.Frag) (hu : X.A.units + 64 < cLine) (hK : X.K = K := by rfl) : OpR X (compareOp .NotEq) (zNeD K) := hK ▸ o_neDD hu
section
variable {P : Program} {w : World} {K : PySem.W.Frag} {mg : Str → Option Value} {base : Heap}
theorem cg5 {x : Str} {st : Stmt} {a b c d e : Str} {N : List Str} {k : Nat} {p : V → V → V → V → V → Hp → VK → XK → Prop} (D : Df K mg x st [a, b, c, d, e]) (S : FnScope N [a, b, c, d, e] (defScope st))
    (body : ∀ (f : Addr) (cdv : Value) (A : Around) (outer : List Env) (s : Shared) (H : Hp) (u v v3 v4 v5 : V) (Q : VK) (E : XK), RoomG k (A.deeper (envOfC x (defScope st) s.heap.objs.size f cdv)) → p u v v3 v4 v5 H Q E →
      ∃ t, PSs (cxOf CX0 P w K mg base N x (defScope st) f cdv A outer s H E).nox (defBody st) t ∧ t { nx := fun _ H' => Q .non H', rt := Q } (start N [u, v, v3, v4, v5]) H) : Cg P w K mg base CX0 (k + 1) x [a, b, c, d, e] (sp5 p) := by
  obtain ⟨f, fd, F, hm, hb⟩ := D.ex
  refine ⟨f, fd, hm, F.kp, hb, fng F S (fun vs H Q E h => ?_) (fun cdv A outer s H vs Q E hr h => ?_), fun_at F⟩
  · obtain ⟨u, v, v3, v4, v5, rfl, _⟩ := sp5_of h
    rfl
  · obtain ⟨u, v, v3, v4, v5, rfl, h⟩ := sp5_of h
    exact body f cdv A outer s H u v v3 v4 v5 Q E hr h
end
end Z

/-! P8: raise C() of a class with nothing of its own; == of dicts; == and != of own objects; a list in texts. -/
namespace PySem.W
open PySem PySem.Spec PySem.Calls PyProof.Rows Builtin
section
variable {prog : Program} {w : World} {A : Around} {E : Value → Shared → Prop} {s : Shared} {K : Frag} {x C f : Addr} {ox : Obj} {od : Option Obj} {b tb : Value}
/-- a builtin that a class has under a special name -/
theorem ifBuiltin_K {M : Model} {name : Str} {id T : String} {args : List Value} {Q : Option Value → Shared → Prop} (X : K.In s.heap) (I : InstAt s.heap x ox C od) (hs : findIn K (.ref C) name = some (some (.builtin id))) (S : Slot T name id)
    (h : wpAny M A (call (.builtin id) (.ref x :: args)) (fun v => Q (some v)) E s) : wpAny M A (callSpecialIfBound? (.ref x) name args) Q E s := by
  simp only [callSpecialIfBound?, bindSpecialIfBound?]
  refine wpAny_holding (wpAny_bind (wpAny_bind (wpAny_bind (I.type.here ((looks_findIn X hs).here ?_)))))
  simp only [S.bind]
  refine wpAny_bind (wpAny_askSetting (wpAny_ite ?_))
  have fin : wpAny M A (call (.builtin id) ([.ref x] ++ args) >>= fun v => pure (some v)) Q E s := wpAny_bind (wpAny_mono h (fun v s' h' => wpAny_pure h') fun _ _ h' => h')
  split
  · exact wpAny_bind (wpAny_pure (wpAny_pure fin))
  · exact wpAny_tryCatch (wpAny_bind (wpAny_pure (wpAny_pure fin)))
theorem objNe_K {Q : Fin → Shared → Prop} (hu : A.units < cLine) (X : K.In s.heap) (I : InstAt s.heap x ox C od) (hs : findIn K (.ref C) "__eq__" = some (some (.ref f))) (hf : isFn K (.ref f) = true)
    (h : wpAny (model prog w) A (call (.ref f) [.ref x, b]) (fun v s' => ∃ k, v = .bool k ∧ Q (.done (.ret (.bool (!k)))) s') E s) : wpAny (model prog w) A (Builtin.«object.__ne__» ⟨[.ref x, b], []⟩) Q E s := by
  unfold Builtin.«object.__ne__»
  repeat (first
    | with_reducible refine wpAny_cRoomFor hu ?_
    | (refine wpAny_bind (m := callSpecialIfBound? (.ref x) (Str.ofString "__eq__") [b])
        (ifBound_K X I hs hf (wpAny_mono h (fun r s' hr => by
          obtain ⟨b, rfl, hq⟩ := hr
          repeat (first | exact hq | exact wpAny_pure hq | exact wpAny_truthy_bool hq | (refine wpAny_bind (m := truthy (.bool _)) (wpAny_truthy_bool ?_)) | wp_step)) fun _ _ e => e)))
    | wp_step)
theorem ne_own_K {Q : Value → Shared → Prop} (hu : A.units + 1 < cLine) (X : K.In s.heap) (I : InstAt s.heap x ox C od) (hb : Looks (model prog w) s.heap (typeOf b) tb) (hn : notFirst K C tb = true)
    (hne : findIn K (.ref C) "__ne__" = some (some (.builtin "object.__ne__"))) (hm : mroIn K C (.type "object") = some true) (hs : findIn K (.ref C) "__eq__" = some (some (.ref f))) (hf : isFn K (.ref f) = true)
    (h : wpAny (model prog w) A.in1 (call (.ref f) [.ref x, b]) (fun v s' => ∃ k, v = .bool k ∧ Q (.bool (!k)) s') E s) : wpAny (model prog w) A (richCompare .NotEq (.ref x) b) Q E s := by
  have one : wpAny (model prog w) A (tryCompare (.ref x) "__ne__" b) (fun r s' => ∃ k, r = some (.bool (!k)) ∧ Q (.bool (!k)) s') E s := by
    unfold tryCompare
    refine wpAny_bind (ifBuiltin_K X I hne PySem.F.slot_object_ne (wpAny_call (codeAny_call_builtin PySem.F.slot_object_ne.plain F.cmpEntry_ne ?_)))
    have inst : Looks (model prog w) s.heap (isInstance (.ref x) (.type "object")) true := I.type.andThen (looks_mroIn X hm)
    obtain ⟨hp, g, d, t, os⟩ := s
    refine @check_slot (model prog w) _ _ ⟨hp, g, d, t, os⟩ "object.__ne__" "object" "__ne__" (.ref x) [b] [] _ F.cmpKind_ne F.cmpSplit_ne inst (F.cmpArgs_ne _ _) ?_
    refine objNe_K (A := A.in1) hu X I hs hf (wpAny_mono h (fun v s' hv => ?_) fun _ _ e => e)
    obtain ⟨k, rfl, hq⟩ := hv
    first | exact ⟨k, rfl, wpAny_pure ⟨k, rfl, hq⟩⟩ | exact ⟨k, rfl, ⟨k, rfl, hq⟩⟩ | exact ⟨k, rfl, wpAny_pure (wpAny_pure ⟨k, rfl, hq⟩)⟩
  unfold richCompare
  simp only [oneThing_ref]
  refine wpAny_holding (wpAny_bind (wpAny_cRoomFor (by omega) ?_))
  rw [cmpInfo_NotEq]
  dsimp only
  refine wpAny_bind (I.type.here (wpAny_bind (hb.here ?_)))
  split
  · rename_i q
    have e : subIn K tb (.ref C) = some false := by
      rcases Bool.or_eq_true_iff.mp hn with e | e
      · rw [beq_iff_eq.mp e] at q; simp at q
      · exact beq_iff_eq.mp e
    refine wpAny_bind ((looks_subIn X e).here ?_)
    simp only [Bool.false_eq_true, if_false]
    refine wpAny_bind (wpAny_mono one (fun r s' z => ?_) fun _ _ e => e)
    obtain ⟨v, rfl, hq⟩ := z
    exact wpAny_pure hq
  · refine wpAny_bind (wpAny_pure ?_)
    simp only [Bool.false_eq_true, if_false]
    refine wpAny_bind (wpAny_mono one (fun r s' z => ?_) fun _ _ e => e)
    obtain ⟨v, rfl, hq⟩ := z
    exact wpAny_pure hq
end
end PySem.W
namespace Z
open PySem PySem.Spec PyProof.Rows L2
/-! ### raise C() -/
/-- an error's class with nothing of its own -/
structure Er0 (K : PySem.W.Frag) (mg : Str → Option Value) (x : Str) (C : Addr) : Prop where
  name : mg x = some (.ref C)
  q : PySem.W.excIn K C tailE "Exception.__new__" = true
  kC : PySem.W.keepIn K (.ref C) = true
  exC : PySem.W.subIn K (.ref C) (.type "BaseException") = some true
  tyC : PySem.W.typeIn K (.ref C) = some (.type "type")
theorem pmk_none {X : Cx} {x : Str} {C : Addr} {p pos : Pos} (R : Er0 X.K X.mg x C) (hg : Gl X x := by rfl) (hdb : (x == ("__debug__" : Str)) = false := by decide) : PMk X (.Call (.Name x p) [] [] pos) (fun _ H Q => Q (.ref C) none H) := by
  intro pins s σ H Q I h
  refine wpAny_Call_Name_kw (ld_glob I hg R.name ?_ hdb)
  refine PySem.W.callWith_K0 (first := []) I.kIn R.kC ?_
  obtain ⟨hp, g, d, t, os⟩ := s
  show wpAny _ _ (call (.ref C) []) _ _ _
  obtain ⟨bm, N, nm, qn, bs, hdct, sn, sub, ab, col, dd, k0, k1, k2, k3, k5, mN, hC, hN, hni, T⟩ := exc_obj I.kIn R.q
  refine wpAny_call_exc_subT PySem.F.excBase_Exception T hC hN hni (fun h' e hm => ?_) (by show 0 ≤ sizeLine; exact Nat.zero_le _)
  exact mk_of I hm (raises_own R.exC R.tyC) h (I.hok.gone hm.new)
def tRz0 (C : Addr) (W : WX) : TS := fun _ σ H => W (.ref C) none σ H
theorem ps_rz0 {X : Cx} {W : WX} {x : Str} {C : Addr} {p p2 pos : Pos} (hc : X.calm = true) (tk : Takes X W) (R : Er0 X.K X.mg x C) (hg : Gl X x := by rfl) (hdb : (x == ("__debug__" : Str)) = false := by decide) :
    PS X (.Raise (some (.Call (.Name x p) [] [] p2)) none pos) (tRz0 C W) := ps_raise hc tk (pmk_none R hg hdb)
/-- an error of the class x, with nothing in it, leaves -/
def Rz0 (K : PySem.W.Frag) (x : Str) (H : Hp) (E : XK) : Prop := ∀ C H2, clsAt K x C → Same H H2 → E (.ref C) none H2
/-! ### own == -/
section
variable {X : Cx} {C : Addr} {k : Nat} {sp : Sp}
/-- what stands to the right: a thing of a built-in kind, or one of the class -/
def RightV (K : PySem.W.Frag) (H : Hp) (C : Addr) (y : V) : Prop := (∃ t, KindV K H y t) ∨ ∃ b dx fs, y = .ref b ∧ H b = some (.ins C dx fs)
theorem right_looks {pins : List (Addr × Obj)} {σ : L2.St} {H : Hp} {s : Shared} {y : V} {u : Value} (I : Inv X pins σ H s) (r : RelV y u) (h : RightV X.K H C y) : ∃ t, PySem.W.Looks (model X.prog X.w) s.heap (typeOf u) t ∧ PySem.W.notFirst X.K C t = true := by
  rcases h with ⟨t, h⟩ | ⟨b, dx, fs, rfl, hb⟩
  · obtain ⟨h1, h2⟩ := h.tyx
    obtain ⟨P, kx, p, _⟩ := kit_of I r h1
    refine ⟨_, kx.ty _ _ I.kIn p, ?_⟩
    have nc : ∀ T ∈ ["NoneType", "bool", "int", "str", "list", "tuple", "dict"], PySem.W.subIn X.K (.type T) (.ref C) = some false := by
      intro T hT
      simp only [List.mem_cons, List.not_mem_nil, or_false] at hT
      rcases hT with rfl | rfl | rfl | rfl | rfl | rfl | rfl <;> rfl
    show (_ || PySem.W.subIn X.K (.type t) (.ref C) == some false) = true
    rw [nc t h2, Bool.or_eq_true]
    exact .inr rfl
  · cases r
    obtain ⟨mB, J, _⟩ := ins_get I.hok hb
    obtain ⟨od, J, _⟩ := J.look
    refine ⟨_, J.type, ?_⟩
    show (Value.ref C == Value.ref C || _) = true
    rw [beq_self_eq_true, Bool.true_or]
def zOwn (K : PySem.W.Frag) (C : Addr) (sp : Sp) (neg : Bool) : R2 := fun x y H Q => match x with
  | .ref a => (∃ dx fs, H a = some (.ins C dx fs)) ∧ RightV K H C y ∧ sp [.ref a, y] H (fun v H2 => ∃ b, v = .bl b ∧ Q (.bl (neg ^^ b)) H2) E0
  | _ => False
/-- what is said of the class whose == is its own -/
structure OwnC (K : PySem.W.Frag) (C f : Addr) : Prop where
  eq : PySem.W.findIn K (.ref C) "__eq__" = some (some (.ref f))
  fn : PySem.W.isFn K (.ref f) = true
  ne : PySem.W.findIn K (.ref C) "__ne__" = some (some (.builtin "object.__ne__"))
  ob : PySem.W.mroIn K C (.type "object") = some true
theorem own_run {pins : List (Addr × Obj)} {σ : L2.St} {H : Hp} {s : Shared} {A : Around} {vs : List V} {us : List Value} {f : Addr} {fd : FuncData} {ps : List Str} {Q : VK} (F : FnOk X.prog X.w X.K X.mg X.base CX0 k f fd ps sp) (hb : Binds X.K fd ps []) (hr : Room k A) (fr : A.frames = X.A.frames) (I : Inv X pins σ H s) (r : Vals vs us) (h : sp vs H Q E0) :
    wpAny (model X.prog X.w) A (call (.ref f) us) (fun v s' => EP X pins σ Q v s') X.xe s := by
  have e0 : Env0 X.prog X.w X.K X.mg X.base A X.stack s H := by
    have e := I.env0
    exact ⟨by rw [fr]; exact e.frames, e.mod, e.bs, e.bsz, e.funs, e.frf, e.hok, e.bare⟩
  have hl : us.length = ps.length := r.length.symm.trans (F.len _ _ _ _ h)
  refine wpAny_call (codeAny_mono (F.run A X.stack s H ⟨us, []⟩ us vs _ E0 hr e0 (by
    have := hb s us I.kIn (by simpa using hl)
    simpa using this) r h) fun rr s' hq => ?_)
  cases rr with
  | error e => exact (show False from hq).elim
  | ok fl =>
    cases fl with
    | ret w => exact I.after hq
    | next => exact False.elim hq
    | brk => exact False.elim hq
    | cont => exact False.elim hq
theorem o_ownEq {f : Addr} {fd : FuncData} {ps : List Str} (F : FnOk X.prog X.w X.K X.mg X.base CX0 k f fd ps sp) (hb : Binds X.K fd ps []) (O : OwnC X.K C f) (hr : Room k X.A) : OpR X (compareOp .Eq) (zOwn X.K C sp false) := by
  intro pins s σ H x y v u Q I rx ry h
  unfold zOwn at h
  split at h
  · rename_i a
    obtain ⟨⟨dx, fs, ha⟩, hR, h⟩ := h
    obtain ⟨t, lt, nf⟩ := right_looks I ry hR
    cases rx
    obtain ⟨mA, J, _⟩ := ins_get I.hok ha
    obtain ⟨od, J, _⟩ := J.look
    obtain ⟨m, hF⟩ := I.fr
    show wpAny (model X.prog X.w) X.A (richCompare .Eq _ _) _ _ _
    refine PySem.W.cmp_K (op := .Eq) hr.units0 hF I.ok.mod.kin J lt nf O.eq O.fn ?_
    refine thn (own_run (vs := [V.ref a, y]) (us := [Value.ref a, u]) F hb hr rfl I (.cons (show RelV (.ref a) (.ref a) from rfl) (.cons ry .nil)) h) fun w s' z => ?_
    obtain ⟨z, H', I', rz, b, rfl, q⟩ := z
    cases rz
    exact ⟨.bl b, H', I', rfl, by simpa using q⟩
  · exact h.elim
theorem o_ownNe {f : Addr} {fd : FuncData} {ps : List Str} (F : FnOk X.prog X.w X.K X.mg X.base CX0 k f fd ps sp) (hb : Binds X.K fd ps []) (O : OwnC X.K C f) (hr : Room (k + 1) X.A) : OpR X (compareOp .NotEq) (zOwn X.K C sp true) := by
  intro pins s σ H x y v u Q I rx ry h
  unfold zOwn at h
  split at h
  · rename_i a
    obtain ⟨⟨dx, fs, ha⟩, hR, h⟩ := h
    obtain ⟨t, lt, nf⟩ := right_looks I ry hR
    cases rx
    obtain ⟨mA, J, _⟩ := ins_get I.hok ha
    obtain ⟨od, J, _⟩ := J.look
    show wpAny (model X.prog X.w) X.A (richCompare .NotEq _ _) _ _ _
    refine PySem.W.ne_own_K (by have := hr.units; omega) I.kIn J lt nf O.ne O.ob O.eq O.fn ?_
    refine thn (own_run (vs := [V.ref a, y]) (us := [Value.ref a, u]) F hb hr.in1 rfl I (.cons (show RelV (.ref a) (.ref a) from rfl) (.cons ry .nil)) h) fun w s' z => ?_
    obtain ⟨z, H', I', rz, b, rfl, q⟩ := z
    cases rz
    exact ⟨b, rfl, .bl (!b), H', I', rfl, by simpa using q⟩
  · exact h.elim
end
end Z
namespace Z
open PySem PySem.Spec PyProof.Rows L2
/-! ### == of dicts -/
/-- whether two values are equal: flat ones, or lists as data -/
def EqB (K : PySem.W.Frag) (H : Hp) (v y : V) (e : Bool) : Prop := (flatV v = true ∧ flatV y = true ∧ e = eqV v y) ∨
  ∃ (a b : Addr) (d d' : PyData), v = .ref a ∧ y = .ref b ∧ Dp K H v d ∧ Dp K H y d' ∧ d.canLay0 = true ∧ d'.canLay0 = true ∧ d.depth ≤ 5 ∧ e = PyData.eqv d d' ∧ (a = b → d = d')
inductive HitsV (E : V → V → Bool → Prop) (ls : List (Key × V)) : List (Key × V) → Bool → Prop
  | nil : HitsV E ls [] true
  | miss {k : Key} {v : V} {r : List (Key × V)} : valV ls k = none → HitsV E ls ((k, v) :: r) false
  | hit {k : Key} {v y : V} {e b : Bool} {r : List (Key × V)} : valV ls k = some y → E v y e → HitsV E ls r b → HitsV E ls ((k, v) :: r) (e && b)
section
variable {X : Cx} {pins : List (Addr × Obj)} {σ : L2.St} {H : Hp} {s : Shared}
theorem eqB_run (I : Inv X pins σ H s) {A : Around} (hu : A.units + 10 < cLine) {x y : V} {v u : Value} {e : Bool} (h : EqB X.K H x y e) (rx : RelV x v) (ry : RelV y u) : SeqAt.EqP X.prog X.w A s v u e := by
  rcases h with ⟨f, g, rfl⟩ | ⟨a, b, d, d', rfl, rfl, hd, hd', c, c', dp, rfl, same⟩
  · exact (eqAt_V rx ry f g).eqP
  · obtain ⟨as, r1⟩ := Dp.reads I d _ v hd rx
    obtain ⟨bs, r2⟩ := Dp.reads I d' _ u hd' ry
    cases rx
    cases ry
    by_cases z : a = b
    · obtain rfl := same z
      subst z
      rw [SeqAt.eqv_refl d c]
      exact (SeqAt.EqAt.same _).eqP
    · refine SeqAt.eqP_refs z fun E Q q => ?_
      show wpAny _ _ (compareOp .Eq _ _) _ _ _
      exact SeqAt.compareEq_reads r1 r2 c c' (by have := Nat.min_le_left d.depth d'.depth; omega) q
theorem hitsV_run {P : Program} {w : World} {A : Around} {E : V → V → Bool → Prop} (ih : ∀ x y v u e, E x y e → RelV x v → RelV y u → SeqAt.EqP P w A s v u e) {ls : List (Key × V)} {vb : List (Key × Value)} (rb : KV ls vb) {ks : List (Key × V)} {va : List (Key × Value)}
    (ra : KV ks va) {r : Bool} : HitsV E ls ks r → PySem.W.KeqHitsP P w A s vb va r := by
  unfold KV at ra
  induction ra generalizing r with
  | nil =>
    intro h
    cases h
    exact .nil
  | @cons p q ps qs h t k =>
    intro hp
    obtain ⟨key, v⟩ := q
    obtain ⟨pk, pv⟩ := p
    obtain ⟨h1, h2⟩ := h
    have h1 : pk = key := h1
    subst h1
    cases hp with
    | miss hn =>
      have rr : RelO none (valueAt vb pk) := by rw [← hn]; exact rb.val pk
      refine .miss ?_
      cases e : valueAt vb pk with
      | none => rfl
      | some y =>
        rw [e] at rr
        exact rr.elim
    | @hit _ _ y0 _ _ _ hy he hr =>
      have rr : RelO (some y0) (valueAt vb pk) := by rw [← hy]; exact rb.val pk
      obtain ⟨y, hy', ry⟩ := rr.some_of
      exact .hit hy' (ih _ _ _ _ _ he h2 ry) (k hr)
end
def zEqDD (K : PySem.W.Frag) : R2 := fun x y H Q => match x, y with
  | .ref a, .ref b => ∃ ks ls r, H a = some (.dK ks) ∧ H b = some (.dK ls) ∧ (ks.length = ls.length → HitsV (EqB K H) ls ks r) ∧ Q (.bl (ks.length == ls.length && r)) H
  | _, _ => False
theorem o_eqDD {X : Cx} (hu : X.A.units + 64 < cLine) : OpR X (compareOp .Eq) (zEqDD X.K) := by
  intro pins s σ H x y v u Q I rx ry h
  unfold zEqDD at h
  split at h
  · obtain ⟨ks, ls, r, ha, hb, hp, q⟩ := h
    cases rx
    cases ry
    obtain ⟨_, ya, va, ra, da⟩ := I.hok _ _ ha
    obtain ⟨_, yb, vb, rb, db⟩ := I.hok _ _ hb
    have e1 := ra.length
    have e2 := rb.length
    show wpAny (model X.prog X.w) X.A (richCompare .Eq _ _) _ _ _
    refine PySem.W.rcP_dicts (knd := mixKind X.prog X.w) (r := r) ya yb da db (by omega) (fun e => hitsV_run (fun _ _ _ _ _ h r1 r2 => eqB_run I (by show X.A.units + 1 + 10 < cLine; omega) h r1 r2) rb ra (hp (by omega))) _ _ ⟨.bl _, H, I, rfl, ?_⟩
    rw [← e1, ← e2]
    exact q
  · exact h.elim
theorem k_eqDD {X : Cx} (K : PySem.W.Frag) (hu : X.A.units + 64 < cLine) (hK : X.K = K := by rfl) : OpR X (compareOp .Eq) (zEqDD K) := hK ▸ o_eqDD hu
/-! ### in: a list among texts -/
def zInS (K : PySem.W.Frag) (neg : Bool) : R2 := fun x y H Q => match y with
  | .ref p => ∃ xs, SqL K H p xs ∧ ((flatV x = true ∧ xs.all flatV = true ∧ Q (.bl (neg ^^ inV x xs)) H) ∨ ∃ a ys, x = .ref a ∧ SqL K H a ys ∧ (∀ z ∈ xs, ∃ t, z = .str t) ∧ Q (.bl neg) H)
  | _ => False
theorem o_inS {X : Cx} (hu : X.A.units + 64 < cLine) : OpR X (compareOp .In) (zInS X.K false) := by
  intro pins s σ H x y v u Q I rx ry h
  unfold zInS at h
  split at h
  · obtain ⟨xs, hp, ⟨h2, h3, q⟩ | ⟨a, ys, rfl, ha, hs, q⟩⟩ := h
    · exact op_in_seq pins s σ H _ _ v u Q I rx ry ⟨_, xs, rfl, .inl hp, h2, h3, by simpa using q⟩
    · cases ry
      cases rx
      obtain ⟨its, r, pl, _⟩ := I.list hp
      obtain ⟨its2, _, pl2, _⟩ := I.list ha
      have all : ∀ {xs : List V} {its : List Value}, Vals xs its → (∀ z ∈ xs, ∃ t, z = .str t) → ∀ w ∈ its, ∃ b u, w = .str b u := by
        intro xs its r
        induction r with
        | nil => intro _ w hw; cases hw
        | cons h _ ih =>
          intro hs w hw
          rcases List.mem_cons.mp hw with rfl | hw
          · obtain ⟨t, rfl⟩ := hs _ List.mem_cons_self
            obtain ⟨tk, rfl⟩ := h
            exact ⟨_, _, rfl⟩
          · exact ih (fun z hz => hs z (List.mem_cons_of_mem _ hz)) w hw
      refine SeqAt.in_listAt (fun _ => false) pl.isList (fun w hw => ?_) ⟨.bl _, H, I, rfl, ?_⟩
      · obtain ⟨b, u, rfl⟩ := all r hs w (by simpa using hw)
        exact SeqAt.EqAt.str_list b u pl2.isList (by show X.A.units + 1 < cLine; omega)
      · rw [show its.toArray.any (fun _ => false) = false by simp]
        exact q
  · exact h.elim
theorem o_ninS {X : Cx} (hu : X.A.units + 64 < cLine) : OpR X (compareOp .NotIn) (zInS X.K true) := by
  intro pins s σ H x y v u Q I rx ry h
  unfold zInS at h
  split at h
  · obtain ⟨xs, hp, ⟨h2, h3, q⟩ | ⟨a, ys, rfl, ha, hs, q⟩⟩ := h
    · exact op_notIn_seq pins s σ H _ _ v u Q I rx ry ⟨_, xs, rfl, .inl hp, h2, h3, by simpa using q⟩
    · cases ry
      cases rx
      obtain ⟨its, r, pl, _⟩ := I.list hp
      obtain ⟨its2, _, pl2, _⟩ := I.list ha
      have all : ∀ {xs : List V} {its : List Value}, Vals xs its → (∀ z ∈ xs, ∃ t, z = .str t) → ∀ w ∈ its, ∃ b u, w = .str b u := by
        intro xs its r
        induction r with
        | nil => intro _ w hw; cases hw
        | cons h _ ih =>
          intro hs w hw
          rcases List.mem_cons.mp hw with rfl | hw
          · obtain ⟨t, rfl⟩ := hs _ List.mem_cons_self
            obtain ⟨tk, rfl⟩ := h
            exact ⟨_, _, rfl⟩
          · exact ih (fun z hz => hs z (List.mem_cons_of_mem _ hz)) w hw
      refine SeqAt.notIn_listAt (fun _ => false) pl.isList (fun w hw => ?_) ⟨.bl _, H, I, rfl, ?_⟩
      · obtain ⟨b, u, rfl⟩ := all r hs w (by simpa using hw)
        exact SeqAt.EqAt.str_list b u pl2.isList (by show X.A.units + 1 < cLine; omega)
      · rw [show its.toArray.any (fun _ => false) = false by simp]
        exact q
  · exact h.elim
theorem k_inS {X : Cx} (K : PySem.W.Frag) (hu : X.A.units + 64 < cLine) (hK : X.K = K := by rfl) : OpR X (compareOp .In) (zInS K false) := hK ▸ o_inS hu
theorem k_ninS {X : Cx} (K : PySem.W.Frag) (hu : X.A.units + 64 < cLine) (hK : X.K = K := by rfl) : OpR X (compareOp .NotIn) (zInS K true) := hK ▸ o_ninS hu
end Z
namespace Z
open PySem PySem.Spec PyProof.Rows L2
/-! ### for k in d -/
def iKz (td : TE) : TI := fun σ H R => td σ H fun x H1 => match x with
  | .ref d => ∃ o kvs, H1 d = some (.frz o (.dK kvs)) ∧ R (Itk d o kvs) H1
  | _ => False
theorem pi_kz {X : Cx} {tg e : Expr} {td : TE} (he : PE X e td) : PI X tg e (iKz td) := pi_w (pi_keys (pe_mon he)) fun σ H R h => ⟨_, h, fun x H1 h1 => by
  split at h1
  · obtain ⟨o, kvs, e, q⟩ := h1
    exact ⟨_, o, rfl, .inl ⟨kvs, e, q⟩⟩
  · exact h1.elim⟩
/-- the keys of a locked dict, each once -/
theorem for_k {d : Addr} {o : Obj} {kvs : List (Key × V)} {g : TG} {tb : TS} {D : Ends} {σ : L2.St} {H : Hp} (Pv : Nat → L2.St → Hp → Prop) (h0 : Pv 0 σ H) (hS : ∀ i σ H, Pv i σ H → H d = some (.frz o (.dK kvs)))
    (hs : ∀ i k v σ H, kvs[i]? = some (k, v) → Pv i σ H → g (kV k) σ H fun σ2 H3 => tb { D with nx := Pv (i + 1), ct := Pv (i + 1), bk := D.nx } σ2 H3) (hd : ∀ σ H, Pv kvs.length σ H → D.nx σ H) :
    ∃ W : Nat → Nat → L2.St → Hp → Prop, (∃ m, W 0 m σ H) ∧ ∀ i m σ H, W i m σ H →
      ((Itk d o kvs).stop i H ∧ D.nx σ H) ∨ ((Itk d o kvs).go i H ∧ ∃ N : L2.St → Hp → Prop, (∀ σ' H', N σ' H' → ∃ m', m' < m ∧ W (i + 1) m' σ' H') ∧ ∀ x H', (Itk d o kvs).yld i H x H' → g x σ H' fun σ2 H2 => tb { D with nx := N, ct := N, bk := D.nx } σ2 H2) := by
  refine ⟨fun i m σ H => m = kvs.length - i ∧ i ≤ kvs.length ∧ Pv i σ H, ⟨_, rfl, Nat.zero_le _, h0⟩, ?_⟩
  rintro i m σ H ⟨rfl, hi, p⟩
  have s := hS i σ H p
  rcases Nat.lt_or_ge i kvs.length with hlt | hge
  · refine .inr ⟨⟨s, hlt⟩, Pv (i + 1), fun σ' H' p' => ⟨kvs.length - (i + 1), by omega, rfl, hlt, p'⟩, fun x H' y => ?_⟩
    obtain ⟨rfl, k, v, hk, rfl⟩ := y
    exact hs i k v σ _ hk p
  · have e : i = kvs.length := Nat.le_antisymm hi hge
    subst e
    exact .inl ⟨⟨s, Nat.le_refl _⟩, hd σ H p⟩
/-- d[k] of a dict that may be locked -/
def tDGR (td ty : TE) : TE := fun σ H Q => td σ H fun x H1 => match x with
  | .ref a => (∃ kvs, Rd H1 a (.dK kvs)) ∧ ty σ H1 fun y H2 => ∃ kvs k v, Rd H2 a (.dK kvs) ∧ y = kV k ∧ valV kvs k = some v ∧ Q v H2
  | _ => False
theorem pe_dgR {X : Cx} {o i : Expr} {td ty : TE} {pos : Pos} (hu : X.A.units + 1 < cLine) (ho : PE X o td) (hi : PE X i ty) (hs : NoSl i) : PE X (.Subscript o i pos) (tDGR td ty) :=
  pe_w (pe_dget hu (pe_mon ho) (pe_mon hi) hs) fun σ H Q h => ⟨_, h, fun x H1 h1 => by
    split at h1
    · obtain ⟨⟨kvs, e⟩, q⟩ := h1
      exact ⟨_, q, fun y H2 q2 => by
        obtain ⟨kvs2, k, v, e2, rfl, hv, q2⟩ := q2
        exact ⟨_, v, rfl, .inl ⟨kvs2, k, e2, rfl, hv.symm⟩, q2⟩⟩
    · exact h1.elim⟩
/-- reversed(a list) -/
def iRz (K : PySem.W.Frag) (td : TE) : TI := fun σ H R => td σ H fun x H1 => match x with
  | .ref a => ∃ xs, SqL K H1 a xs ∧ R (Itv K a xs.length) H1
  | _ => False
theorem pi_revz {X : Cx} {tg e : Expr} {te : TE} {p pos : Pos} (K : PySem.W.Frag) (hg : Gl X "reversed") (hm : X.mg "reversed" = none) (he : PE X e te) (hK : X.K = K := by rfl) (hs : starEach [e] X.env = (false, eval e X.env) :: starEach [] X.env := by rfl) : PI X tg (.Call (.Name "reversed" p) [e] [] pos) (iRz K te) :=
  hK ▸ pi_w (RT.pi_revA hg hm (pe_mon he) hs) fun σ H R h => ⟨_, h, fun x H1 h1 => by
    split at h1
    · obtain ⟨xs, e, q⟩ := h1
      exact ⟨_, xs, rfl, .inl ⟨e, q⟩⟩
    · exact h1.elim⟩
/-! ### {k: v, ..} -/
def tDisz (trs : List (TE × TE)) : TE := fun σ H Q => ∀ p H1, Nw H p (.dK []) H1 → tPairs trs σ H1 fun ps H2 => H2 p = some (.dK []) ∧ ∃ kvs : List (Key × V), ps = kvs.map (fun kv => (kV kv.1, kv.2)) ∧ kvs.length ≤ 15 ∧ ∀ H3, Wr H2 p (.dK (mergeK [] kvs)) H3 → Q (.ref p) H3
theorem tPairs_mono : ∀ (trs : List (TE × TE)), (∀ t ∈ trs, (∃ a, t.1 = mon a) ∧ ∃ b, t.2 = mon b) → ∀ {σ : L2.St} {H : Hp} {Q R : List (V × V) → Hp → Prop}, (∀ ps H, Q ps H → R ps H) → tPairs trs σ H Q → tPairs trs σ H R
  | [], _, _, _, _, _, i, h => i _ _ h
  | (tk, tv) :: r, hm, σ, H, Q, R, i, h => by
    obtain ⟨⟨a, ea⟩, b, eb⟩ := hm _ List.mem_cons_self
    have ea : tk = mon a := ea
    have eb : tv = mon b := eb
    subst ea eb
    obtain ⟨Q0, q0, i0⟩ := h
    refine ⟨Q0, q0, fun x H1 h1 => ?_⟩
    obtain ⟨Q1, q1, i1⟩ := i0 x H1 h1
    refine ⟨Q1, q1, fun y H2 h2 => ?_⟩
    exact tPairs_mono r (fun t ht => hm t (List.mem_cons_of_mem _ ht)) (fun ps H hq => i _ _ hq) (i1 y H2 h2)
theorem pe_disz {X : Cx} {pos : Pos} {keys : List (Option Expr)} {values : List Expr} {trs : List (TE × TE)} (h : PPs X pos keys values trs) (hall : keys.all (·.isSome) = true) (hl : keys.length = values.length) (h0 : keys ≠ [])
    (h15 : keys.length ≤ 15) : PE X (.Dict keys values pos) (tDisz trs) := by
  refine ⟨fun pins s σ H Q I q => ?_⟩
  have hn := I.hok.fresh (Nat.le_refl s.heap.objs.size)
  have I1 := I.laid (a := s.heap.objs.size) (o := .dK []) (h' := s.heap.push { cls := .type "dict", data := .dict #[] }) (t' := s.toks) (fun _ _ q => Heap.get?_push_of_some _ q) (Nat.le_refl _) (dk_empty s.heap I.big)
  refine wpAny_Dict_walk (knd := mixKind X.prog X.w) hall hl h0 h15 (thn (h.run pins _ σ _ _ I1 (q _ _ (nw hn))) fun ws s2 ⟨ps, H2, I2, rel, e, kvs, ep, lk, q2⟩ => ?_)
  subst ep
  obtain ⟨rs, c, rk⟩ := carries_of (P := X.prog) (w := X.w) rel
  obtain ⟨z, hd, vs0, r0, dd⟩ := dk_of I2.hok e
  cases r0
  refine ⟨rs, c, dd, fun h' dd' hs => ⟨.ref s.heap.objs.size, _, ?_, rfl, q2 _ wr⟩⟩
  have hz : (mergeK [] kvs).length ≤ sizeLine := by
    have h1 := length_mergeK kvs []
    rw [List.length_nil] at h1
    rw [sizeLine_eq]; omega
  have he : ∃ q, h'.get? s.heap.objs.size = some q := let ⟨q, _, _, hq, _⟩ := dd'; ⟨q, hq⟩
  exact d_write I2 (by rw [e]; exact True.intro) hs he (dk_new hz hd (rk.merge .nil) dd')
/-! ### isinstance(x, C) of an own class -/
structure IsC (K : PySem.W.Frag) (C : Addr) : Prop where
  cl : Cls K C
  ha : PySem.W.findIn K (.ref C) "__class__" = some (some (.builtin "object.__class__"))
  hn : PySem.W.specialIn K (.builtin "object.__class__") "__get__" = some (some (.builtin "getset_descriptor.__get__"))
  ht : PySem.W.takesIn K (.builtin "object.__class__") = some true
  hm : PySem.W.mroIn K C (.type "object") = some true
  hd : PySem.W.hasDictIn K C = true
  ty : PySem.W.typeIn K (.ref C) = some (.type "type")
def zIsO (K : PySem.W.Frag) (C : Addr) : List V → Hp → VK → Prop := fun vs H Q => match vs with
  | [x, .ref c] => c = C ∧ ((∃ t, KindV K H x t ∧ Q (.bl false) H) ∨ ∃ b dx fs, x = .ref b ∧ H b = some (.ins C dx fs) ∧ Q (.bl true) H)
  | _ => False
theorem c_isO {X : Cx} {C : Addr} (S : IsC X.K C) : CallR X (.builtin "isinstance") (zIsO X.K C) := by
  intro pins s σ H xs us Q I r h
  unfold zIsO at h
  split at h
  · rename_i x c
    obtain ⟨rfl, ⟨t, hk, q⟩ | ⟨b, dx, fs, rfl, hb, q⟩⟩ := h
    · obtain ⟨h1, h2⟩ := hk.tyx
      have nc : ∀ T ∈ ["NoneType", "bool", "int", "str", "list", "tuple", "dict"], PySem.W.subIn X.K (.type T) (.ref c) = some false := by
        intro T hT
        simp only [List.mem_cons, List.not_mem_nil, or_false] at hT
        rcases hT with rfl | rfl | rfl | rfl | rfl | rfl | rfl <;> rfl
      have one : PySem.W.kitOne X.K (.type t) (.ref c) = some false := by
        obtain ⟨cd, hc, _⟩ := PySem.W.any_some S.hd
        have e2 : ((PySem.W.clsIn X.K c).isSome && PySem.W.typeIn X.K (.ref c) == some (.type "type")) = true := by rw [hc, S.ty] <;> rfl
        show (if ((PySem.W.clsIn X.K c).isSome && PySem.W.typeIn X.K (.ref c) == some (.type "type")) = true then PySem.W.subIn X.K (.type t) (.ref c) else none) = some false
        rw [if_pos e2]
        exact nc t h2
      exact call_isi pins s σ H _ us Q I r ⟨x, .ref c, .type t, .ref c, false, rfl, .own c, h1, one, q⟩
    · refine call_isi pins s σ H _ us Q I r ⟨.ref b, .ref c, .ref c, .ref c, true, rfl, .own c, .base (.ins hb S.cl S.ha S.hn S.ht S.hm), ?_, q⟩
      unfold PySem.W.kitOne
      rw [if_pos (beq_self_eq_true _)]
  · exact h.elim
/-- the own == of a class -/
structure OwnE (P : Program) (w : World) (K : PySem.W.Frag) (mg : Str → Option Value) (base : Heap) (k : Nat) (C : Addr) (sp : Sp) : Prop where
  ex : ∃ f fd ps, FnOk P w K mg base CX0 k f fd ps sp ∧ Binds K fd ps [] ∧ OwnC K C f
theorem Mt.own {P : Program} {w : World} {K : PySem.W.Frag} {mg : Str → Option Value} {base : Heap} {k : Nat} {C : Addr} {ps : List Str} {sp : Sp} (M : Mt P w K mg base CX0 k C "__eq__" ps sp) (ne : PySem.W.findIn K (.ref C) "__ne__" = some (some (.builtin "object.__ne__"))) (ob : PySem.W.mroIn K C (.type "object") = some true) :
    OwnE P w K mg base k C sp := by
  obtain ⟨f, fd, hc, hm, hb, F, _⟩ := M.ex
  exact ⟨f, fd, ps, F, hb, hm.at_, hm.fn, ne, ob⟩
theorem k_ownEq {X : Cx} {k : Nat} {C : Addr} {sp : Sp} (K : PySem.W.Frag) (O : OwnE X.prog X.w X.K X.mg X.base k C sp) (hr : Room k X.A) (hK : X.K = K := by rfl) : OpR X (compareOp .Eq) (zOwn K C sp false) := by
  obtain ⟨f, fd, ps, F, hb, O⟩ := O.ex
  exact hK ▸ o_ownEq F hb O hr
theorem k_ownNe {X : Cx} {k : Nat} {C : Addr} {sp : Sp} (K : PySem.W.Frag) (O : OwnE X.prog X.w X.K X.mg X.base k C sp) (hr : Room (k + 1) X.A) (hK : X.K = K := by rfl) : OpR X (compareOp .NotEq) (zOwn K C sp true) := by
  obtain ⟨f, fd, ps, F, hb, O⟩ := O.ex
  exact hK ▸ o_ownNe F hb O hr
end Z
namespace Z
open PySem PySem.Spec PyProof.Rows L2
theorem k_isO {X : Cx} {C : Addr} (K : PySem.W.Frag) (S : IsC K C) (hK : X.K = K := by rfl) : CallR X (.builtin "isinstance") (zIsO K C) := by
  subst hK
  exact c_isO S
end Z
namespace Z
open PySem PySem.Spec PyProof.Rows L2
section
variable {P : Program} {w : World} {K : PySem.W.Frag} {mg : Str → Option Value} {base : Heap}
theorem cg4 {x : Str} {st : Stmt} {a b c d : Str} {N : List Str} {k : Nat} {p : V → V → V → V → Hp → VK → XK → Prop} (D : Df K mg x st [a, b, c, d]) (S : FnScope N [a, b, c, d] (defScope st))
    (body : ∀ (f : Addr) (cdv : Value) (A : Around) (outer : List Env) (s : Shared) (H : Hp) (u v v3 v4 : V) (Q : VK) (E : XK), RoomG k (A.deeper (envOfC x (defScope st) s.heap.objs.size f cdv)) → p u v v3 v4 H Q E →
      ∃ t, PSs (cxOf CX0 P w K mg base N x (defScope st) f cdv A outer s H E).nox (defBody st) t ∧ t { nx := fun _ H' => Q .non H', rt := Q } (start N [u, v, v3, v4]) H) : Cg P w K mg base CX0 (k + 1) x [a, b, c, d] (sp4 p) := by
  obtain ⟨f, fd, F, hm, hb⟩ := D.ex
  refine ⟨f, fd, hm, F.kp, hb, fng F S (fun vs H Q E h => ?_) (fun cdv A outer s H vs Q E hr h => ?_), fun_at F⟩
  · obtain ⟨u, v, v3, v4, rfl, _⟩ := sp4_of h
    rfl
  · obtain ⟨u, v, v3, v4, rfl, h⟩ := sp4_of h
    exact body f cdv A outer s H u v v3 v4 Q E hr h
end
end Z

/-! M9: texts as lists of codes: signs, frames, their reading. -/
namespace M9
open PySem PySem.Spec PyProof.Rows L2 Z SX PySem.NumText

/-! ### signs -/
def Pr (l : List Nat) : Prop := ∀ c ∈ l, 32 ≤ c ∧ c ≤ 126
theorem pr_nil : Pr [] := fun _ h => by cases h
theorem pr_cons {c : Nat} {l : List Nat} (h : 32 ≤ c ∧ c ≤ 126) (t : Pr l) : Pr (c :: l) := fun d hd => by
  rcases List.mem_cons.mp hd with rfl | hd
  · exact h
  · exact t d hd
theorem pr_app {l m : List Nat} (a : Pr l) (b : Pr m) : Pr (l ++ m) := fun c hc => (List.mem_append.mp hc).elim (a c) (b c)
theorem pr_take {l : List Nat} (n : Nat) (a : Pr l) : Pr (l.take n) := fun c hc => a c (List.mem_of_mem_take hc)
theorem pr_drop {l : List Nat} (n : Nat) (a : Pr l) : Pr (l.drop n) := fun c hc => a c (List.mem_of_mem_drop hc)
theorem pr_rep {l : List Nat} (n : Nat) (a : Pr l) : Pr (List.replicate n l).flatten := fun c hc => by
  obtain ⟨m, hm, hc⟩ := List.mem_flatten.mp hc
  rw [(List.mem_replicate.mp hm).2] at hc
  exact a c hc
theorem pr_flat {ls : List (List Nat)} (a : ∀ l ∈ ls, Pr l) : Pr ls.flatten := fun c hc => by
  obtain ⟨m, hm, hc⟩ := List.mem_flatten.mp hc
  exact a m hm c hc
theorem pr_of {l : List Nat} (h : (l.all fun c => decide (32 ≤ c) && decide (c ≤ 126)) = true) : Pr l := fun c hc => by
  have q := (List.all_eq_true.mp h) c hc
  simpa using q
theorem printable_all : ∀ c : _root_.Fin 127, 32 ≤ c.val → Unicode.isPrintable c.val = true := by decide +kernel
theorem isascii_S {l : List Nat} (h : Pr l) : Txt.isascii (S l) = true := by
  show (l.toArray.all fun c => decide (c < 128)) = true
  rw [← Array.all_toList, List.all_eq_true]
  intro c hc
  have := h c (by simpa using hc)
  exact decide_eq_true (by omega)
theorem isprintable_S {l : List Nat} (h : Pr l) : Txt.isprintable (S l) = true := by
  show (l.toArray.all Unicode.isPrintable) = true
  rw [← Array.all_toList, List.all_eq_true]
  intro c hc
  have q := h c (by simpa using hc)
  exact printable_all ⟨c, by omega⟩ q.1
theorem S_lit {s : Str} {l : List Nat} (h : s.cps.toList = l) : s = S l := by
  rw [← h]
theorem length_S (l : List Nat) : (S l).length = l.length := S_len l
theorem cps_S (l : List Nat) : (S l).cps.toList = l := by simp [S]
theorem cut_S (l : List Nat) (lo hi : Option Int) : cutS (S l) lo hi = S ((l.drop (HT.sIx l.length 0 lo)).take (HT.sIx l.length l.length hi - HT.sIx l.length 0 lo)) := by
  unfold cutS
  rw [length_S]
theorem sIx_pos {n d : Nat} {i : Int} (h : 0 ≤ i) : HT.sIx n d (some i) = min i.toNat n := by
  show (if i < 0 then (i + (n : Int)).toNat else min i.toNat n) = min i.toNat n
  rw [if_neg (by omega)]
/-- l[a:b] for counts -/
theorem cut_nn {l : List Nat} {a b : Nat} : cutS (S l) (some (a : Int)) (some (b : Int)) = S ((l.drop a).take (b - a)) := by
  rw [cut_S, sIx_pos (by omega), sIx_pos (by omega), Int.toNat_natCast, Int.toNat_natCast]
  congr 1
  rcases Nat.le_total a l.length with h | h
  · rw [Nat.min_eq_left h]
    rcases Nat.le_total b l.length with h2 | h2
    · rw [Nat.min_eq_left h2]
    · rw [Nat.min_eq_right h2, List.take_of_length_le (by rw [List.length_drop]; omega), List.take_of_length_le (by rw [List.length_drop]; omega)]
  · rw [Nat.min_eq_right h, List.drop_of_length_le (Nat.le_refl _), List.drop_of_length_le h]
    simp
theorem cut_n {l : List Nat} {b : Nat} : cutS (S l) none (some (b : Int)) = S (l.take b) := by
  rw [cut_S, sIx_pos (by omega), Int.toNat_natCast]
  show S ((l.drop 0).take (min b l.length - 0)) = S (l.take b)
  rw [List.drop_zero, Nat.sub_zero]
  rcases Nat.le_total b l.length with h | h
  · rw [Nat.min_eq_left h]
  · rw [Nat.min_eq_right h, List.take_of_length_le (Nat.le_refl _), List.take_of_length_le h]
theorem cut_from {l : List Nat} {a : Nat} : cutS (S l) (some (a : Int)) none = S (l.drop a) := by
  rw [cut_S, sIx_pos (by omega), Int.toNat_natCast]
  show S ((l.drop (min a l.length)).take (l.length - min a l.length)) = S (l.drop a)
  rcases Nat.le_total a l.length with h | h
  · rw [Nat.min_eq_left h, List.take_of_length_le (by rw [List.length_drop]; omega)]
  · rw [Nat.min_eq_right h, List.drop_of_length_le (Nat.le_refl _), List.drop_of_length_le h]
    simp
theorem rep_S (l : List Nat) (n : Int) : rep (S l) n = S (List.replicate n.toNat l).flatten := by
  unfold rep
  rw [cps_S]
theorem rep_one (c : Nat) (n : Nat) : (List.replicate n [c]).flatten = List.replicate n c := by
  induction n with
  | zero => rfl
  | succ n ih => rw [List.replicate_succ, List.flatten_cons, ih]; rfl
theorem joinL_nil (ls : List (List Nat)) : TL.joinL [] ls = ls.flatten := by
  induction ls with
  | nil => rfl
  | cons a r ih =>
    cases r with
    | nil => simp [TL.joinL]
    | cons b r => rw [TL.joinL, ih]; simp
theorem join_flat {e : Str} (he : e = S []) (ls : List (List Nat)) : Txt.join e (ls.map S) = S ls.flatten := by
  rw [he, join_S, joinL_nil]

/-! ### frames -/
def frL (l : List Nat) : List Nat := List.replicate (5 - (TL.numL l.length).length) 48 ++ TL.numL l.length ++ [58] ++ l ++ [59]
theorem numL5 {n : Nat} (h : n < 100000) : (TL.numL n).length ≤ 5 ∧ 1 ≤ (TL.numL n).length := by
  refine ⟨TL.numL_len (by decide) (by simpa using h), ?_⟩
  rcases Nat.eq_zero_or_pos (TL.numL n).length with e | e
  · exact absurd (List.length_eq_zero_iff.mp e) (TL.numL_ne n)
  · exact e
theorem frL_len {l : List Nat} (h : l.length < 100000) : (frL l).length = l.length + 7 := by
  obtain ⟨h1, h2⟩ := numL5 h
  unfold frL
  simp only [List.length_append, List.length_replicate, List.length_singleton]
  omega
theorem numL_pr (n : Nat) : Pr (TL.numL n) := fun c hc => by
  have := TL.numL_digits n c hc
  omega
theorem frL_pr {l : List Nat} (h : Pr l) : Pr (frL l) := by
  unfold frL
  refine pr_app (pr_app (pr_app (pr_app (fun c hc => ?_) (numL_pr _)) (pr_of (by decide))) h) (pr_of (by decide))
  rw [(List.mem_replicate.mp hc).2]
  omega
/-- str(n).zfill(5) -/
theorem zfill_S {n : Nat} (h : n < 100000) : Txt.zfill (S (TL.numL n)) 5 = S (List.replicate (5 - (TL.numL n).length) 48 ++ TL.numL n) := by
  obtain ⟨h1, h2⟩ := numL5 h
  unfold Txt.zfill
  rw [length_S]
  by_cases h5 : (TL.numL n).length = 5
  · rw [if_pos (by omega), h5]
    rfl
  · rw [if_neg (by omega)]
    have e : (5 : Int).toNat - (TL.numL n).length = 5 - (TL.numL n).length := rfl
    rw [e]
    obtain ⟨c, r, hc⟩ : ∃ c r, TL.numL n = c :: r := by
      cases q : TL.numL n with
      | nil => exact absurd q (TL.numL_ne n)
      | cons c r => exact ⟨c, r, rfl⟩
    have hd := TL.numL_digits n c (by rw [hc]; exact List.mem_cons_self)
    unfold zfilled
    have e0 : (S (TL.numL n)).cps[0]? = some c := by
      rw [hc]
      simp [S]
    rw [e0]
    have pad : Builtin.Str.padded (S (TL.numL n)) (5 - (TL.numL n).length) 0 48 = S (List.replicate (5 - (TL.numL n).length) 48 ++ TL.numL n) := by
      unfold Builtin.Str.padded
      simp [S]
    split
    · rename_i q; cases q; omega
    · rename_i q; cases q; omega
    · exact pad

/-! ### reading frames -/
def digs (l : List Nat) : Bool := l.all fun c => decide (48 ≤ c) && decide (c ≤ 57)
/-- the number of a head -/
def headN (h : List Nat) : Option Nat := if h.length < 6 ∨ h[5]? ≠ some 58 ∨ digs (h.take 5) = false then none else some (digitsVal (h.take 5))
/-- the end of the frame that begins at i -/
def fEnd (l : List Nat) (i : Nat) : Option Nat := match headN ((l.drop i).take 6) with
  | none => none
  | some n => if n ≤ 80000 ∧ (l.drop (i + 6 + n)).take 1 = [59] then some (i + 6 + n + 1) else none
theorem take1 {l : List Nat} {i c : Nat} (h : (l.drop i).take 1 = [c]) : i < l.length ∧ l[i]? = some c := by
  have hl : i < l.length := by
    rcases Nat.lt_or_ge i l.length with q | q
    · exact q
    · rw [List.drop_of_length_le q] at h
      cases h
  rw [List.drop_eq_getElem_cons hl] at h
  have h2 : [l[i]] = [c] := h
  refine ⟨hl, ?_⟩
  rw [List.getElem?_eq_getElem hl]
  cases h2
  rfl
theorem fEnd_bounds {l : List Nat} {i e : Nat} (h : fEnd l i = some e) : i + 7 ≤ e ∧ e ≤ l.length := by
  unfold fEnd at h
  split at h
  · cases h
  · split at h
    · rename_i q
      cases h
      obtain ⟨h1, _⟩ := take1 q.2
      omega
    · cases h
def scan : Nat → List Nat → Nat → List (List Nat) × Nat
  | 0, _, i => ([], i)
  | f + 1, l, i => match fEnd l i with
    | none => ([], i)
    | some e => ((l.drop (i + 6)).take (e - 1 - (i + 6)) :: (scan f l e).1, (scan f l e).2)
theorem scan_stable : ∀ (f f' : Nat) (l : List Nat) (i : Nat), l.length + 1 ≤ i + f → l.length + 1 ≤ i + f' → scan f l i = scan f' l i
  | 0, 0, _, _, _, _ => rfl
  | 0, f' + 1, l, i, h, _ => by
    unfold scan
    cases q : fEnd l i with
    | none => rfl
    | some e => have := fEnd_bounds q; omega
  | f + 1, 0, l, i, _, h => by
    unfold scan
    cases q : fEnd l i with
    | none => rfl
    | some e => have := fEnd_bounds q; omega
  | f + 1, f' + 1, l, i, h, h' => by
    unfold scan
    cases q : fEnd l i with
    | none => rfl
    | some e =>
      have := fEnd_bounds q
      simp only
      rw [scan_stable f f' l e (by omega) (by omega)]
/-- the frames from i on -/
def sc (l : List Nat) (i : Nat) : List (List Nat) × Nat := scan (l.length + 1) l i
theorem sc_none {l : List Nat} {i : Nat} (h : fEnd l i = none) : sc l i = ([], i) := by
  unfold sc scan
  rw [h]
theorem sc_some {l : List Nat} {i e : Nat} (h : fEnd l i = some e) : sc l i = ((l.drop (i + 6)).take (e - 1 - (i + 6)) :: (sc l e).1, (sc l e).2) := by
  have b := fEnd_bounds h
  have e1 : scan l.length l e = scan (l.length + 1) l e := scan_stable _ _ _ _ (by omega) (by omega)
  show scan (l.length + 1) l i = _
  rw [scan, h]
  simp only
  rw [e1]
  rfl
theorem sc_le : ∀ (f : Nat) (l : List Nat) (i : Nat), i ≤ l.length → i ≤ (scan f l i).2 ∧ (scan f l i).2 ≤ l.length ∧ (scan f l i).1.length * 7 + i ≤ (scan f l i).2
  | 0, l, i, h => ⟨Nat.le_refl _, h, by simp [scan]⟩
  | f + 1, l, i, h => by
    unfold scan
    cases q : fEnd l i with
    | none => exact ⟨Nat.le_refl _, h, by simp⟩
    | some e =>
      have b := fEnd_bounds q
      have r := sc_le f l e b.2
      refine ⟨by simp only; omega, r.2.1, ?_⟩
      simp only [List.length_cons]
      omega
theorem sc_bounds {l : List Nat} {i : Nat} (h : i ≤ l.length) : i ≤ (sc l i).2 ∧ (sc l i).2 ≤ l.length ∧ (sc l i).1.length * 7 + i ≤ (sc l i).2 := sc_le _ l i h
theorem digitsVal_lt : ∀ (l : List Nat), digs l = true → digitsVal l < 10 ^ l.length := by
  intro l
  have gen : ∀ (l : List Nat) (a k : Nat), digs l = true → a < 10 ^ k → l.foldl (fun acc c => acc * 10 + (c - 48)) a < 10 ^ (k + l.length) := by
    intro l
    induction l with
    | nil => intro a k _ h; exact h
    | cons c r ih =>
      intro a k hd h
      have hd' : (decide (48 ≤ c) && decide (c ≤ 57) && digs r) = true := hd
      simp only [Bool.and_eq_true, decide_eq_true_eq] at hd'
      rw [List.foldl_cons, List.length_cons]
      have q := ih (a * 10 + (c - 48)) (k + 1) hd'.2 (by rw [Nat.pow_succ]; omega)
      rw [show k + (r.length + 1) = k + 1 + r.length by omega]
      exact q
  intro h
  have q := gen l 0 0 h (by decide)
  simpa [digitsVal] using q
theorem intText_head {h : List Nat} (h5 : h.length = 5) (hd : digs h = true) : intText? (S h) = some ((digitsVal h : Nat) : Int) := int_S hd (fun e => by rw [e] at h5; cases h5) (by omega)

/-! ### texts as data -/
def strsV (ls : List (List Nat)) : List V := (ls.map S).map V.str
theorem strsV_len (ls : List (List Nat)) : (strsV ls).length = ls.length := by simp [strsV]
theorem strsV_app (ls : List (List Nat)) (l : List Nat) : strsV (ls ++ [l]) = strsV ls ++ [.str (S l)] := by simp [strsV]
theorem strsV_at {ls : List (List Nat)} {i : Nat} {x : V} (h : (strsV ls)[i]? = some x) : ∃ l, ls[i]? = some l ∧ x = .str (S l) ∧ l ∈ ls := by
  unfold strsV at h
  rw [List.getElem?_map, List.getElem?_map] at h
  cases e : ls[i]? with
  | none => rw [e] at h; cases h
  | some l =>
    rw [e] at h
    exact ⟨l, rfl, (Option.some.inj h).symm, List.mem_of_getElem? e⟩
def strsD (ls : List (List Nat)) : PyData := .list (ls.map fun l => .str (S l))
theorem dpAll_strs {K : PySem.W.Frag} {H : Hp} : ∀ ls : List (List Nat), DpAll K H (strsV ls) (ls.map fun l => .str (S l))
  | [] => .nil
  | l :: r => .cons (.str (S l)) (dpAll_strs r)
theorem dp_strs {K : PySem.W.Frag} {H : Hp} {a : Addr} {ls : List (List Nat)} (h : SqL K H a (strsV ls)) : Dp K H (.ref a) (strsD ls) := .lst h (dpAll_strs ls)
theorem strOk_S {l : List Nat} (h : Pr l) : PyData.strOk (S l) = true := by
  show (l.toArray.all fun c => decide (c < 0x110000)) = true
  rw [← Array.all_toList, List.all_eq_true]
  intro c hc
  have := h c (by simpa using hc)
  exact decide_eq_true (by omega)
theorem lay_strs : ∀ {ls : List (List Nat)}, (∀ l ∈ ls, Pr l) → PyData.canLayAll0 (ls.map fun l => .str (S l)) = true
  | [], _ => rfl
  | l :: r, h => by
    show (PyData.strOk (S l) && PyData.canLayAll0 (r.map fun l => .str (S l))) = true
    rw [strOk_S (h l List.mem_cons_self), lay_strs fun l hl => h l (List.mem_cons_of_mem _ hl)]
    rfl
theorem depth_strs : ∀ ls : List (List Nat), PyData.depthAll (ls.map fun l => .str (S l)) = 0
  | [] => rfl
  | l :: r => by
    show max 0 (PyData.depthAll (r.map fun l => .str (S l))) = 0
    rw [depth_strs r]
    rfl
theorem shaped_strs {ls : List (List Nat)} (h : ∀ l ∈ ls, Pr l) : SeqAt.shaped (strsD ls) = true := by
  show (PyData.canLayAll0 _ && decide (PyData.depthAll (ls.map fun l => .str (S l)) + 1 ≤ 64)) = true
  rw [lay_strs h, depth_strs]
  rfl
theorem shaped_pair {d : PyData} {i : Int} (h : SeqAt.shaped d = true) (hd : d.depth ≤ 10) : SeqAt.shaped (.tuple [d, .int i]) = true := by
  have h1 : (d.canLay0 && decide (d.depth ≤ 64)) = true := h
  rw [Bool.and_eq_true] at h1
  show ((d.canLay0 && true) && decide (max d.depth (max 0 0) + 1 ≤ 64)) = true
  rw [h1.1]
  simp
  omega
theorem depth_strsD (ls : List (List Nat)) : (strsD ls).depth = 1 := by
  show PyData.depthAll (ls.map fun l => .str (S l)) + 1 = 1
  rw [depth_strs]
theorem sc_pr {l : List Nat} (h : Pr l) : ∀ (f i : Nat), ∀ m ∈ (scan f l i).1, Pr m
  | 0, _, m, hm => by cases hm
  | f + 1, i, m, hm => by
    unfold scan at hm
    cases q : fEnd l i with
    | none => rw [q] at hm; cases hm
    | some e =>
      rw [q] at hm
      rcases List.mem_cons.mp hm with rfl | hm
      · exact pr_take _ (pr_drop _ h)
      · exact sc_pr h f e m hm
theorem eqv_self {d : PyData} (h : SeqAt.shaped d = true) : PyData.eqv d d = true := SeqAt.eqv_refl d (SeqAt.canLay_of_shaped h)
theorem eqv_nil (ds : List PyData) : PyData.eqv (.list ds) (.list []) = ds.isEmpty := by
  rw [PyData.eqv]
  cases ds <;> rfl
def isdig (c : Nat) : Bool := decide (48 ≤ c) && decide (c ≤ 57)
theorem digits_list : ("0123456789" : Str).cps.toList = [48, 49, 50, 51, 52, 53, 54, 55, 56, 57] := by decide +kernel
theorem dig_in (c : Nat) : decide (c ∈ ("0123456789" : Str).cps.toList) = isdig c := by
  rw [digits_list]
  unfold isdig
  rw [Bool.eq_iff_iff]
  simp only [decide_eq_true_eq, Bool.and_eq_true, List.mem_cons, List.not_mem_nil, or_false]
  omega
theorem digs_all (l : List Nat) : digs l = (l.map isdig).all id := by
  unfold digs
  rw [List.all_map]
  rfl
theorem signs_strs (cs : List Nat) : cs.map signV = strsV (cs.map fun c => [c]) := by
  unfold strsV
  rw [List.map_map, List.map_map]
  rfl
theorem pr_one {c : Nat} (h : 32 ≤ c ∧ c ≤ 126) : Pr [c] := pr_cons h pr_nil
theorem digs_filter : ∀ l : List Nat, digs l = (l.filter fun c => !isdig c).isEmpty
  | [] => rfl
  | c :: r => by
    show (isdig c && digs r) = _
    rw [digs_filter r, List.filter_cons]
    cases isdig c <;> rfl
end M9

/-! M11: what is read in a beginning of frames. -/
namespace M9
open PySem PySem.Spec PyProof.Rows L2 Z SX PySem.NumText

theorem digitsVal_zeros (k : Nat) (l : List Nat) : digitsVal (List.replicate k 48 ++ l) = digitsVal l := by
  unfold digitsVal
  rw [List.foldl_append]
  congr 1
  induction k with
  | zero => rfl
  | succ k ih => rw [List.replicate_succ, List.foldl_cons]; exact ih
def figs (n : Nat) : List Nat := List.replicate (5 - (TL.numL n).length) 48 ++ TL.numL n
theorem figs_len {n : Nat} (h : n < 100000) : (figs n).length = 5 := by
  obtain ⟨h1, h2⟩ := numL5 h
  unfold figs
  rw [List.length_append, List.length_replicate]
  omega
theorem figs_val (n : Nat) : digitsVal (figs n) = n := by
  unfold figs
  rw [digitsVal_zeros, TL.numL_val]
theorem figs_digs (n : Nat) : digs (figs n) = true := by
  unfold digs figs
  rw [List.all_eq_true]
  intro c hc
  rcases List.mem_append.mp hc with q | q
  · rw [(List.mem_replicate.mp q).2]
    rfl
  · have := TL.numL_digits n c q
    simpa using this
theorem frL_eq (m : List Nat) : frL m = figs m.length ++ (58 :: (m ++ [59])) := by
  unfold frL figs
  simp [List.append_assoc]
theorem head_fr {m rest : List Nat} (h : m.length ≤ 80000) : headN ((frL m ++ rest).take 6) = some m.length := by
  have h5 := figs_len (n := m.length) (by omega)
  have e : (frL m ++ rest).take 6 = figs m.length ++ [58] := by
    rw [frL_eq, List.append_assoc, List.take_append, h5, List.take_of_length_le (by omega)]
    rfl
  rw [e]
  unfold headN
  rw [if_neg, List.take_append_of_le_length (by omega), List.take_of_length_le (by omega), figs_val]
  rintro (z | z | z)
  · rw [List.length_append, h5] at z
    exact absurd z (by decide)
  · rw [List.getElem?_append_right (by omega), h5] at z
    exact z rfl
  · rw [List.take_append_of_le_length (by omega), List.take_of_length_le (by omega), figs_digs] at z
    cases z
theorem drop_fr {m rest : List Nat} (h : m.length ≤ 80000) : (frL m ++ rest).drop (6 + m.length) = 59 :: rest := by
  have h5 := figs_len (n := m.length) (by omega)
  rw [frL_eq]
  have e : figs m.length ++ (58 :: (m ++ [59])) ++ rest = (figs m.length ++ (58 :: m)) ++ (59 :: rest) := by simp [List.append_assoc]
  rw [e, List.drop_append_of_le_length (by rw [List.length_append, List.length_cons, h5]; omega), List.drop_of_length_le (by rw [List.length_append, List.length_cons, h5]; omega)]
  rfl
theorem body_fr {m rest : List Nat} (h : m.length ≤ 80000) : ((frL m ++ rest).drop 6).take m.length = m := by
  have h5 := figs_len (n := m.length) (by omega)
  rw [frL_eq]
  have e : figs m.length ++ (58 :: (m ++ [59])) ++ rest = (figs m.length ++ [58]) ++ (m ++ (59 :: rest)) := by simp [List.append_assoc]
  rw [e, List.drop_append_of_le_length (by rw [List.length_append, h5]; decide), List.drop_of_length_le (by rw [List.length_append, h5]; decide), List.nil_append, List.take_append_of_le_length (Nat.le_refl _), List.take_length]
theorem fEnd_fr {l m rest : List Nat} {i : Nat} (h : m.length ≤ 80000) (e : l.drop i = frL m ++ rest) : fEnd l i = some (i + m.length + 7) := by
  unfold fEnd
  rw [e, head_fr h]
  simp only
  have d : l.drop (i + 6 + m.length) = 59 :: rest := by
    rw [Nat.add_assoc, ← List.drop_drop, e, drop_fr h]
  rw [d, if_pos ⟨h, rfl⟩]
  congr 1
  omega
theorem fEnd_cut {l m rest : List Nat} {i k : Nat} (h : m.length ≤ 80000) (hk : k < m.length + 7) (e : l.drop i = (frL m ++ rest).take k) : fEnd l i = none := by
  unfold fEnd
  rw [e, List.take_take]
  rcases Nat.lt_or_ge k 6 with q | q
  · have hn : headN ((frL m ++ rest).take (min 6 k)) = none := by
      unfold headN
      rw [if_pos]
      refine .inl ?_
      rw [List.length_take]
      omega
    rw [hn]
  · rw [Nat.min_eq_left q, head_fr h]
    simp only
    have d : l.drop (i + 6 + m.length) = [] := by
      rw [Nat.add_assoc, ← List.drop_drop, e]
      refine List.drop_of_length_le ?_
      rw [List.length_take]
      omega
    rw [d, if_neg]
    rintro ⟨_, z⟩
    cases z
theorem fEnd_nil {l : List Nat} {i : Nat} (e : l.drop i = []) : fEnd l i = none := by
  unfold fEnd
  rw [e]
  rfl
/-- how many frames are whole among the first k signs -/
def cnt : List (List Nat) → Nat → Nat
  | [], _ => 0
  | m :: r, k => if m.length + 7 ≤ k then 1 + cnt r (k - (m.length + 7)) else 0
theorem cnt_le : ∀ (ls : List (List Nat)) (k : Nat), cnt ls k ≤ ls.length
  | [], _ => Nat.le_refl 0
  | m :: r, k => by
    unfold cnt
    have := cnt_le r (k - (m.length + 7))
    rw [List.length_cons]
    split <;> omega
def fl (ls : List (List Nat)) : List Nat := (ls.map frL).flatten
theorem fl_cons (m : List Nat) (r : List (List Nat)) : fl (m :: r) = frL m ++ fl r := by simp [fl]
theorem fl_app (a b : List (List Nat)) : fl (a ++ b) = fl a ++ fl b := by simp [fl]
theorem sc_cut : ∀ (ls : List (List Nat)) (l : List Nat) (i k : Nat), (∀ m ∈ ls, m.length ≤ 80000) → l.drop i = (fl ls).take k → sc l i = (ls.take (cnt ls k), i + (fl (ls.take (cnt ls k))).length)
  | [], l, i, k, _, e => by
    have e' : l.drop i = [] := by rw [e]; simp [fl]
    rw [sc_none (fEnd_nil e')]
    simp [fl]
  | m :: r, l, i, k, h, e => by
    have hm := h m List.mem_cons_self
    have lm := frL_len (l := m) (by omega)
    rw [fl_cons] at e
    unfold cnt
    by_cases hk : m.length + 7 ≤ k
    · rw [if_pos hk]
      have e1 : l.drop i = frL m ++ (fl r).take (k - (m.length + 7)) := by
        rw [e, List.take_append, lm, List.take_of_length_le (by omega)]
      have e2 : l.drop (i + m.length + 7) = (fl r).take (k - (m.length + 7)) := by
        rw [Nat.add_assoc, ← List.drop_drop, e1, List.drop_append_of_le_length (by omega), List.drop_of_length_le (by omega), List.nil_append]
      have ih := sc_cut r l (i + m.length + 7) (k - (m.length + 7)) (fun x hx => h x (List.mem_cons_of_mem _ hx)) e2
      rw [sc_some (fEnd_fr hm e1), ih]
      have e3 : (l.drop (i + 6)).take (i + m.length + 7 - 1 - (i + 6)) = m := by
        rw [← List.drop_drop, e1, show i + m.length + 7 - 1 - (i + 6) = m.length by omega, body_fr hm]
      rw [e3, Nat.add_comm 1, List.take_succ_cons, fl_cons, List.length_append, lm]
      simp only [Prod.mk.injEq, true_and]
      omega
    · rw [if_neg hk, sc_none (fEnd_cut hm (by omega) e)]
      simp [fl]
theorem cnt_full : ∀ (ls : List (List Nat)) (k : Nat), (∀ m ∈ ls, m.length ≤ 80000) → (fl ls).length ≤ k → cnt ls k = ls.length
  | [], _, _, _ => rfl
  | m :: r, k, h, hk => by
    have lm := frL_len (l := m) (by have := h m List.mem_cons_self; omega)
    rw [fl_cons, List.length_append, lm] at hk
    unfold cnt
    rw [if_pos (by omega), cnt_full r _ (fun x hx => h x (List.mem_cons_of_mem _ hx)) (by omega), List.length_cons]
    omega
/-- one sign less: the last one is lost -/
theorem cnt_last : ∀ (ls : List (List Nat)), (∀ m ∈ ls, m.length ≤ 80000) → cnt ls ((fl ls).length - 1) = ls.length - 1
  | [], _ => rfl
  | [m], h => by
    have lm := frL_len (l := m) (by have := h m List.mem_cons_self; omega)
    unfold cnt
    rw [fl_cons, List.length_append, lm, show (fl []).length = 0 from rfl, if_neg (by omega)]
    rfl
  | m :: n :: r, h => by
    have lm := frL_len (l := m) (by have := h m List.mem_cons_self; omega)
    have ln := frL_len (l := n) (by have := h n (List.mem_cons_of_mem _ List.mem_cons_self); omega)
    have ih := cnt_last (n :: r) fun x hx => h x (List.mem_cons_of_mem _ hx)
    have l2 : (fl (n :: r)).length = n.length + 7 + (fl r).length := by rw [fl_cons, List.length_append, ln]
    rw [cnt, fl_cons, List.length_append, lm, if_pos (by omega), show m.length + 7 + (fl (n :: r)).length - 1 - (m.length + 7) = (fl (n :: r)).length - 1 by omega, ih]
    simp only [List.length_cons]
    omega
theorem fl_take {ls : List (List Nat)} (j : Nat) : (fl ls).take (fl (ls.take j)).length = fl (ls.take j) := by
  have e : fl ls = fl (ls.take j) ++ fl (ls.drop j) := by rw [← fl_app, List.take_append_drop]
  rw [e, List.take_append_of_le_length (Nat.le_refl _), List.take_length]
theorem fl_rep (n : Nat) (m : List Nat) : fl (List.replicate n m) = (List.replicate n (frL m)).flatten := by
  unfold fl
  rw [List.map_replicate]
theorem cnt_rep (n : Nat) (m : List Nat) : ∀ k, cnt (List.replicate n m) k = min n (k / (m.length + 7)) := by
  induction n with
  | zero => intro k; simp [cnt]
  | succ n ih =>
    intro k
    rw [List.replicate_succ, cnt]
    by_cases hk : m.length + 7 ≤ k
    · rw [if_pos hk, ih]
      have : k / (m.length + 7) = (k - (m.length + 7)) / (m.length + 7) + 1 := by
        rw [Nat.div_eq, if_pos ⟨by omega, hk⟩]
      omega
    · rw [if_neg hk, Nat.div_eq_of_lt (by omega)]
      simp
/-- the ends of frames -/
def endsL : Nat → List (List Nat) → List Nat
  | _, [] => []
  | a, m :: r => (a + m.length + 7) :: endsL (a + m.length + 7) r
theorem endsL_len : ∀ (a : Nat) (ls : List (List Nat)), (endsL a ls).length = ls.length
  | _, [] => rfl
  | a, m :: r => by rw [endsL, List.length_cons, endsL_len, List.length_cons]
theorem endsL_ge : ∀ (a : Nat) (ls : List (List Nat)), ∀ e ∈ endsL a ls, a + 7 ≤ e
  | _, [], e, h => by cases h
  | a, m :: r, e, h => by
    rcases List.mem_cons.mp h with rfl | h
    · omega
    · have := endsL_ge (a + m.length + 7) r e h
      omega
theorem endsL_cnt : ∀ (ls : List (List Nat)) (a k : Nat), ((endsL a ls).filter fun e => decide (e ≤ a + k)).length = cnt ls k
  | [], _, _ => rfl
  | m :: r, a, k => by
    rw [endsL, cnt, List.filter_cons]
    by_cases hk : m.length + 7 ≤ k
    · rw [if_pos (decide_eq_true (by omega)), if_pos hk, List.length_cons, ← endsL_cnt r (a + m.length + 7) (k - (m.length + 7))]
      have : a + m.length + 7 + (k - (m.length + 7)) = a + k := by omega
      rw [this]
      omega
    · rw [if_neg (by simpa using (by omega : ¬ a + m.length + 7 ≤ a + k)), if_neg hk]
      have : (endsL (a + m.length + 7) r).filter (fun e => decide (e ≤ a + k)) = [] := by
        rw [List.filter_eq_nil_iff]
        intro e he
        have := endsL_ge _ _ e he
        simp only [decide_eq_true_eq]
        omega
      rw [this]
      rfl
theorem endsL_app : ∀ (a : Nat) (ls : List (List Nat)) (m : List Nat), (∀ x ∈ ls, x.length ≤ 80000) → endsL a (ls ++ [m]) = endsL a ls ++ [a + (fl ls).length + m.length + 7]
  | a, [], m, _ => by simp [endsL, fl]
  | a, x :: r, m, h => by
    have lx := frL_len (l := x) (by have := h x List.mem_cons_self; omega)
    rw [List.cons_append, endsL, endsL_app (a + x.length + 7) r m fun y hy => h y (List.mem_cons_of_mem _ hy), endsL, fl_cons, List.length_append, lx, List.cons_append]
    congr 3
    omega
theorem endsL_at : ∀ (ls : List (List Nat)) (a j : Nat), (∀ x ∈ ls, x.length ≤ 80000) → j < ls.length → (endsL a ls)[j]? = some (a + (fl (ls.take (j + 1))).length)
  | m :: r, a, 0, h, _ => by
    have lm := frL_len (l := m) (by have := h m List.mem_cons_self; omega)
    rw [endsL, List.take_succ_cons, fl_cons, List.length_append, lm]
    simp [fl]
    omega
  | m :: r, a, j + 1, h, hj => by
    have lm := frL_len (l := m) (by have := h m List.mem_cons_self; omega)
    rw [endsL, List.getElem?_cons_succ, endsL_at r (a + m.length + 7) j (fun y hy => h y (List.mem_cons_of_mem _ hy)) (by simpa using hj), List.take_succ_cons, fl_cons, List.length_append, lm]
    congr 1
    omega
end M9

/-! M3: items and tokens judged as data. -/
namespace M3
open PySem PySem.Spec PyProof.Rows L2 Z SX M9

def asciiS (x : Str) : Bool := x.cps.toList.all fun c => decide (c < 128)
/-- a text of ASCII signs, or no text; a tuple of such -/
def asc1 : PyData → Bool
  | .str x => asciiS x && decide (x.length ≤ 100000)
  | _ => true
def asc : PyData → Bool
  | .str x => asc1 (.str x)
  | .tuple ds => ds.all asc1
  | _ => true
def intD : PyData → Bool
  | .int _ => true
  | _ => false
def within (d : PyData) (a b : Int) : Bool := match d with
  | .int i => decide (a ≤ i) && decide (i ≤ b)
  | _ => false
def prS (x : Str) : Bool := x.cps.toList.all fun c => decide (32 ≤ c) && decide (c ≤ 126)
def lowS (x : Str) : Bool := x.cps.toList.all fun c => decide (97 ≤ c) && decide (c ≤ 122)
def signsD : PyData → Bool
  | .str x => prS x
  | _ => false
def plainD (n : Nat) : PyData → Bool
  | .str x => prS x && decide (x.length ≤ n)
  | _ => false
def nameD : PyData → Bool
  | .str x => decide (1 ≤ x.length) && decide (x.length ≤ 8) && lowS x
  | _ => false
def tokenD : PyData → Bool
  | .tuple [a, b] => within a 1 999999999999 && within b 1 999999999999
  | _ => false
def itemD : PyData → Bool
  | .tuple [a, b, c, d, e, f] => nameD a && nameD b && plainD 40 c && within d 0 3 && within e 0 50 && within f 0 50
  | _ => false
def kindD : PyData → String
  | .none => "NoneType"
  | .bool _ => "bool"
  | .int _ => "int"
  | .str _ => "str"
  | .list _ => "list"
  | .tuple _ => "tuple"
  | .dict _ => "dict"
theorem Dz.kind {g : Bool} {K : PySem.W.Frag} {H : Hp} {v : V} {d : PyData} (h : Dz g H v d) : KindV K H v (kindD d) := by
  cases h with
  | non => rfl
  | bl b => rfl
  | int i => rfl
  | str x => rfl
  | lst h _ _ => exact .inl ⟨rfl, _, SqL.of h⟩
  | tup h _ => exact .inr (.inl ⟨rfl, _, SqT.of h⟩)
  | dic h _ => exact .inr (.inr ⟨rfl, .inl ⟨_, h⟩⟩)
theorem print_ascii : ∀ c : _root_.Fin 128, Unicode.isPrintable c.val = (decide (32 ≤ c.val) && decide (c.val ≤ 126)) := by decide +kernel
theorem alpha_ascii : ∀ c : _root_.Fin 128, Unicode.isAlpha c.val = ((decide (65 ≤ c.val) && decide (c.val ≤ 90)) || (decide (97 ≤ c.val) && decide (c.val ≤ 122))) := by decide +kernel
theorem lower_ascii : ∀ c : _root_.Fin 128, Unicode.isLower c.val = (decide (97 ≤ c.val) && decide (c.val ≤ 122)) := by decide +kernel
theorem upper_ascii : ∀ c : _root_.Fin 128, (Unicode.isUpper c.val || Unicode.isTitle c.val) = (decide (65 ≤ c.val) && decide (c.val ≤ 90)) := by decide +kernel
theorem all_eq {p q : Nat → Bool} : ∀ {l : List Nat}, (∀ c ∈ l, p c = q c) → l.all p = l.all q
  | [], _ => rfl
  | a :: r, h => by
    rw [List.all_cons, List.all_cons, h a List.mem_cons_self, all_eq fun c hc => h c (List.mem_cons_of_mem _ hc)]
theorem any_eq {p q : Nat → Bool} : ∀ {l : List Nat}, (∀ c ∈ l, p c = q c) → l.any p = l.any q
  | [], _ => rfl
  | a :: r, h => by
    rw [List.any_cons, List.any_cons, h a List.mem_cons_self, any_eq fun c hc => h c (List.mem_cons_of_mem _ hc)]
theorem lt_of_ascii {x : Str} (h : asciiS x = true) {c : Nat} (hc : c ∈ x.cps.toList) : c < 128 := by
  simpa using (List.all_eq_true.mp h) c hc
theorem isascii_D {x : Str} (h : asciiS x = true) : Txt.isascii x = true := by
  show (x.cps.all fun c => decide (c < 128)) = true
  rw [← Array.all_toList]
  exact h
theorem isprintable_D {x : Str} (h : asciiS x = true) : Txt.isprintable x = prS x := by
  show (x.cps.all Unicode.isPrintable) = _
  rw [← Array.all_toList]
  exact all_eq fun c hc => print_ascii ⟨c, lt_of_ascii h hc⟩
theorem isalpha_D {x : Str} (h : asciiS x = true) : Txt.isalpha x = (decide (x.length > 0) && x.cps.toList.all fun c => (decide (65 ≤ c) && decide (c ≤ 90)) || (decide (97 ≤ c) && decide (c ≤ 122))) := by
  show (decide (x.length > 0) && x.cps.all Unicode.isAlpha) = _
  rw [← Array.all_toList]
  congr 1
  exact all_eq fun c hc => alpha_ascii ⟨c, lt_of_ascii h hc⟩
theorem islower_D {x : Str} (h : asciiS x = true) : Txt.islower x = ((x.cps.toList.any fun c => decide (97 ≤ c) && decide (c ≤ 122)) && !(x.cps.toList.any fun c => decide (65 ≤ c) && decide (c ≤ 90))) := by
  show (x.cps.any Unicode.isLower && !x.cps.any fun c => Unicode.isUpper c || Unicode.isTitle c) = _
  rw [← Array.any_toList, ← Array.any_toList]
  congr 1
  · exact any_eq fun c hc => lower_ascii ⟨c, lt_of_ascii h hc⟩
  · congr 1
    exact any_eq fun c hc => upper_ascii ⟨c, lt_of_ascii h hc⟩
/-- the program's test of a name is the law's -/
theorem name_law {x : Str} (h : asciiS x = true) : (prS x && (decide (x.length ≤ 8) && (Txt.isalpha x && Txt.islower x))) = nameD (.str x) := by
  have hl : x.length = x.cps.toList.length := by rw [Array.length_toList]; rfl
  rw [isalpha_D h, islower_D h]
  unfold nameD
  rw [Bool.eq_iff_iff]
  constructor
  · intro e
    simp only [Bool.and_eq_true, decide_eq_true_eq, List.all_eq_true, Bool.or_eq_true, List.any_eq_true, Bool.not_eq_true', List.any_eq_false, lowS, prS] at e ⊢
    obtain ⟨_, h8, ⟨h1, ha⟩, _, hu⟩ := e
    refine ⟨⟨h1, h8⟩, fun c hc => ?_⟩
    rcases ha c hc with z | z
    · exact absurd z (hu c hc)
    · exact z
  · intro e
    simp only [Bool.and_eq_true, decide_eq_true_eq, List.all_eq_true, Bool.or_eq_true, List.any_eq_true, Bool.not_eq_true', List.any_eq_false, lowS, prS] at e ⊢
    obtain ⟨⟨h1, h8⟩, ha⟩ := e
    refine ⟨fun c hc => by have := ha c hc; omega, h8, ⟨h1, fun c hc => .inr (ha c hc)⟩, ?_, fun c hc => by have := ha c hc; omega⟩
    cases e : x.cps.toList with
    | nil => rw [hl, e] at h1; exact absurd h1 (by decide)
    | cons c r => exact ⟨c, List.mem_cons_self, ha c (by rw [e]; exact List.mem_cons_self)⟩
/-- what a filtered text leaves is nothing, if all its signs are good -/
theorem filter_none {p : Nat → Bool} (l : List Nat) : (l.filter fun c => !p c).isEmpty = l.all p := by
  induction l with
  | nil => rfl
  | cons a r ih =>
    rw [List.filter_cons, List.all_cons]
    cases e : p a with
    | true => simpa using ih
    | false => rfl
theorem letters_list : ("abcdefghijklmnopqrstuvwxyz" : Str).cps.toList = [97, 98, 99, 100, 101, 102, 103, 104, 105, 106, 107, 108, 109, 110, 111, 112, 113, 114, 115, 116, 117, 118, 119, 120, 121, 122] := by decide +kernel
def low (c : Nat) : Bool := decide (97 ≤ c) && decide (c ≤ 122)
def prt (c : Nat) : Bool := decide (32 ≤ c) && decide (c ≤ 126)
theorem low_in (c : Nat) : decide (c ∈ ("abcdefghijklmnopqrstuvwxyz" : Str).cps.toList) = low c := by
  rw [letters_list]
  unfold low
  rw [Bool.eq_iff_iff]
  simp only [decide_eq_true_eq, Bool.and_eq_true, List.mem_cons, List.not_mem_nil, or_false]
  omega
theorem one_lt {a b : Nat} : ([a] : List Nat) < [b] ↔ a < b := by
  rw [List.cons_lt_cons_iff]
  constructor
  · rintro (h | ⟨_, h⟩)
    · exact h
    · exact absurd h (by simp)
  · exact .inl
theorem lt_sp {c : Nat} : (⟨#[c]⟩ : Str).cps.toList < (" " : Str).cps.toList ↔ c < 32 := by
  rw [show (" " : Str).cps.toList = [32] by decide +kernel, show (⟨#[c]⟩ : Str).cps.toList = [c] from rfl]
  exact one_lt
theorem gt_tl {c : Nat} : ("~" : Str).cps.toList < (⟨#[c]⟩ : Str).cps.toList ↔ 126 < c := by
  rw [show ("~" : Str).cps.toList = [126] by decide +kernel, show (⟨#[c]⟩ : Str).cps.toList = [c] from rfl]
  exact one_lt
def signsD2 (l : List Nat) : PyData := .list (l.map fun c => .str (S [c]))
theorem signs_none {x : Str} {p : Nat → Bool} : (x.cps.toList.filter fun c => !p c).isEmpty = x.cps.toList.all p := filter_none _
theorem shaped_asc {cs : List Nat} (h : ∀ c ∈ cs, c < 128) : SeqAt.shaped (strsD (cs.map fun c => [c])) = true := by
  have lay : ∀ cs : List Nat, (∀ c ∈ cs, c < 128) → PyData.canLayAll0 ((cs.map fun c => [c]).map fun l => .str (S l)) = true := by
    intro cs
    induction cs with
    | nil => intro _; rfl
    | cons c r ih =>
      intro h
      have hc := h c List.mem_cons_self
      show (PyData.strOk (S [c]) && PyData.canLayAll0 ((r.map fun c => [c]).map fun l => .str (S l))) = true
      rw [ih fun x hx => h x (List.mem_cons_of_mem _ hx), Bool.and_true]
      show ([c].toArray.all fun c => decide (c < 0x110000)) = true
      rw [← Array.all_toList, List.all_eq_true]
      intro x hx
      have : x = c := by simpa using hx
      rw [this]
      exact decide_eq_true (by omega)
  show (PyData.canLayAll0 _ && decide (PyData.depthAll ((cs.map fun c => [c]).map fun l => .str (S l)) + 1 ≤ 64)) = true
  rw [lay cs h, depth_strs]
  rfl
theorem eqv_strs_nil (cs : List Nat) : PyData.eqv (strsD (cs.map fun c => [c])) (strsD []) = cs.isEmpty := by
  unfold strsD
  rw [List.map_nil, eqv_nil]
  cases cs <;> rfl
theorem filter_step {l : List Nat} {p : Nat → Bool} {i c : Nat} (hc : l[i]? = some c) : (l.take (i + 1)).filter (fun c => !p c) = (l.take i).filter (fun c => !p c) ++ (if p c then [] else [c]) := by
  rw [List.take_add_one, hc, List.filter_append]
  cases e : p c <;> simp [e]
/-! ### how long what is shown is -/
theorem piled_shown : ∀ ds : List PyData, piled (PyData.shownAll ds) = (ds.map fun d => d.shown.length + 2).sum
  | [] => rfl
  | d :: r => by
    rw [PyData.shownAll, piled_cons, piled_shown r, List.map_cons, List.sum_cons]
theorem len_tuple (ds : List PyData) : (PyData.tuple ds).shown.length ≤ 4 + (ds.map fun d => d.shown.length + 2).sum := by
  have e : (PyData.tuple ds).shown = tupleText (PyData.shownAll ds) := by rw [PyData.shown]
  rw [e, ← piled_shown]
  unfold tupleText
  rw [strLen_append, strLen_append]
  have h2 : (Str.ofString (if (PyData.shownAll ds).length == 1 then ",)" else ")")).length ≤ 2 := by split <;> decide
  have h1 : ("(" : Str).length = 1 := rfl
  by_cases hn : PyData.shownAll ds = []
  · rw [hn]
    decide
  · have := join_length_add _ hn
    omega
theorem len_from : ∀ (ts : List Str) (k : Nat) (acc : Str), (textFrom k acc ts).length ≤ acc.length + piled ts
  | [], k, acc => Nat.le_add_right _ _
  | t :: r, k, acc => by
    have ih := len_from r (k + 1) (acc ++ (if k > 0 then ", " else "" : String) ++ t)
    have e : (acc ++ (if k > 0 then ", " else "" : String) ++ t).length = acc.length + (if k > 0 then 2 else 0) + t.length := by
      rw [strLen_append, strLen_append]
      split <;> rfl
    rw [piled_cons]
    show (textFrom (k + 1) (acc ++ (if k > 0 then ", " else "" : String) ++ t) r).length ≤ _
    rw [e] at ih
    have hb : (if k > 0 then 2 else 0) ≤ 2 := by split <;> omega
    omega
theorem len_list (ds : List PyData) : (PyData.list ds).shown.length ≤ 4 + (ds.map fun d => d.shown.length + 2).sum := by
  have e : (PyData.list ds).shown = listText (PyData.shownAll ds) := by rw [PyData.shown]
  rw [e, ← piled_shown]
  unfold listText
  rw [strLen_append]
  have := len_from (PyData.shownAll ds) 0 "["
  have h1 : ("[" : Str).length = 1 := rfl
  have h2 : ("]" : Str).length = 1 := rfl
  omega
mutual
/-- no list in it is as long as a box -/
def nobox : PyData → Bool
  | .none | .bool _ | .int _ | .str _ => true
  | .list ds => (ds.length != 4) && noboxAll ds
  | .tuple ds => noboxAll ds
  | .dict kvs => noboxKv kvs
def noboxAll : List PyData → Bool
  | [] => true
  | d :: r => nobox d && noboxAll r
def noboxKv : List (PyData × PyData) → Bool
  | [] => true
  | (_, d) :: r => nobox d && noboxKv r
end
theorem DzAll.len {g : Bool} {H : Hp} : ∀ {xs : List V} {ds : List PyData}, DzAll g H xs ds → xs.length = ds.length
  | _, _, .nil => rfl
  | _, _, .cons _ t => by rw [List.length_cons, List.length_cons, DzAll.len t]
theorem DzAll.take {g : Bool} {H : Hp} : ∀ {xs : List V} {ds : List PyData} (n : Nat), DzAll g H xs ds → DzAll g H (xs.take n) (ds.take n)
  | _, _, 0, _ => by rw [List.take_zero, List.take_zero]; exact .nil
  | _, _, n + 1, .nil => .nil
  | _, _, n + 1, .cons h t => .cons h (DzAll.take n t)
theorem DzAll.drop {g : Bool} {H : Hp} : ∀ {xs : List V} {ds : List PyData} (n : Nat), DzAll g H xs ds → DzAll g H (xs.drop n) (ds.drop n)
  | _, _, 0, h => h
  | _, _, n + 1, .nil => .nil
  | _, _, n + 1, .cons h t => DzAll.drop n t
theorem DzAll.app {g : Bool} {H : Hp} : ∀ {xs ys : List V} {ds es : List PyData}, DzAll g H xs ds → DzAll g H ys es → DzAll g H (xs ++ ys) (ds ++ es)
  | _, _, _, _, .nil, h => h
  | _, _, _, _, .cons h t, h2 => .cons h (DzAll.app t h2)
theorem not4 {ds : List PyData} (h : (ds.length != 4) = true) : ds.length ≠ 4 := by simpa using h
mutual
/-- b is a list of four: what has none is kept where all but b is kept -/
theorem Dz.but {g : Bool} {H H2 : Hp} {b : Addr} {bs : List V} (hb : H b = some (.lst bs)) (h4 : bs.length = 4) (t : But b H H2) : ∀ {v : V} {d : PyData}, Dz g H v d → nobox d = true → Dz g H2 v d
  | _, _, .non, _ => .non
  | _, _, .bl b, _ => .bl b
  | _, _, .int i, _ => .int i
  | _, _, .str x, _ => .str x
  | _, _, .lst (ds := ds) h n a, k => by
    have k : ((ds.length != 4) && noboxAll ds) = true := k
    rw [Bool.and_eq_true] at k
    refine .lst (t _ _ (fun z => ?_) h) n (DzAll.but hb h4 t a k.2)
    rw [z, hb] at h
    have := DzAll.len a
    cases h
    exact not4 k.1 (by omega)
  | _, _, .tup h a, k => .tup (t _ _ (fun z => by rw [z, hb] at h; cases h) h) (DzAll.but hb h4 t a k)
  | _, _, .dic h a, k => .dic (t _ _ (fun z => by rw [z, hb] at h; cases h) h) (DzKv.but hb h4 t a k)
theorem DzAll.but {g : Bool} {H H2 : Hp} {b : Addr} {bs : List V} (hb : H b = some (.lst bs)) (h4 : bs.length = 4) (t : But b H H2) : ∀ {vs : List V} {ds : List PyData}, DzAll g H vs ds → noboxAll ds = true → DzAll g H2 vs ds
  | _, _, .nil, _ => .nil
  | _, _, .cons h r, k => by
    have k := Bool.and_eq_true _ _ ▸ k
    exact .cons (Dz.but hb h4 t h k.1) (DzAll.but hb h4 t r k.2)
theorem DzKv.but {g : Bool} {H H2 : Hp} {b : Addr} {bs : List V} (hb : H b = some (.lst bs)) (h4 : bs.length = 4) (t : But b H H2) : ∀ {kvs : List (Key × V)} {D : List (PyData × PyData)}, DzKv g H kvs D → noboxKv D = true → DzKv g H2 kvs D
  | _, _, .nil, _ => .nil
  | _, _, .cons h r, k => by
    have k := Bool.and_eq_true _ _ ▸ k
    exact .cons (Dz.but hb h4 t h k.1) (DzKv.but hb h4 t r k.2)
end
def oddOk (d : PyData) : Bool := asc1 d && d.showable && decide (d.depth ≤ 3) && decide (d.shown.length ≤ 2000) && nobox d
theorem oddOk_of {d : PyData} (h : oddOk d = true) : asc1 d = true ∧ d.showable = true ∧ d.depth ≤ 3 ∧ d.shown.length ≤ 2000 := by
  unfold oddOk at h
  simp only [Bool.and_eq_true, decide_eq_true_eq] at h
  exact ⟨h.1.1.1.1, h.1.1.1.2, h.1.1.2, h.1.2⟩
theorem odd_nobox {d : PyData} (h : oddOk d = true) : nobox d = true := by
  unfold oddOk at h
  rw [Bool.and_eq_true] at h
  exact h.2
theorem odd_noboxAll : ∀ {ds : List PyData}, (∀ d ∈ ds, oddOk d = true) → noboxAll ds = true
  | [], _ => rfl
  | d :: r, h => by
    show (nobox d && noboxAll r) = true
    rw [odd_nobox (h d List.mem_cons_self), odd_noboxAll fun x hx => h x (List.mem_cons_of_mem _ hx)]
    rfl
/-- a tuple of good parts -/
def Tv (H : Hp) (p : Addr) (xs : List V) (ds : List PyData) : Prop := H p = some (.tup xs) ∧ DzAll true H xs ds ∧ ∀ d ∈ ds, oddOk d = true
theorem Tv.same {H H2 : Hp} {p : Addr} {xs : List V} {ds : List PyData} (h : Tv H p xs ds) (s : Same H H2) : Tv H2 p xs ds := ⟨s _ _ h.1, DzAll.same s h.2.1, h.2.2⟩
theorem addT {K : PySem.W.Frag} {H : Hp} {l b : Addr} {xs zs : List V} {Q : VK} (h1 : H l = some (.tup xs)) (h2 : H b = some (.tup zs)) (hz : xs.length + zs.length ≤ sizeLine) (q : ∀ r H2, Same H H2 → H2 r = some (.tup (xs ++ zs)) → Q (.ref r) H2) : zAdd K (.ref l) (.ref b) H Q :=
  .inr ⟨xs, zs, SqT.of h1, SqT.of h2, hz, (fun e => q b H (Same.refl H) (by rw [e]; exact h2)), (fun _ e => q l H (Same.refl H) (by rw [e, List.append_nil]; exact h1)), fun _ _ p H2 n => q p H2 n.same n.here⟩
theorem cutV_to (xs : List V) (j : Nat) : cutV xs none (some (j : Int)) = xs.take j := by
  unfold cutV
  rw [sIx_pos (by omega), Int.toNat_natCast]
  show ((xs.drop 0).take (min j xs.length - 0)) = _
  rw [List.drop_zero, Nat.sub_zero]
  rcases Nat.le_total j xs.length with h | h
  · rw [Nat.min_eq_left h]
  · rw [Nat.min_eq_right h, List.take_length, List.take_of_length_le h]
theorem cutV_toneg (xs : List V) : cutV xs none (some (-1)) = xs.take (xs.length - 1) := by
  unfold cutV
  show ((xs.drop 0).take ((if (-1 : Int) < 0 then (-1 + (xs.length : Int)).toNat else min (-1 : Int).toNat xs.length) - 0)) = _
  rw [if_pos (by decide), List.drop_zero, Nat.sub_zero, show (-1 + (xs.length : Int)).toNat = xs.length - 1 by omega]
theorem cutV_frneg (xs : List V) : cutV xs (some (-1)) none = xs.drop (xs.length - 1) := by
  unfold cutV
  show ((xs.drop (if (-1 : Int) < 0 then (-1 + (xs.length : Int)).toNat else min (-1 : Int).toNat xs.length)).take (xs.length - (if (-1 : Int) < 0 then (-1 + (xs.length : Int)).toNat else min (-1 : Int).toNat xs.length))) = _
  rw [if_pos (by decide), show (-1 + (xs.length : Int)).toNat = xs.length - 1 by omega, List.take_of_length_le (by rw [List.length_drop]; omega)]
theorem sIx_neg {n d : Nat} : HT.sIx n d (some (-1)) = n - 1 := by
  show (if (-1 : Int) < 0 then (-1 + (n : Int)).toNat else min (-1 : Int).toNat n) = _
  rw [if_pos (by decide)]
  omega
theorem cutV_fr (xs : List V) (j : Nat) : cutV xs (some (j : Int)) none = xs.drop j := by
  unfold cutV
  rw [sIx_pos (by omega), Int.toNat_natCast]
  show ((xs.drop (min j xs.length)).take (xs.length - min j xs.length)) = _
  rcases Nat.le_total j xs.length with h | h
  · rw [Nat.min_eq_left h, List.take_of_length_le (by rw [List.length_drop]; omega)]
  · rw [Nat.min_eq_right h, List.drop_length, List.drop_eq_nil_of_le h, List.take_nil]
theorem sum_odd : ∀ {ds : List PyData}, (∀ d ∈ ds, oddOk d = true) → (ds.map fun d => d.shown.length + 2).sum ≤ ds.length * 2002
  | [], _ => Nat.zero_le _
  | d :: r, h => by
    have h1 := (oddOk_of (h d List.mem_cons_self)).2.2.2
    have h2 := sum_odd fun x hx => h x (List.mem_cons_of_mem _ hx)
    rw [List.map_cons, List.sum_cons, List.length_cons, Nat.succ_mul]
    omega
theorem depth_odd : ∀ {ds : List PyData}, (∀ d ∈ ds, oddOk d = true) → PyData.depthAll ds ≤ 3
  | [], _ => Nat.zero_le _
  | d :: r, h => by
    have h1 := (oddOk_of (h d List.mem_cons_self)).2.2.1
    have h2 := depth_odd fun x hx => h x (List.mem_cons_of_mem _ hx)
    show max d.depth (PyData.depthAll r) ≤ 3
    omega
theorem show_odd : ∀ {ds : List PyData}, (∀ d ∈ ds, oddOk d = true) → PyData.showableAll ds = true
  | [], _ => rfl
  | d :: r, h => by
    have h1 := (oddOk_of (h d List.mem_cons_self)).2.1
    have h2 := show_odd fun x hx => h x (List.mem_cons_of_mem _ hx)
    show (d.showable && PyData.showableAll r) = true
    rw [h1, h2]
    rfl
theorem asc_odd : ∀ {ds : List PyData}, (∀ d ∈ ds, oddOk d = true) → ds.all asc1 = true := fun {ds} h => List.all_eq_true.mpr fun d hd => (oddOk_of (h d hd)).1
theorem odd_int {i : Int} (h : -10000000000000 ≤ i ∧ i ≤ 10000000000000) : oddOk (.int i) = true := by
  have hl : i.natAbs.log2 < 1920 := by
    rcases Nat.eq_zero_or_pos i.natAbs with e | e
    · rw [e]; decide
    · have q : 2 ^ i.natAbs.log2 ≤ i.natAbs := Nat.log2_self_le (by omega)
      have h2 : i.natAbs < 2 ^ 60 := by omega
      have : i.natAbs.log2 < 60 := (Nat.pow_lt_pow_iff_right (by decide : 1 < 2)).mp (Nat.lt_of_le_of_lt q h2)
      omega
  have e : (PyData.int i).shown = Str.ofString (toString i) := by simp only [PyData.shown]
  unfold oddOk
  rw [e, show (PyData.int i).showable = true by simpa only [PyData.showable, decide_eq_true_eq] using hl]
  have := int_text_len_1921 hl
  show (true && true && decide (0 ≤ 3) && decide ((Str.ofString (toString i)).length ≤ 2000) && true) = true
  rw [decide_eq_true (p := (Str.ofString (toString i)).length ≤ 2000) (by omega)]
  rfl
theorem odd_str {l : List Nat} (h : Pr l) (hl : l.length ≤ 100) : oddOk (.str (S l)) = true := by
  have e : (PyData.str (S l)).shown = reprText (S l) := by simp only [PyData.shown]
  have r := PySem.StrLaws.reprText_len (S l) (fun c hc => by
    rw [cps_S] at hc
    have := h c hc
    omega)
  have ls := length_S l
  have a : asciiS (S l) = true := by
    unfold asciiS
    rw [cps_S, List.all_eq_true]
    intro c hc
    have := h c hc
    exact decide_eq_true (by omega)
  have h1 : asc1 (.str (S l)) = true := by
    show (asciiS (S l) && decide ((S l).length ≤ 100000)) = true
    rw [a, length_S, decide_eq_true (by omega)]
    rfl
  unfold oddOk
  rw [e, h1]
  show (true && true && decide (0 ≤ 3) && decide ((reprText (S l)).length ≤ 2000) && true) = true
  rw [decide_eq_true (p := (reprText (S l)).length ≤ 2000) (by omega)]
  rfl
/-- a value that may be judged and shown -/
def Good (H : Hp) (v : V) : Prop := ∃ g d, Dz g H v d ∧ (d.hasDict = true → g = true) ∧ asc d = true ∧ d.showable = true ∧ d.depth ≤ 60 ∧ d.shown.length ≤ 10000000 ∧ nobox d = true
theorem Good.same {H H2 : Hp} {v : V} (h : Good H v) (s : Same H H2) : Good H2 v := by
  obtain ⟨g, d, a, b⟩ := h
  exact ⟨g, d, Dz.same s a, b⟩
theorem good_tup {H : Hp} {p : Addr} {xs : List V} {ds : List PyData} (h : H p = some (.tup xs)) (a : DzAll true H xs ds) (ok : ∀ d ∈ ds, oddOk d = true) (l : ds.length ≤ 20) : Good H (.ref p) := by
  refine ⟨true, .tuple ds, .tup h a, fun _ => rfl, asc_odd ok, show_odd ok, ?_, ?_, odd_noboxAll ok⟩
  · show PyData.depthAll ds + 1 ≤ 60
    have := depth_odd ok
    omega
  · have h1 := len_tuple ds
    have h2 := sum_odd ok
    have h3 : ds.length * 2002 ≤ 20 * 2002 := Nat.mul_le_mul_right _ l
    omega
def atomD : PyData → Bool
  | .none | .bool _ | .int _ | .str _ => true
  | _ => false
theorem atom_dict : ∀ {ds : List PyData}, (∀ d ∈ ds, atomD d = true) → PyData.hasDictAll ds = false
  | [], _ => by simp only [PyData.hasDictAll]
  | d :: r, h => by
    have h1 := h d List.mem_cons_self
    have h2 := atom_dict fun x hx => h x (List.mem_cons_of_mem _ hx)
    have h3 : d.hasDict = false := by cases d <;> first | (simp only [PyData.hasDict]; done) | cases h1
    simp only [PyData.hasDictAll, h3, h2, Bool.or_self]
mutual
theorem Dz.weak {H : Hp} : ∀ {v : V} {d : PyData}, Dz true H v d → Dz false H v d
  | _, _, .non => .non
  | _, _, .bl b => .bl b
  | _, _, .int i => .int i
  | _, _, .str x => .str x
  | _, _, .lst h n a => .lst h (fun z => by cases z) (DzAll.weak a)
  | _, _, .tup h a => .tup h (DzAll.weak a)
  | _, _, .dic h a => .dic h (DzKv.weak a)
theorem DzAll.weak {H : Hp} : ∀ {vs : List V} {ds : List PyData}, DzAll true H vs ds → DzAll false H vs ds
  | _, _, .nil => .nil
  | _, _, .cons h t => .cons (Dz.weak h) (DzAll.weak t)
theorem DzKv.weak {H : Hp} : ∀ {kvs : List (Key × V)} {D : List (PyData × PyData)}, DzKv true H kvs D → DzKv false H kvs D
  | _, _, .nil => .nil
  | _, _, .cons h t => .cons (Dz.weak h) (DzKv.weak t)
end
theorem good_lst {H : Hp} {p : Addr} {xs : List V} {ds : List PyData} (h : H p = some (.lst xs)) (a : DzAll true H xs ds) (ok : ∀ d ∈ ds, oddOk d = true) (at' : ∀ d ∈ ds, atomD d = true) (l : ds.length ≤ 20) (l4 : ds.length ≠ 4) : Good H (.ref p) := by
  refine ⟨false, .list ds, .lst h (fun z => by cases z) (DzAll.weak a), fun z => ?_, rfl, show_odd ok, ?_, ?_, by show ((ds.length != 4) && noboxAll ds) = true; rw [odd_noboxAll ok, Bool.and_true]; simpa using l4⟩
  · have e : (PyData.list ds).hasDict = PyData.hasDictAll ds := by simp only [PyData.hasDict]
    rw [e, atom_dict at'] at z
    cases z
  · show PyData.depthAll ds + 1 ≤ 60
    have := depth_odd ok
    omega
  · have h1 := len_list ds
    have h2 := sum_odd ok
    have h3 : ds.length * 2002 ≤ 20 * 2002 := Nat.mul_le_mul_right _ l
    omega
theorem good_atom {H : Hp} {v : V} {d : PyData} (h : Dz true H v d) (ok : oddOk d = true) (a : atomD d = true) : Good H v := by
  obtain ⟨h1, h2, h3, h4⟩ := oddOk_of ok
  exact ⟨true, d, h, fun _ => rfl, (by cases d <;> first | exact h1 | rfl | cases a), h2, by omega, by omega, odd_nobox ok⟩
theorem Good.but {H H2 : Hp} {b : Addr} {bs : List V} (hb : H b = some (.lst bs)) (h4 : bs.length = 4) (t : But b H H2) {v : V} (h : Good H v) : Good H2 v := by
  obtain ⟨g, d, a, h1, h2, h3, h5, h6, h7⟩ := h
  exact ⟨g, d, Dz.but hb h4 t a h7, h1, h2, h3, h5, h6, h7⟩
/-- a tuple, or a dict, of one tuple -/
theorem good_tup1 {H : Hp} {p r : Addr} {xs : List V} {ds : List PyData} (h : H p = some (.tup xs)) (a : DzAll true H xs ds) (ok : ∀ d ∈ ds, oddOk d = true) (l : ds.length ≤ 20) (hr : H r = some (.tup [.ref p])) : Good H (.ref r) := by
  have h1 := len_tuple ds
  have h2 := sum_odd ok
  have h3 : ds.length * 2002 ≤ 20 * 2002 := Nat.mul_le_mul_right _ l
  have hd := depth_odd ok
  refine ⟨true, .tuple [.tuple ds], .tup hr (.cons (.tup h a) .nil), fun _ => rfl, rfl, ?_, ?_, ?_, by show (noboxAll ds && true) = true; rw [odd_noboxAll ok]; rfl⟩
  · show (PyData.showableAll ds && true) = true
    rw [show_odd ok]
    rfl
  · show max (PyData.depthAll ds + 1) 0 + 1 ≤ 60
    omega
  · have h4 := len_tuple [.tuple ds]
    rw [List.map_cons, List.map_nil, List.sum_cons, List.sum_nil] at h4
    omega
theorem good_dic1 {H : Hp} {p r : Addr} {xs : List V} {ds : List PyData} (h : H p = some (.tup xs)) (a : DzAll true H xs ds) (ok : ∀ d ∈ ds, oddOk d = true) (l : ds.length ≤ 20) (hr : H r = some (.dK [(.inr "a", .ref p)])) : Good H (.ref r) := by
  have h1 := len_tuple ds
  have h2 := sum_odd ok
  have h3 : ds.length * 2002 ≤ 20 * 2002 := Nat.mul_le_mul_right _ l
  have hd := depth_odd ok
  refine ⟨true, .dict [(.str "a", .tuple ds)], .dic hr (.cons (k := .inr "a") (.tup h a) .nil), fun _ => rfl, rfl, ?_, ?_, ?_, by show (noboxAll ds && true) = true; rw [odd_noboxAll ok]; rfl⟩
  · show (PyData.showable (.str "a") && PyData.showableAll ds && true) = true
    rw [show_odd ok]
    rfl
  · show _ ≤ 60
    simp only [PyData.depth, PyData.depthKv]
    omega
  · have e : (PyData.dict [(.str "a", .tuple ds)]).shown = dictText [reprText "a" ++ ": " ++ (PyData.tuple ds).shown] := by
      simp only [PyData.shown, PyData.shownKv]
    rw [e]
    unfold dictText
    rw [strLen_append, strLen_append]
    show _ + (reprText "a" ++ ": " ++ (PyData.tuple ds).shown).length + _ ≤ _
    rw [strLen_append, strLen_append]
    have e1 : ("{" : Str).length = 1 := rfl
    have e2 : ("}" : Str).length = 1 := rfl
    have e3 : (": " : Str).length = 2 := rfl
    have e4 : (reprText "a").length = 3 := by decide +kernel
    omega
end M3

/-! M10: things that are no texts with a frame, and what is shown of them. -/
namespace M10
open PySem PySem.Spec PyProof.Rows L2 Z SX M9 M3

def Vd (H : Hp) (v : V) (d : PyData) : Prop := ∃ g, Dz g H v d
theorem Vd.kind {K : PySem.W.Frag} {H : Hp} {v : V} {d : PyData} (h : Vd H v d) : KindV K H v (kindD d) := by
  obtain ⟨g, h⟩ := h
  exact Dz.kind h
theorem Vd.int {H : Hp} {v : V} {i : Int} (h : Vd H v (.int i)) : v = .int i := by
  obtain ⟨g, h⟩ := h
  cases h
  rfl
theorem Vd.str {H : Hp} {v : V} {x : Str} (h : Vd H v (.str x)) : v = .str x := by
  obtain ⟨g, h⟩ := h
  cases h
  rfl
theorem Vd.same {H H2 : Hp} {v : V} {d : PyData} (h : Vd H v d) (s : Same H H2) : Vd H2 v d := by
  obtain ⟨g, h⟩ := h
  exact ⟨g, Dz.same s h⟩
def txt : PyData → Bool
  | .str x => asciiS x && decide (x.length ≤ 1000000)
  | _ => true
def framD : PyData → Bool
  | .str x => prS x && decide (x.length ≤ 80000)
  | _ => false
def cntD : PyData → Bool
  | .int i => decide (0 ≤ i)
  | _ => false
theorem prS_of {l : List Nat} (h : Pr l) : prS (S l) = true := by
  unfold prS
  rw [cps_S, List.all_eq_true]
  intro c hc
  simpa using h c hc
theorem asc_of {l : List Nat} (h : ∀ c ∈ l, c < 128) : asciiS (S l) = true := by
  unfold asciiS
  rw [cps_S, List.all_eq_true]
  intro c hc
  exact decide_eq_true (h c hc)
theorem lt_pr {l : List Nat} (h : Pr l) : ∀ c ∈ l, c < 128 := fun c hc => by
  have := h c hc
  omega
theorem txt_S {l : List Nat} (h : ∀ c ∈ l, c < 128) (hl : l.length ≤ 1000000) : txt (.str (S l)) = true := by
  show (asciiS (S l) && decide ((S l).length ≤ 1000000)) = true
  rw [asc_of h, length_S, decide_eq_true hl]
  rfl
theorem pr_prS {x : Str} (h : prS x = true) : Pr x.cps.toList := fun c hc => by simpa using (List.all_eq_true.mp h) c hc
theorem S_cps (x : Str) : x = S x.cps.toList := by
  cases x with
  | mk a => rfl
/-- a text with a frame; a thing that has none; a thing of other signs, or no text -/
def OkI (x : V) : Prop := ∃ l, x = .str (S l) ∧ Pr l ∧ l.length ≤ 80000
def BadI (H : Hp) (x : V) : Prop := ∃ d, Vd H x d ∧ txt d = true ∧ framD d = false
def BadS (H : Hp) (x : V) : Prop := ∃ d, Vd H x d ∧ txt d = true ∧ signsD d = false
theorem BadS.i {H : Hp} {x : V} (h : BadS H x) : BadI H x := by
  obtain ⟨d, a, b, c⟩ := h
  refine ⟨d, a, b, ?_⟩
  cases d with
  | str z =>
    have c : prS z = false := c
    show (prS z && _) = false
    rw [c]
    rfl
  | _ => rfl
theorem BadI.same {H H2 : Hp} {x : V} (h : BadI H x) (s : Same H H2) : BadI H2 x := by
  obtain ⟨d, a, b⟩ := h
  exact ⟨d, a.same s, b⟩
theorem BadS.same {H H2 : Hp} {x : V} (h : BadS H x) (s : Same H H2) : BadS H2 x := by
  obtain ⟨d, a, b⟩ := h
  exact ⟨d, a.same s, b⟩
theorem _root_.Z.KindV.same {K : PySem.W.Frag} {H H2 : Hp} {x : V} {k : String} (h : KindV K H x k) (s : Same H H2) : KindV K H2 x k := by
  unfold KindV at h ⊢
  split at h
  · exact h
  · exact h
  · exact h
  · exact h
  · rcases h with ⟨e, xs, h⟩ | ⟨e, xs, h⟩ | ⟨e, ⟨kvs, h⟩ | ⟨kvs, h⟩⟩
    · exact .inl ⟨e, xs, sqL_same s h⟩
    · exact .inr (.inl ⟨e, xs, sqT_same s h⟩)
    · exact .inr (.inr ⟨e, .inl ⟨kvs, s _ _ h⟩⟩)
    · exact .inr (.inr ⟨e, .inr ⟨kvs, s _ _ h⟩⟩)
  · exact h.elim
/-- no list and no tuple -/
def NoL (K : PySem.W.Frag) (H : Hp) (v : V) : Prop := ∃ k, KindV K H v k ∧ (isK k "list" || isK k "tuple") = false
theorem NoL.same {K : PySem.W.Frag} {H H2 : Hp} {v : V} (h : NoL K H v) (s : Same H H2) : NoL K H2 v := by
  obtain ⟨k, a, b⟩ := h
  exact ⟨k, a.same s, b⟩
/-- a list or tuple: good texts, then a thing that has no frame -/
def BadL (K : PySem.W.Frag) (H : Hp) (v x : V) : Prop := ∃ a pre post, v = .ref a ∧ (SqL K H a (strsV pre ++ x :: post) ∨ SqT K H a (strsV pre ++ x :: post)) ∧ (∀ l ∈ pre, Pr l ∧ l.length ≤ 80000) ∧ BadI H x
theorem BadL.same {K : PySem.W.Frag} {H H2 : Hp} {v x : V} (h : BadL K H v x) (s : Same H H2) : BadL K H2 v x := by
  obtain ⟨a, pre, post, e, c, d, b⟩ := h
  exact ⟨a, pre, post, e, c.imp (sqL_same s) (sqT_same s), d, b.same s⟩
/-- .. good texts alone -/
def OkL (K : PySem.W.Frag) (H : Hp) (v : V) (ls : List (List Nat)) : Prop := ∃ a, v = .ref a ∧ (SqL K H a (strsV ls) ∨ SqT K H a (strsV ls)) ∧ ∀ l ∈ ls, Pr l ∧ l.length ≤ 80000
theorem OkL.same {K : PySem.W.Frag} {H H2 : Hp} {v : V} {ls : List (List Nat)} (h : OkL K H v ls) (s : Same H H2) : OkL K H2 v ls := by
  obtain ⟨a, e, c, d⟩ := h
  exact ⟨a, e, c.imp (sqL_same s) (sqT_same s), d⟩
theorem strs_pre {pre : List (List Nat)} {x y : V} {post : List V} {i : Nat} (h : (strsV pre ++ x :: post)[i]? = some y) (hi : i ≤ pre.length) : (i < pre.length ∧ ∃ l ∈ pre, y = .str (S l)) ∨ (i = pre.length ∧ y = x) := by
  rcases Nat.lt_or_ge i pre.length with lt | ge
  · left
    rw [List.getElem?_append_left (by rw [strsV_len]; exact lt)] at h
    obtain ⟨l, _, e, hm⟩ := strsV_at h
    exact ⟨lt, l, hm, e⟩
  · right
    have e : i = pre.length := by omega
    subst e
    rw [List.getElem?_append_right (by rw [strsV_len]; exact Nat.le_refl _), strsV_len, Nat.sub_self] at h
    exact ⟨rfl, (Option.some.inj h).symm⟩

/-! ### things -/
mutual
theorem Dz.atom {g g' : Bool} {H H2 : Hp} : ∀ {v : V} {d : PyData}, Dz g H v d → atomD d = true → Dz g' H2 v d
  | _, _, .non, _ => .non
  | _, _, .bl b, _ => .bl b
  | _, _, .int i, _ => .int i
  | _, _, .str x, _ => .str x
  | _, _, .lst _ _ _, z => by cases z
  | _, _, .tup _ _, z => by cases z
  | _, _, .dic _ _, z => by cases z
theorem DzAll.atom {g g' : Bool} {H H2 : Hp} : ∀ {vs : List V} {ds : List PyData}, DzAll g H vs ds → (∀ d ∈ ds, atomD d = true) → DzAll g' H2 vs ds
  | _, _, .nil, _ => .nil
  | _, _, .cons h t, z => .cons (Dz.atom h (z _ List.mem_cons_self)) (DzAll.atom t fun d hd => z d (List.mem_cons_of_mem _ hd))
end
inductive Tg (H : Hp) : V → PyData → Prop
  | flat {v : V} {d : PyData} : Dz true H v d → atomD d = true → Tg H v d
  | tup {a : Addr} {xs : List V} {ds : List PyData} : H a = some (.tup xs) → DzAll true H xs ds → (∀ d ∈ ds, atomD d = true) → Tg H (.ref a) (.tuple ds)
  | lst {a : Addr} {xs : List V} {ds : List PyData} : H a = some (.lst xs) → a ≠ sysModules → DzAll true H xs ds → (∀ d ∈ ds, atomD d = true) → Tg H (.ref a) (.list ds)
  | dic {a : Addr} : H a = some (.dK []) → Tg H (.ref a) (.dict [])
theorem Tg.dz {H : Hp} {v : V} {d : PyData} (h : Tg H v d) : Dz true H v d := by
  cases h with
  | flat h _ => exact h
  | tup h a _ => exact .tup h a
  | lst h n a _ => exact .lst h (fun _ => n) a
  | dic h => exact .dic h .nil
theorem Tg.vd {H : Hp} {v : V} {d : PyData} (h : Tg H v d) : Vd H v d := ⟨true, h.dz⟩
theorem Tg.same {H H2 : Hp} {v : V} {d : PyData} (h : Tg H v d) (s : Same H H2) : Tg H2 v d := by
  cases h with
  | flat h a => exact .flat (Dz.same s h) a
  | tup h a z => exact .tup (s _ _ h) (DzAll.same s a) z
  | lst h n a z => exact .lst (s _ _ h) n (DzAll.same s a) z
  | dic h => exact .dic (s _ _ h)
theorem Tg.but {H H2 : Hp} {b : Addr} {bs : List V} (hb : H b = some (.lst bs)) (h4 : bs.length = 4) (t : But b H H2) {v : V} {d : PyData} (h : Tg H v d) (k : nobox d = true) : Tg H2 v d := by
  have full := Dz.but hb h4 t h.dz k
  cases h with
  | flat h a => exact .flat full a
  | tup h a z => exact .tup (t _ _ (fun e => by rw [e, hb] at h; cases h) h) (DzAll.atom a z) z
  | @lst p xs ds h n a z =>
    cases full with
    | lst h2 _ a2 =>
      have e : p ≠ b := fun e => by
        have k : ((ds.length != 4) && noboxAll ds) = true := k
        rw [Bool.and_eq_true] at k
        rw [e, hb] at h
        have := DzAll.len a
        cases h
        exact not4 k.1 (by omega)
      exact .lst (t _ _ e h) n (DzAll.atom a z) z
  | dic h => exact .dic (t _ _ (fun e => by rw [e, hb] at h; cases h) h)

/-! ### how long what is shown is -/
structure Sw (k B : Nat) (d : PyData) : Prop where
  sh : d.showable = true
  dp : d.depth ≤ k
  ln : d.shown.length ≤ B
theorem Sw.mono {j k A B : Nat} {d : PyData} (h : Sw j A d) (a : j ≤ k) (b : A ≤ B) : Sw k B d := ⟨h.sh, Nat.le_trans h.dp a, Nat.le_trans h.ln b⟩
theorem sw_odd {d : PyData} (h : oddOk d = true) : Sw 3 2000 d := by
  obtain ⟨_, b, c, e⟩ := oddOk_of h
  exact ⟨b, c, e⟩
theorem sw_all {k B : Nat} : ∀ {ds : List PyData}, (∀ d ∈ ds, Sw k B d) → PyData.showableAll ds = true ∧ PyData.depthAll ds ≤ k ∧ (ds.map fun d => d.shown.length + 2).sum ≤ ds.length * (B + 2)
  | [], _ => ⟨rfl, Nat.zero_le _, Nat.zero_le _⟩
  | d :: r, h => by
    obtain ⟨a, b, c⟩ := sw_all fun x hx => h x (List.mem_cons_of_mem _ hx)
    have e := h d List.mem_cons_self
    refine ⟨?_, ?_, ?_⟩
    · show (d.showable && PyData.showableAll r) = true
      rw [e.sh, a]
      rfl
    · show max d.depth (PyData.depthAll r) ≤ k
      have := e.dp
      omega
    · have := e.ln
      rw [List.map_cons, List.sum_cons, List.length_cons, Nat.succ_mul]
      omega
theorem Sw.list {k B m : Nat} {ds : List PyData} (h : ∀ d ∈ ds, Sw k B d) (hm : ds.length ≤ m) : Sw (k + 1) (4 + m * (B + 2)) (.list ds) := by
  obtain ⟨a, b, c⟩ := sw_all h
  refine ⟨a, ?_, ?_⟩
  · show PyData.depthAll ds + 1 ≤ k + 1
    omega
  · have := len_list ds
    have e : ds.length * (B + 2) ≤ m * (B + 2) := Nat.mul_le_mul_right _ hm
    omega
theorem Sw.tuple {k B m : Nat} {ds : List PyData} (h : ∀ d ∈ ds, Sw k B d) (hm : ds.length ≤ m) : Sw (k + 1) (4 + m * (B + 2)) (.tuple ds) := by
  obtain ⟨a, b, c⟩ := sw_all h
  refine ⟨a, ?_, ?_⟩
  · show PyData.depthAll ds + 1 ≤ k + 1
    omega
  · have := len_tuple ds
    have e : ds.length * (B + 2) ≤ m * (B + 2) := Nat.mul_le_mul_right _ hm
    omega
/-- repr of data -/
theorem show_of {H : Hp} {v : V} {d : PyData} {Q : VK} {k B : Nat} (h : Dz true H v d) (s : Sw k B d) (hk : k ≤ 60) (hB : B ≤ 16000000) (q : Q (.str d.shown) H) : zRepr [v] H Q :=
  ⟨true, d, h, fun _ => rfl, s.sh, Nat.le_trans s.dp hk, sz (Nat.le_trans s.ln hB), q⟩
end M10

/-! W1: errors as things: their class, their fields. -/
namespace Z
open PySem PySem.Spec PyProof.Rows L2

/-- at a stands an error of the class C with this dict, its context None -/
def ErA (H : Hp) (a C : Addr) (d : Option Addr) : Prop := ∃ φ, H a = some (.ext φ) ∧ ∀ h, φ h → ∃ (oe : Obj) (vs : Array Value), h.get? a = some oe ∧ oe.cls = .ref C ∧ oe.dict = d ∧ oe.data = .fields vs ∧ vs[2]? = some .none
theorem ErA.same {H H2 : Hp} {a C : Addr} {d : Option Addr} (h : ErA H a C d) (s : Same H H2) : ErA H2 a C d := by
  obtain ⟨φ, e, q⟩ := h
  exact ⟨φ, s _ _ e, q⟩
theorem ErA.ex {H : Hp} {a C : Addr} {d : Option Addr} (h : ErA H a C d) : ∃ φ, H a = some (.ext φ) := ⟨_, h.choose_spec.1⟩
theorem ErA.at {X : Cx} {pins : List (Addr × Obj)} {σ : L2.St} {H : Hp} {s : Shared} {a C : Addr} {d : Option Addr} (h : ErA H a C d) (I : Inv X pins σ H s) : ∃ (oe : Obj) (vs : Array Value), s.heap.get? a = some oe ∧ oe.cls = .ref C ∧ oe.dict = d ∧ oe.data = .fields vs ∧ vs[2]? = some .none := by
  obtain ⟨φ, e, q⟩ := h
  have x : ObjOk X.prog X.w H s.heap a (.ext φ) := I.hok a _ e
  exact q _ x.1
theorem exo_erA {H : Hp} {a C : Addr} {d : Option Addr} (h : H a = some (exo a C d)) : ErA H a C d := by
  refine ⟨_, h, fun h z => ?_⟩
  obtain ⟨t, z⟩ := z
  exact ⟨_, _, z, rfl, rfl, rfl, rfl⟩
/-- a caught error, as it stands -/
def errH (a C : Addr) (d : Option Addr) : HO := .ext fun h => ∃ (oe : Obj) (vs : Array Value), h.get? a = some oe ∧ oe.cls = .ref C ∧ oe.dict = d ∧ oe.data = .fields vs ∧ vs[2]? = some .none
/-- its fields -/
def XdA (H : Hp) (dx : Addr) (fs : List (Str × V)) : Prop := H dx = some (exd dx fs) ∨ H dx = some (.xd fs)
theorem XdA.same {H H2 : Hp} {dx : Addr} {fs : List (Str × V)} (h : XdA H dx fs) (s : Same H H2) : XdA H2 dx fs := h.imp (s _ _) (s _ _)
theorem XdA.at {X : Cx} {pins : List (Addr × Obj)} {σ : L2.St} {H : Hp} {s : Shared} {dx : Addr} {fs : List (Str × V)} (h : XdA H dx fs) (I : Inv X pins σ H s) : ∃ mA, s.heap.Ns1 dx mA ∧ ∀ f, RelO (fs.lookup f) (mA f) := by
  rcases h with h | h
  · exact exd_at I.hok h
  · exact (show ObjOk X.prog X.w H s.heap dx (.xd fs) from I.hok dx _ h)
/-- an error with its fields -/
def Ert (H : Hp) (a C : Addr) (fs : List (Str × V)) : Prop := (fs = [] ∧ ErA H a C none) ∨ ∃ dx, ErA H a C (some dx) ∧ XdA H dx fs
theorem Ert.same {H H2 : Hp} {a C : Addr} {fs : List (Str × V)} (h : Ert H a C fs) (s : Same H H2) : Ert H2 a C fs := by
  rcases h with ⟨e, h⟩ | ⟨dx, h, x⟩
  · exact .inl ⟨e, h.same s⟩
  · exact .inr ⟨dx, h.same s, x.same s⟩
theorem Ert.era {H : Hp} {a C : Addr} {fs : List (Str × V)} (h : Ert H a C fs) : ∃ d, ErA H a C d := by
  rcases h with ⟨_, h⟩ | ⟨dx, h, _⟩
  · exact ⟨_, h⟩
  · exact ⟨_, h⟩
theorem Ert.inst {X : Cx} {pins : List (Addr × Obj)} {σ : L2.St} {H : Hp} {s : Shared} {a C : Addr} {fs : List (Str × V)} (h : Ert H a C fs) (I : Inv X pins σ H s) : ∃ oe od, PySem.W.InstAt s.heap a oe C od := by
  rcases h with ⟨_, h⟩ | ⟨dx, h, x⟩
  · obtain ⟨oe, vs, e1, e2, e3, e4, _⟩ := h.at I
    exact ⟨oe, none, e1, e2, by unfold PySem.W.notCls; rw [e4] <;> rfl, by rw [e3]; exact True.intro⟩
  · obtain ⟨oe, vs, e1, e2, e3, e4, _⟩ := h.at I
    obtain ⟨mA, ns, _⟩ := x.at I
    obtain ⟨od, ho, _⟩ := lookIn_ns ns
    exact ⟨oe, some od, e1, e2, by unfold PySem.W.notCls; rw [e4] <;> rfl, by rw [e3]; exact ho⟩
/-- isinstance(an error, a class) -/
def zIsE (K : PySem.W.Frag) : List V → Hp → VK → Prop := fun xs H Q => match xs with
  | [.ref a, .ref c] => ∃ C fs b, Ert H a C fs ∧ Es K C ∧ PySem.W.kitOne K (.ref C) (.ref c) = some b ∧ Q (.bl b) H
  | [.ref a, .ty c] => ∃ C fs b, Ert H a C fs ∧ Es K C ∧ PySem.W.kitOne K (.ref C) (.type c) = some b ∧ Q (.bl b) H
  | _ => False
theorem c_isE {X : Cx} : CallR X (.builtin "isinstance") (zIsE X.K) := by
  intro pins s σ H xs us Q I r h
  have go : ∀ {a C : Addr} {fs : List (Str × V)} {cv : Value} {b : Bool}, Ert H a C fs → Es X.K C → PySem.W.kitOne X.K (.ref C) cv = some b → Q (.bl b) H → wpAny (model X.prog X.w) X.A (call (.builtin "isinstance") [.ref a, cv]) (EP X pins σ Q) X.xe s := by
    intro a C fs cv b e S ask q
    obtain ⟨oe, od, J⟩ := e.inst I
    have cl : (PySem.W.clsIn X.K C).isSome = true := by
      obtain ⟨cd, hc, _⟩ := PySem.W.any_some S.xf.hdC
      rw [hc]
      rfl
    exact PySem.W.kia_one (PySem.W.kitx_exc cl S.xf.ga S.xf.gg S.xf.exC S.ha S.hn S.ht S.hm) I.kIn J ask (fun z => nomatch z) fun tk => ⟨.bl b, H, I.tok _, rfl, q⟩
  unfold zIsE at h
  split at h
  · obtain ⟨C, fs, b, e, S, ask, q⟩ := h
    cases r with
    | cons r1 rr =>
      cases rr with
      | cons r2 rr =>
        cases rr
        cases r1
        cases r2
        exact go e S ask q
  · obtain ⟨C, fs, b, e, S, ask, q⟩ := h
    cases r with
    | cons r1 rr =>
      cases rr with
      | cons r2 rr =>
        cases rr
        cases r1
        cases r2
        exact go e S ask q
  · exact h.elim
theorem k_isE {X : Cx} (K : PySem.W.Frag) (hK : X.K = K := by rfl) : CallR X (.builtin "isinstance") (zIsE K) := hK ▸ c_isE
/-- e.f of an error -/
def tXg (K : PySem.W.Frag) (f : Str) (te : TE) : TE := fun σ H Q => te σ H fun x H1 => ∃ a C fs v, x = .ref a ∧ Ert H1 a C fs ∧ XfC K C ∧ PySem.W.findIn K (.ref C) f = some none ∧ fs.lookup f = some v ∧ Q v H1
theorem pe_xg {X : Cx} {e : Expr} {te : TE} {pos : Pos} {n : Str} (he : PE X e te) (hb : attributeBase e n X.env (eval e X.env) = eval e X.env := by rfl) : PE X (.Attribute e n pos) (tXg X.K n te) := by
  refine ⟨fun pins s σ H Q I h => attr_of hb (thn (he.run pins s σ H _ I h) fun u s1 hh => ?_)⟩
  obtain ⟨x, H1, I1, rx, a, C, fs, v, rfl, er, T, hno, l, q⟩ := hh
  obtain rfl : u = Value.ref a := rx
  rcases er with ⟨rfl, _⟩ | ⟨dx, er, xd⟩
  · cases l
  · obtain ⟨oe, vs, e1, e2, e3, e4, _⟩ := er.at I1
    obtain ⟨mA, ns, hr⟩ := xd.at I1
    obtain ⟨od, ho, hl⟩ := lookIn_ns ns
    obtain ⟨u, hu, ru⟩ := RelO.some_of (v := v) (o := mA n) (by rw [← l]; exact hr n)
    have J : PySem.W.InstAt s1.heap a oe C (some od) := ⟨e1, e2, by unfold PySem.W.notCls; rw [e4] <;> rfl, by rw [e3]; exact ho⟩
    exact HandSPX.exc_get I1.kIn J T.ga T.gg T.exC (PySem.W.findObj_own T.hdC hno rfl (by rw [hl, hu])) (handed_of ru) ⟨v, H1, I1.tok _, ru, q⟩
theorem pe_xgK {X : Cx} (K : PySem.W.Frag) {e : Expr} {te : TE} {pos : Pos} {n : Str} (he : PE X e te) (hK : X.K = K := by rfl) (hb : attributeBase e n X.env (eval e X.env) = eval e X.env := by rfl) : PE X (.Attribute e n pos) (tXg K n te) := hK ▸ pe_xg he hb
/-- what the classes say of each other -/
theorem ErrC.sub {K : PySem.W.Frag} {C B : Addr} (T : ErrC K C B) (D : Addr) : PySem.W.subIn K (.ref C) (.ref D) = some (decide (D = C) || decide (D = B)) := by
  obtain ⟨m1, m2, m3, m4, m5, m6, m7, m8, m9, m10, m11, m12, m13, m14, cl⟩ := T.cls
  have kd : PySem.W.clsIn K C = some ⟨m1, m4, mroE C B, m3, m2, true, m5, m6, m7, m8, false⟩ := by
    unfold PySem.W.clsIn
    rw [cl]
    rfl
  show PySem.W.mroIn K C (.ref D) = _
  unfold PySem.W.mroIn
  rw [kd, Option.bind_some]
  show some ((Value.ref C :: Value.ref B :: tailE).contains (.ref D)) = _
  rw [List.contains_cons, List.contains_cons]
  have t : tailE.contains (.ref D) = false := rfl
  rw [t, Bool.or_false]
  have be : ∀ x y : Addr, ((Value.ref x) == (Value.ref y)) = decide (x = y) := fun x y => by
    by_cases z : x = y
    · subst z; simp
    · rw [decide_eq_false z]
      simpa using z
  rw [be, be]
/-- isinstance of one of the package's errors -/
theorem kit_err {K : PySem.W.Frag} {C D B : Addr} (T : ErrC K C B) (hd : PySem.W.hasDictIn K D = true) (ty : PySem.W.typeIn K (.ref D) = some (.type "type")) : PySem.W.kitOne K (.ref C) (.ref D) = some (decide (D = C) || decide (D = B)) :=
  kit_sub (T.sub D) (by rw [T.sub C]; simp) hd ty
end Z

/-! W2: errors made, as values and to be raised; a second field. -/
namespace Z
open PySem PySem.Spec PyProof.Rows L2

section
open PySem.W PySem.Calls PySem.HandSPX Builtin Builtin.ObjectAttr
variable {prog : Program} {w : World} {A : Around} {R : Result → Shared → Prop} {hp : Heap} {g : Array GenState} {d : Drawn} {t : Nat} {os : OsState}
/-- a further field of an error -/
theorem next_field {K : PySem.W.Frag} {nm : Str} {tk : Tok} {v : Value} {x C B dx : Addr} {fv : Array Value} {cd : ClassData} {m0 : Str → Option Value} {nl : List Str} (inK : K.In hp) (here : hp.get? x = some { cls := .ref C, dict := some dx, data := .fields fv })
    (names : hp.Ns1 dx m0) (few : Within m0 nl) (hz : nl.length ≤ 1000) (kd : PySem.W.clsIn K C = some cd) (mro : cd.mro = mroE C B) (has : cd.hasDict = true) (own : PySem.W.findIn K (.ref C) nm = some none)
    (done : ∀ h' tk', (∀ b o, b ≠ dx → hp.get? b = some o → h'.get? b = some o) → h'.Ns1 dx (fun y => if y = nm then some v else m0 y) → R (.ok (.ret .none)) ⟨h', g, d, tk', os⟩) :
    codeAny (model prog w) A (.call (.builtin "object.__setattr__") ⟨[.ref x, .str nm tk, v], []⟩) R ⟨hp, g, d, t, os⟩ := by
  obtain ⟨oD, esD, epD, hoD, hdD, _⟩ := names.count few
  have at0 : PySem.W.InstAt hp x { cls := .ref C, dict := some dx, data := .fields fv } C (some oD) := ⟨here, rfl, rfl, hoD⟩
  have obj : cd.mro.contains (.type "object") = true := by rw [mro, mroE_has]; decide +kernel
  have isObj : PySem.W.Looks (model prog w) hp (isInstance (.ref x) (.type "object")) true :=
    at0.type.andThen (PySem.W.looks_mroIn inK (by unfold PySem.W.mroIn; rw [kd, Option.bind_some, if_neg (by rw [mro]; exact Bool.false_ne_true), obj]))
  have St := PySem.F.store_object
  apply codeAny_call_builtin St.slot.plain St.entry
  apply @PySem.W.check_slot (model prog w) _ _ ⟨hp, g, d, t, os⟩ "object.__setattr__" "object" "__setattr__" (.ref x) [.str nm tk, v] [] _ St.kind St.split isObj (St.args (.ref x) (.str nm tk) v)
  have theMro : PySem.W.Looks (model prog w) hp (mroOf (.ref C)) cd.mro := PySem.W.Looks.andThen (PySem.W.looks_clsIn inK kd) .now
  have noTaker : PySem.W.Looks (model prog w) hp (storeTaker? none) none := .now
  have theCls : PySem.W.Looks (model prog w) hp (classData C) cd := PySem.W.looks_clsIn inK kd
  rw [PySem.W.osa_eq, refuse_eq]
  apply wpAny_bind
  apply wpAny_bind
  apply at0.type.at
  apply wpAny_bind
  apply theMro.at
  rw [mro, mroE_pass]
  apply wpAny_pure
  apply wpAny_bind
  apply at0.type.at
  apply wpAny_bind
  apply PySem.W.Looks.at (PySem.W.looks_findIn inK own)
  apply wpAny_bind
  apply noTaker.at
  show wpAny _ _ (storeInOwnDict (.ref x) (.ref C) (.str nm tk) nm v false) _ _ _
  cases cd with
  | mk n1 n2 n3 n4 n5 n6 n7 n8 n9 n10 n11 =>
    have n6t : n6 = true := has
    subst n6t
    unfold storeInOwnDict ownDictForStores
    repeat (first | with_reducible refine PySem.OEX.store_in_old names few hz ?_ | with_reducible refine wpAny_loadPart_at here ?_ | with_reducible refine theCls.at ?_ | wp_step)
    intro h' tk' hn' but
    exact done h' tk' (fun b o nb ob => (but.2 b nb).trans ob) hn'
end
section
variable {X : Cx} {pins : List (Addr × Obj)} {σ : L2.St} {H : Hp} {s : Shared} {a C B dx : Addr} {E : Value → Shared → Prop} {A : Around} {fs : List (Str × V)}
/-- self.f = y, a further one -/
theorem err_more {f : Str} {y : V} {u : Value} {Q : Unit → Shared → Prop} (T : ErrC X.K C B) (I : Inv X pins σ H s) (e : H a = some (exo a C (some dx))) (ed : H dx = some (exd dx fs)) (few : fs.length ≤ 900) (own : PySem.W.findIn X.K (.ref C) f = some none) (ry : RelV y u)
    (h : ∀ s', Inv X pins σ (upd H dx (exd dx ((f, y) :: fs))) s' → Q () s') : wpAny (model X.prog X.w) A (setAttr (.ref a) f u) Q E s := by
  obtain ⟨m1, m2, m3, m4, m5, m6, m7, m8, m9, m10, m11, m12, m13, m14, cl⟩ := T.cls
  have kd : PySem.W.clsIn X.K C = some ⟨m1, m4, mroE C B, m3, m2, true, m5, m6, m7, m8, false⟩ := by
    unfold PySem.W.clsIn
    rw [cl]
    rfl
  obtain ⟨old, here⟩ := exo_at I.hok e
  obtain ⟨mA, names, rel⟩ := exd_at I.hok ed
  have wi := within_of rel
  cases s with
  | mk hp g d t os =>
    obtain ⟨oD, _, _, hoD, _, _⟩ := names.count wi
    apply PySem.W.set_plain I.kIn (ox := { cls := .ref C, dict := some dx, data := .fields #[.ref old, .none, .none, .none, .bool false, .none] }) (od := some oD) ⟨here, rfl, rfl, hoD⟩ T.sa
    apply next_field I.kIn here names wi (by rw [List.length_map]; omega) kd rfl rfl own
    intro h' tk' keep ns
    have there : ∃ o, h'.get? dx = some o := by
      obtain ⟨o, _, _, q, _⟩ := ns
      exact ⟨o, q⟩
    exact h _ (I.write (t' := tk') (x := dx) (e := dx) (o := exd dx ((f, y) :: fs)) (by rw [ed]; exact True.intro) (Or.inl rfl) keep there (exd_ok ns (relO_put ry rel)))
end
section
variable {X : Cx} {pins : List (Addr × Obj)} {σ : L2.St}
/-- self.f = e, a further field -/
def tErrM (K : PySem.W.Frag) (f : Str) (to te : TE) : TS := fun D σ H => te σ H fun y H1 => to σ H1 fun x H2 => ∃ (a C B dx : Addr) (fs : List (Str × V)), x = .ref a ∧ ErrC K C B ∧ PySem.W.findIn K (.ref C) f = some none ∧ H2 a = some (exo a C (some dx)) ∧ H2 dx = some (exd dx fs) ∧ fs.length ≤ 900 ∧
  D.nx σ (upd H2 dx (exd dx ((f, y) :: fs)))
theorem ps_errM {o e : Expr} {to te : TE} {f : Str} {p' pos : Pos} (ho : PE X o to) (he : PE X e te) (hs : swapsWith e (some (.Attribute o f p')) pos.line X.env = pure false := by rfl) : PS X (.Assign [.Attribute o f p'] e pos) (tErrM X.K f to te) := by
  constructor
  intro pins s σ H D I h
  apply plainObj_wpAny_Assign_Attribute _ hs
  apply thn (he.run pins s σ H _ I h)
  rintro v s1 ⟨y, H1, I1, r1, q1⟩
  apply thn (ho.run pins s1 σ H1 _ I1 q1)
  rintro u s2 ⟨x, H2, I2, r2, a, C, B, dx, fs, rfl, T, own, ea, ed, few, q⟩
  obtain rfl : u = Value.ref a := r2
  exact err_more T I2 ea ed few own r1 fun s' J => ⟨σ, _, J, q⟩
/-- what the __init__ of an error with two fields leaves -/
def spIni2 (C : Addr) (f g : Str) : Sp := sp3 fun u v z H Q _ => ∃ a, u = .ref a ∧ H a = some (exo a C none) ∧ ∀ dx, H dx = none → dx ≠ a → Q .non (upd (upd (upd H dx (exd dx [(f, v)])) a (exo a C (some dx))) dx (exd dx [(g, z), (f, v)]))
/-- behind the making of an error -/
def ErrPost (X : Cx) (pins : List (Addr × Obj)) (σ : L2.St) (s1 : Shared) (H1 : Hp) (C : Addr) (Qf : Addr → Hp → Prop) (u : Value) (s' : Shared) : Prop :=
  ∃ (a : Addr) (s2 : Shared) (H2 : Hp), u = .ref a ∧ s1.heap.objs.size ≤ a ∧ (∀ b o, s1.heap.get? b = some o → s2.heap.get? b = some o) ∧ Inv X pins σ (upd H1 a (exo a C none)) s2 ∧ s'.os = s1.os ∧ s2.os = s1.os ∧ AllBare s'.gens ∧
    Un (frs X.stack) [] (upd H1 a (exo a C none)) H2 s2.heap s'.heap ∧ HOk X.prog X.w H2 s'.heap ∧ Qf a H2
/-- C(..) by place: the call -/
theorem err_call {k : Nat} {fI : Addr} {fd : FuncData} {ps : List Str} {sp : Sp} {C B : Addr} {H1 : Hp} {s1 : Shared} {us : List Value} {vs : List V} {Qf : Addr → Hp → Prop} {R : Value → Shared → Prop} {E : Value → Shared → Prop}
    (T : ErrC X.K C B) (iC : PySem.W.findIn X.K (.ref C) "__init__" = some (some (.ref fI))) (tI : PySem.W.typeIn X.K (.ref fI) = some (.type "function")) (F1 : FnOk X.prog X.w X.K X.mg X.base CX0 k fI fd ps sp) (hr : Room (k + 1) X.A) (hb : Binds X.K fd ps [])
    (I1 : Inv X pins σ H1 s1) (r1 : Vals vs us) (few : vs.length ≤ 1000) (q1 : ∀ a, H1 a = none → sp (.ref a :: vs) (upd H1 a (exo a C none)) (fun v H2 => v = .non ∧ Qf a H2) (fun _ _ _ => False))
    (fin : ∀ u s', ErrPost X pins σ s1 H1 C Qf u s' → R u s') : wpAny (model X.prog X.w) X.A (call (.ref C) us) R E s1 := by
  obtain ⟨_, _, _, _, _, _, _, _, _, _, _, _, _, _, cl⟩ := T.cls
  obtain ⟨hp, g, dr, tk, os⟩ := s1
  have later : hp.objs.size ≤ hp.objs.size + 1 := Nat.le_succ _
  have q2 := q1 _ (I1.hok.fresh later)
  have more : ∀ b o, hp.get? b = some o → ((hp.push (PySem.W.kdv_tup us)).push (PySem.HandSPX.excO C hp.objs.size)).get? b = some o := fun _ _ z => Heap.get?_push_of_some _ (Heap.get?_push_of_some _ z)
  have new : ((hp.push (PySem.W.kdv_tup us)).push (PySem.HandSPX.excO C hp.objs.size)).get? (hp.objs.size + 1) = some (PySem.HandSPX.excO C hp.objs.size) := by heap_get
  have I2 := I1.laid (t' := tk) (o := exo (hp.objs.size + 1) C none) more later (exo_ok new)
  have r2 : Vals (V.ref (hp.objs.size + 1) :: vs) (Value.ref (hp.objs.size + 1) :: us) := .cons rfl r1
  have len : (Value.ref (hp.objs.size + 1) :: us).length = ps.length := r2.length.symm.trans (F1.len _ _ _ _ q2)
  have bind := hb _ (Value.ref (hp.objs.size + 1) :: us) I2.kIn (by simpa using len)
  rw [List.append_nil] at bind
  have fit : us.length ≤ sizeLine := by
    rw [← Paired.length r1, sizeLine_eq]
    omega
  apply wpAny_call
  apply PySem.HandSPX.call_own PySem.F.excBase_Exception (fun Y => by rw [List.contains_cons]; rfl) (I1.kIn _ _ cl) (PySem.W.looks_findIn I1.kIn iC) (fun self => PySem.W.bind_fn I1.kIn self tI) fit
  refine codeAny_mono (F1.run _ X.stack _ _ ⟨Value.ref (hp.objs.size + 1) :: us, []⟩ _ _ _ (fun _ _ _ => False) (hr.make C us []) (I2.env0.make C us []) bind r2 q2) ?_
  intro r s' z
  match r, s', z with
  | .error er, s', z => exact (show False from z).elim
  | .ok (.ret u), ⟨h2, g2, d2, t2, os'⟩, ⟨v, H2, sos, sbare, sun, sok, rv, ev, q3⟩ =>
    subst ev
    exact ⟨rv, fin _ _ ⟨_, _, H2, rfl, later, more, I2, sos, rfl, sbare, sun, sok, q3⟩⟩
  | .ok .next, _, z => exact False.elim z
  | .ok .brk, _, z => exact False.elim z
  | .ok .cont, _, z => exact False.elim z
/-- C(k=..): the call -/
theorem err_callK {k : Nat} {fI : Addr} {fd : FuncData} {ps ks : List Str} {g : {α : Type} → List α → List α} {sp : Sp} {C B : Addr} {H1 : Hp} {s1 : Shared} {us : List Value} {vs : List V} {Qf : Addr → Hp → Prop} {R : Value → Shared → Prop} {E : Value → Shared → Prop}
    (T : ErrC X.K C B) (iC : PySem.W.findIn X.K (.ref C) "__init__" = some (some (.ref fI))) (tI : PySem.W.typeIn X.K (.ref fI) = some (.type "function")) (F1 : FnOk X.prog X.w X.K X.mg X.base CX0 k fI fd ps sp) (hr : Room (k + 1) X.A)
    (hb : ∀ (s : Shared) (self : Value) (ws : List Value), (g ws).length + 1 = ps.length → BindsTo s fd ⟨[self], ks.zip ws⟩ (ps.zip (self :: g ws))) (hrel : ∀ {zs : List V} {ws : List Value}, Vals zs ws → Vals (g zs) (g ws))
    (I1 : Inv X pins σ H1 s1) (r1 : Vals vs us) (q1 : ∀ a, H1 a = none → sp (.ref a :: g vs) (upd H1 a (exo a C none)) (fun v H2 => v = .non ∧ Qf a H2) (fun _ _ _ => False))
    (fin : ∀ u s', ErrPost X pins σ s1 H1 C Qf u s' → R u s') : codeAny (model X.prog X.w) X.A (.call (.ref C) ⟨[], ks.zip us⟩) (fun r s' => match r with | .ok (.ret v) => R v s' | .ok _ => False | .error e => E e s') s1 := by
  obtain ⟨_, _, _, _, _, _, _, _, _, _, _, _, _, _, cl⟩ := T.cls
  obtain ⟨hp, gg, dr, tk, os⟩ := s1
  have later : hp.objs.size ≤ hp.objs.size + 1 := Nat.le_succ _
  have q2 := q1 _ (I1.hok.fresh later)
  have more : ∀ b o, hp.get? b = some o → ((hp.push (PySem.W.kdv_tup [])).push (PySem.HandSPX.excO C hp.objs.size)).get? b = some o := fun _ _ z => Heap.get?_push_of_some _ (Heap.get?_push_of_some _ z)
  have new : ((hp.push (PySem.W.kdv_tup [])).push (PySem.HandSPX.excO C hp.objs.size)).get? (hp.objs.size + 1) = some (PySem.HandSPX.excO C hp.objs.size) := by heap_get
  have I2 := I1.laid (t' := tk) (o := exo (hp.objs.size + 1) C none) more later (exo_ok new)
  have r2 : Vals (V.ref (hp.objs.size + 1) :: g vs) (Value.ref (hp.objs.size + 1) :: g us) := .cons rfl (hrel r1)
  have len : (Value.ref (hp.objs.size + 1) :: g us).length = ps.length := r2.length.symm.trans (F1.len _ _ _ _ q2)
  have bind := hb { heap := (hp.push (PySem.W.kdv_tup [])).push (PySem.HandSPX.excO C hp.objs.size), gens := gg, drawn := dr, toks := tk, os := os } (Value.ref (hp.objs.size + 1)) us len
  apply PySem.HandSPX.call_kw PySem.F.excBase_Exception (fun Y => by rw [List.contains_cons]; rfl) (I1.kIn _ _ cl) (PySem.W.looks_findIn I1.kIn iC) (fun self => PySem.W.bind_fn I1.kIn self tI)
  refine codeAny_mono (F1.run _ X.stack _ _ ⟨[Value.ref (hp.objs.size + 1)], ks.zip us⟩ _ _ _ (fun _ _ _ => False) (hr.make C [] (ks.zip us)) (I2.env0.make C [] (ks.zip us)) bind r2 q2) ?_
  intro r s' z
  match r, s', z with
  | .error er, s', z => exact (show False from z).elim
  | .ok (.ret u), ⟨h2, g2, d2, t2, os'⟩, ⟨v, H2, sos, sbare, sun, sok, rv, ev, q3⟩ =>
    subst ev
    exact ⟨rv, fin _ _ ⟨_, _, H2, rfl, later, more, I2, sos, rfl, sbare, sun, sok, q3⟩⟩
  | .ok .next, _, z => exact False.elim z
  | .ok .brk, _, z => exact False.elim z
  | .ok .cont, _, z => exact False.elim z
/-- it is a value -/
theorem ErrPost.ep {s1 : Shared} {H1 : Hp} {C : Addr} {Q : VK} {u : Value} {s' : Shared} (h : ErrPost X pins σ s1 H1 C (fun a H2 => Q (.ref a) H2) u s') : EP X pins σ Q u s' := by
  obtain ⟨a, s2, H2, rfl, _, _, I2, o1, o2, ba, un, ok, q⟩ := h
  have ho : s'.os = s2.os := o1.trans o2.symm
  exact ⟨.ref a, H2, I2.call' (ch := []) ho un ok ba (fun b z => absurd z (by simp)), rfl, q⟩
/-- it is raised -/
theorem ErrPost.mk {s1 : Shared} {H1 : Hp} {C B : Addr} {Q : XK} {u : Value} {s' : Shared} (T : ErrC X.K C B) (I1 : Inv X pins σ H1 s1)
    (h : ErrPost X pins σ s1 H1 C (fun a H2 => ∃ (d : Addr) (fs : List (Str × V)), H2 a = some (exo a C (some d)) ∧ H2 d = some (exd d fs) ∧ H1 d = none ∧ Q (.ref C) (some d) (upd (del H2 a) d (.xd fs))) u s') : L2N.MkP X pins σ Q u s' := by
  obtain ⟨a, s2, H2, rfl, ha, k, I2, o1, o2, ba, un, ok, d, fs, ea, ed, hd1, q⟩ := h
  obtain ⟨hp, g1, d1, t1, os1⟩ := s1
  obtain ⟨h2, g2, d2, t2, os2⟩ := s'
  obtain ⟨t0, G, J, kG, ge, hoe, na⟩ := mk_end0 (d2 := d2) (t2 := t2) (g2 := g2) (os2 := os2) I1 ha k un ok o1 ba ea ed hd1
  exact ⟨a, _, _, ⟨G, g2, d2, t2, os2⟩, _, .ref C, some d, rfl, J, kG, ge, hoe, ⟨rfl, rfl, fun vs e => by cases e; rfl⟩, rfl, rfl, na, rfl, ba, raises_own T.exC T.tyC, q⟩
/-! ### one field -/
theorem ert1 {H1 : Hp} {a C dx : Addr} {f : Str} {v : V} (na : H1 a = none) (nd : (upd H1 a (exo a C none)) dx = none) (ne : dx ≠ a) :
    Same H1 (upd (upd (upd H1 a (exo a C none)) dx (exd dx [(f, v)])) a (exo a C (some dx))) ∧ Ert (upd (upd (upd H1 a (exo a C none)) dx (exd dx [(f, v)])) a (exo a C (some dx))) a C [(f, v)] := by
  rw [upd_ne ne] at nd
  refine ⟨fun b o e => ?_, .inr ⟨dx, exo_erA upd_same, .inl ?_⟩⟩
  · rw [upd_ne (ne_of_none e na), upd_ne (ne_of_none e nd), upd_ne (ne_of_none e na)]
    exact e
  · rw [upd_ne ne, upd_same]
theorem raise1 {H1 : Hp} {a C dx : Addr} {f : Str} {v : V} {Q : XK} (na : H1 a = none) (nd : (upd H1 a (exo a C none)) dx = none) (ne : dx ≠ a) (q : Q (.ref C) (some dx) (upd H1 dx (.xd [(f, v)]))) :
    ∃ (d : Addr) (fs : List (Str × V)), (upd (upd (upd H1 a (exo a C none)) dx (exd dx [(f, v)])) a (exo a C (some dx))) a = some (exo a C (some d)) ∧ (upd (upd (upd H1 a (exo a C none)) dx (exd dx [(f, v)])) a (exo a C (some dx))) d = some (exd d fs) ∧ H1 d = none ∧
      Q (.ref C) (some d) (upd (del (upd (upd (upd H1 a (exo a C none)) dx (exd dx [(f, v)])) a (exo a C (some dx))) a) d (.xd fs)) := by
  rw [upd_ne ne] at nd
  refine ⟨dx, [(f, v)], upd_same, by rw [upd_ne ne, upd_same], nd, ?_⟩
  have e : upd (del (upd (upd (upd H1 a (exo a C none)) dx (exd dx [(f, v)])) a (exo a C (some dx))) a) dx (.xd [(f, v)]) = upd H1 dx (.xd [(f, v)]) := by
    funext b
    by_cases z : b = dx
    · rw [z, upd_same, upd_same]
    · rw [upd_ne z, upd_ne z]
      by_cases y : b = a
      · rw [y, del_same, na]
      · rw [del_ne y, upd_ne y, upd_ne z, upd_ne y]
  rw [e]
  exact q
def tE1 (C : Addr) (f : Str) (t : TA) : TE := fun σ H Q => t σ H fun vs H1 => match vs with
  | [v] => ∀ a H2, Same H1 H2 → H1 a = none → Ert H2 a C [(f, v)] → Q (.ref a) H2
  | _ => False
theorem pe_e1 {k : Nat} {x f : Str} {C : Addr} {e : Expr} {t : TA} {p pos : Pos} (R : Er X.prog X.w X.K X.mg X.base k x f C) (hr : Room (k + 1) X.A) (ha : PA X [e] t) (hg : Gl X x := by rfl) (hdb : (x == ("__debug__" : Str)) = false := by decide)
    (he : starEach [e] X.env = (false, eval e X.env) :: starEach [] X.env := by rfl) (hpl : (backTo pos (starEach [] X.env)).any (·.1) = false := by rfl) : PE X (.Call (.Name x p) [e] [] pos) (tE1 C f t) := by
  obtain ⟨B, fI, fd, ps, T, iC, tI, F, hb⟩ := R.ex
  refine ⟨fun pins s σ H Q I h => wpAny_Call_Name_kw (ld_glob I hg R.name (PySem.W.callWith_K (h₀ := X.base) I.ok.mod.kin T.kC (thn (ha.run pos pins s σ H _ I h) fun us s1 ⟨vs, H1, I1, r1, q1⟩ => ⟨I1.kIn, ?_⟩) he hpl) hdb)⟩
  unfold tE1 at h
  dsimp only at q1
  split at q1
  · rename_i v
    exact err_call (Qf := fun a H2 => Q (.ref a) H2) T iC tI F hr hb I1 r1 (by show 1 ≤ 1000; decide) (fun a na => ⟨a, rfl, upd_same, fun dx nd ne => ⟨rfl, by
      obtain ⟨z1, z2⟩ := ert1 (f := f) (v := v) na nd ne
      exact q1 a _ z1 na z2⟩⟩) fun u s' z => z.ep
  · exact q1.elim
/-- an error's class, made by names -/
structure ErK (P : Program) (w : World) (K : PySem.W.Frag) (mg : Str → Option Value) (base : Heap) (k : Nat) (x : Str) (ks : List Str) (g : {α : Type} → List α → List α) (C : Addr) (sp : Sp) : Prop where
  name : mg x = some (.ref C)
  ex : ∃ (B fI : Addr) (fd : FuncData) (ps : List Str), ErrC K C B ∧ PySem.W.findIn K (.ref C) "__init__" = some (some (.ref fI)) ∧ PySem.W.typeIn K (.ref fI) = some (.type "function") ∧ FnOk P w K mg base CX0 k fI fd ps sp ∧
    (∀ (s : Shared) (self : Value) (ws : List Value), (g ws).length + 1 = ps.length → BindsTo s fd ⟨[self], ks.zip ws⟩ (ps.zip (self :: g ws))) ∧ (∀ {zs : List V} {ws : List Value}, Vals zs ws → Vals (g zs) (g ws))
theorem pe_e1K {k : Nat} {x f : Str} {ks : List Str} {C : Addr} {kws : List Keyword} {t : TA} {p pos : Pos} (R : ErK X.prog X.w X.K X.mg X.base k x ks (fun l => l) C (spIni C f)) (hr : Room (k + 1) X.A) (hkw : PK X kws t) (hg : Gl X x := by rfl)
    (hall : (backToKw pos (keywordEach kws X.env)).all (·.1.isSome) = true := by rfl) (hks : (backToKw pos (keywordEach kws X.env)).filterMap (·.1) = ks := by rfl)
    (hdb : (x == ("__debug__" : Str)) = false := by decide) (hpl : ((backTo pos (starEach [] X.env)).any (·.1) || (backToKw pos (keywordEach kws X.env)).any (·.1.isNone)) = false := by rfl) : PE X (.Call (.Name x p) [] kws pos) (tE1 C f t) := by
  obtain ⟨B, fI, fd, ps, T, iC, tI, F, hb, hrel⟩ := R.ex
  refine ⟨fun pins s σ H Q I h => wpAny_Call_Name_kw (ld_glob I hg R.name (PySem.W.callWith_KW0 (h₀ := X.base) I.ok.mod.kin T.kC hall (thn (hkw.run pos pins s σ H _ I h) fun us s1 ⟨vs, H1, I1, r1, q1⟩ => ⟨I1.kIn, ?_⟩) hpl) hdb)⟩
  rw [hks]
  dsimp only at q1
  split at q1
  · rename_i v
    exact wpAny_call (err_callK (g := fun l => l) (Qf := fun a H2 => Q (.ref a) H2) T iC tI F hr hb hrel I1 r1 (fun a na => ⟨a, rfl, upd_same, fun dx nd ne => ⟨rfl, by
      obtain ⟨z1, z2⟩ := ert1 (f := f) (v := v) na nd ne
      exact q1 a _ z1 na z2⟩⟩) fun u s' z => z.ep)
  · exact q1.elim
/-- raise C(e), where nothing is handled -/
def tMk1 (C : Addr) (f : Str) (t : TA) : L2.St → Hp → XK → Prop := fun σ H Q => t σ H fun vs H1 => match vs with
  | [v] => ∀ d H2, Nw H1 d (.xd [(f, v)]) H2 → Q (.ref C) (some d) H2
  | _ => False
theorem pmk1 {k : Nat} {x f : Str} {C : Addr} {e : Expr} {t : TA} {p pos : Pos} (R : Er X.prog X.w X.K X.mg X.base k x f C) (hr : Room (k + 1) X.A) (ha : PA X [e] t) (hg : Gl X x := by rfl) (hdb : (x == ("__debug__" : Str)) = false := by decide)
    (he : starEach [e] X.env = (false, eval e X.env) :: starEach [] X.env := by rfl) (hpl : (backTo pos (starEach [] X.env)).any (·.1) = false := by rfl) : L2N.PMk X (.Call (.Name x p) [e] [] pos) (tMk1 C f t) := by
  obtain ⟨B, fI, fd, ps, T, iC, tI, F, hb⟩ := R.ex
  intro pins s σ H Q I h
  refine wpAny_Call_Name_kw (ld_glob I hg R.name (PySem.W.callWith_K (h₀ := X.base) I.ok.mod.kin T.kC (thn (ha.run pos pins s σ H _ I h) fun us s1 ⟨vs, H1, I1, r1, q1⟩ => ⟨I1.kIn, ?_⟩) he hpl) hdb)
  dsimp only at q1
  split at q1
  · rename_i v
    exact err_call T iC tI F hr hb I1 r1 (by show 1 ≤ 1000; decide) (fun a na => ⟨a, rfl, upd_same, fun dx nd ne => ⟨rfl, raise1 na nd ne (q1 dx _ (nw (by rw [upd_ne ne] at nd; exact nd)))⟩⟩) fun u s' z => z.mk T I1
  · exact q1.elim
theorem pmk1K {k : Nat} {x f : Str} {ks : List Str} {C : Addr} {kws : List Keyword} {t : TA} {p pos : Pos} (R : ErK X.prog X.w X.K X.mg X.base k x ks (fun l => l) C (spIni C f)) (hr : Room (k + 1) X.A) (hkw : PK X kws t) (hg : Gl X x := by rfl)
    (hall : (backToKw pos (keywordEach kws X.env)).all (·.1.isSome) = true := by rfl) (hks : (backToKw pos (keywordEach kws X.env)).filterMap (·.1) = ks := by rfl)
    (hdb : (x == ("__debug__" : Str)) = false := by decide) (hpl : ((backTo pos (starEach [] X.env)).any (·.1) || (backToKw pos (keywordEach kws X.env)).any (·.1.isNone)) = false := by rfl) : L2N.PMk X (.Call (.Name x p) [] kws pos) (tMk1 C f t) := by
  obtain ⟨B, fI, fd, ps, T, iC, tI, F, hb, hrel⟩ := R.ex
  intro pins s σ H Q I h
  refine wpAny_Call_Name_kw (ld_glob I hg R.name (PySem.W.callWith_KW0 (h₀ := X.base) I.ok.mod.kin T.kC hall (thn (hkw.run pos pins s σ H _ I h) fun us s1 ⟨vs, H1, I1, r1, q1⟩ => ⟨I1.kIn, ?_⟩) hpl) hdb)
  rw [hks]
  dsimp only at q1
  split at q1
  · rename_i v
    exact wpAny_call (err_callK (g := fun l => l) T iC tI F hr hb hrel I1 r1 (fun a na => ⟨a, rfl, upd_same, fun dx nd ne => ⟨rfl, raise1 na nd ne (q1 dx _ (nw (by rw [upd_ne ne] at nd; exact nd)))⟩⟩) fun u s' z => z.mk T I1)
  · exact q1.elim
/-! ### two fields -/
theorem two_eq {H1 : Hp} {a C dx : Addr} {f g : Str} {v z : V} (ne : dx ≠ a) : upd (upd (upd (upd H1 a (exo a C none)) dx (exd dx [(f, v)])) a (exo a C (some dx))) dx (exd dx [(g, z), (f, v)]) = upd (upd H1 a (exo a C (some dx))) dx (exd dx [(g, z), (f, v)]) := by
  funext b
  by_cases y : b = dx
  · rw [y, upd_same, upd_same]
  · rw [upd_ne y, upd_ne y]
    by_cases y2 : b = a
    · rw [y2, upd_same, upd_same]
    · rw [upd_ne y2, upd_ne y, upd_ne y2, upd_ne y2]
theorem ert2 {H1 : Hp} {a C dx : Addr} {f g : Str} {v z : V} (na : H1 a = none) (nd : (upd H1 a (exo a C none)) dx = none) (ne : dx ≠ a) :
    Same H1 (upd (upd (upd (upd H1 a (exo a C none)) dx (exd dx [(f, v)])) a (exo a C (some dx))) dx (exd dx [(g, z), (f, v)])) ∧ Ert (upd (upd (upd (upd H1 a (exo a C none)) dx (exd dx [(f, v)])) a (exo a C (some dx))) dx (exd dx [(g, z), (f, v)])) a C [(g, z), (f, v)] := by
  rw [upd_ne ne] at nd
  rw [two_eq ne]
  refine ⟨fun b o e => ?_, .inr ⟨dx, exo_erA (by rw [upd_ne ne.symm, upd_same]), .inl upd_same⟩⟩
  rw [upd_ne (ne_of_none e nd), upd_ne (ne_of_none e na)]
  exact e
theorem raise2 {H1 : Hp} {a C dx : Addr} {f g : Str} {v z : V} {Q : XK} (na : H1 a = none) (nd : (upd H1 a (exo a C none)) dx = none) (ne : dx ≠ a) (q : Q (.ref C) (some dx) (upd H1 dx (.xd [(g, z), (f, v)]))) :
    ∃ (d : Addr) (fs : List (Str × V)), (upd (upd (upd (upd H1 a (exo a C none)) dx (exd dx [(f, v)])) a (exo a C (some dx))) dx (exd dx [(g, z), (f, v)])) a = some (exo a C (some d)) ∧ (upd (upd (upd (upd H1 a (exo a C none)) dx (exd dx [(f, v)])) a (exo a C (some dx))) dx (exd dx [(g, z), (f, v)])) d = some (exd d fs) ∧ H1 d = none ∧
      Q (.ref C) (some d) (upd (del (upd (upd (upd (upd H1 a (exo a C none)) dx (exd dx [(f, v)])) a (exo a C (some dx))) dx (exd dx [(g, z), (f, v)])) a) d (.xd fs)) := by
  rw [upd_ne ne] at nd
  rw [two_eq ne]
  refine ⟨dx, [(g, z), (f, v)], by rw [upd_ne ne.symm, upd_same], upd_same, nd, ?_⟩
  have e : upd (del (upd (upd H1 a (exo a C (some dx))) dx (exd dx [(g, z), (f, v)])) a) dx (.xd [(g, z), (f, v)]) = upd H1 dx (.xd [(g, z), (f, v)]) := by
    funext b
    by_cases y : b = dx
    · rw [y, upd_same, upd_same]
    · rw [upd_ne y, upd_ne y]
      by_cases y2 : b = a
      · rw [y2, del_same, na]
      · rw [del_ne y2, upd_ne y, upd_ne y2]
  rw [e]
  exact q
/-- an error's class of two fields, under its name -/
structure Er2 (P : Program) (w : World) (K : PySem.W.Frag) (mg : Str → Option Value) (base : Heap) (k : Nat) (x f g : Str) (C : Addr) : Prop where
  name : mg x = some (.ref C)
  ex : ∃ (B fI : Addr) (fd : FuncData) (ps : List Str), ErrC K C B ∧ PySem.W.findIn K (.ref C) "__init__" = some (some (.ref fI)) ∧ PySem.W.typeIn K (.ref fI) = some (.type "function") ∧ FnOk P w K mg base CX0 k fI fd ps (spIni2 C f g) ∧ Binds K fd ps []
def tE2 (C : Addr) (f g : Str) (h : {α : Type} → List α → List α) (t : TA) : TE := fun σ H Q => t σ H fun vs H1 => match h vs with
  | [v, z] => ∀ a H2, Same H1 H2 → H1 a = none → Ert H2 a C [(g, z), (f, v)] → Q (.ref a) H2
  | _ => False
theorem pe_e2 {k : Nat} {x f g : Str} {C : Addr} {e e2 : Expr} {t : TA} {p pos : Pos} (R : Er2 X.prog X.w X.K X.mg X.base k x f g C) (hr : Room (k + 1) X.A) (ha : PA X [e, e2] t) (hg : Gl X x := by rfl) (hdb : (x == ("__debug__" : Str)) = false := by decide)
    (he : starEach [e, e2] X.env = (false, eval e X.env) :: starEach [e2] X.env := by rfl) (hpl : (backTo pos (starEach [e2] X.env)).any (·.1) = false := by rfl) : PE X (.Call (.Name x p) [e, e2] [] pos) (tE2 C f g (fun l => l) t) := by
  obtain ⟨B, fI, fd, ps, T, iC, tI, F, hb⟩ := R.ex
  refine ⟨fun pins s σ H Q I h => wpAny_Call_Name_kw (ld_glob I hg R.name (PySem.W.callWith_K (h₀ := X.base) I.ok.mod.kin T.kC (thn (ha.run pos pins s σ H _ I h) fun us s1 ⟨vs, H1, I1, r1, q1⟩ => ⟨I1.kIn, ?_⟩) he hpl) hdb)⟩
  dsimp only at q1
  split at q1
  · rename_i v z
    exact err_call (Qf := fun a H2 => Q (.ref a) H2) T iC tI F hr hb I1 r1 (by show 2 ≤ 1000; decide) (fun a na => ⟨a, rfl, upd_same, fun dx nd ne => ⟨rfl, by
      obtain ⟨z1, z2⟩ := ert2 (f := f) (g := g) (v := v) (z := z) na nd ne
      exact q1 a _ z1 na z2⟩⟩) fun u s' z => z.ep
  · exact q1.elim
theorem pe_e2K {k : Nat} {x f g : Str} {ks : List Str} {h : {α : Type} → List α → List α} {C : Addr} {kws : List Keyword} {t : TA} {p pos : Pos} (R : ErK X.prog X.w X.K X.mg X.base k x ks h C (spIni2 C f g)) (hr : Room (k + 1) X.A) (hkw : PK X kws t) (hg : Gl X x := by rfl)
    (hall : (backToKw pos (keywordEach kws X.env)).all (·.1.isSome) = true := by rfl) (hks : (backToKw pos (keywordEach kws X.env)).filterMap (·.1) = ks := by rfl)
    (hdb : (x == ("__debug__" : Str)) = false := by decide) (hpl : ((backTo pos (starEach [] X.env)).any (·.1) || (backToKw pos (keywordEach kws X.env)).any (·.1.isNone)) = false := by rfl) : PE X (.Call (.Name x p) [] kws pos) (tE2 C f g h t) := by
  obtain ⟨B, fI, fd, ps, T, iC, tI, F, hb, hrel⟩ := R.ex
  refine ⟨fun pins s σ H Q I hh => wpAny_Call_Name_kw (ld_glob I hg R.name (PySem.W.callWith_KW0 (h₀ := X.base) I.ok.mod.kin T.kC hall (thn (hkw.run pos pins s σ H _ I hh) fun us s1 ⟨vs, H1, I1, r1, q1⟩ => ⟨I1.kIn, ?_⟩) hpl) hdb)⟩
  rw [hks]
  dsimp only at q1
  split at q1
  · rename_i v z ev
    refine wpAny_call (err_callK (g := h) (Qf := fun a H2 => Q (.ref a) H2) T iC tI F hr hb hrel I1 r1 (fun a na => ?_) fun u s' z => z.ep)
    rw [ev]
    refine ⟨a, rfl, upd_same, fun dx nd ne => ⟨rfl, ?_⟩⟩
    obtain ⟨z1, z2⟩ := ert2 (f := f) (g := g) (v := v) (z := z) na nd ne
    exact q1 a _ z1 na z2
  · exact q1.elim
def tMk2 (C : Addr) (f g : Str) (h : {α : Type} → List α → List α) (t : TA) : L2.St → Hp → XK → Prop := fun σ H Q => t σ H fun vs H1 => match h vs with
  | [v, z] => ∀ d H2, Nw H1 d (.xd [(g, z), (f, v)]) H2 → Q (.ref C) (some d) H2
  | _ => False
theorem pmk2K {k : Nat} {x f g : Str} {ks : List Str} {h : {α : Type} → List α → List α} {C : Addr} {kws : List Keyword} {t : TA} {p pos : Pos} (R : ErK X.prog X.w X.K X.mg X.base k x ks h C (spIni2 C f g)) (hr : Room (k + 1) X.A) (hkw : PK X kws t) (hg : Gl X x := by rfl)
    (hall : (backToKw pos (keywordEach kws X.env)).all (·.1.isSome) = true := by rfl) (hks : (backToKw pos (keywordEach kws X.env)).filterMap (·.1) = ks := by rfl)
    (hdb : (x == ("__debug__" : Str)) = false := by decide) (hpl : ((backTo pos (starEach [] X.env)).any (·.1) || (backToKw pos (keywordEach kws X.env)).any (·.1.isNone)) = false := by rfl) : L2N.PMk X (.Call (.Name x p) [] kws pos) (tMk2 C f g h t) := by
  obtain ⟨B, fI, fd, ps, T, iC, tI, F, hb, hrel⟩ := R.ex
  intro pins s σ H Q I hh
  refine wpAny_Call_Name_kw (ld_glob I hg R.name (PySem.W.callWith_KW0 (h₀ := X.base) I.ok.mod.kin T.kC hall (thn (hkw.run pos pins s σ H _ I hh) fun us s1 ⟨vs, H1, I1, r1, q1⟩ => ⟨I1.kIn, ?_⟩) hpl) hdb)
  rw [hks]
  dsimp only at q1
  split at q1
  · rename_i v z ev
    refine wpAny_call (err_callK (g := h) T iC tI F hr hb hrel I1 r1 (fun a na => ?_) fun u s' z => z.mk T I1)
    rw [ev]
    exact ⟨a, rfl, upd_same, fun dx nd ne => ⟨rfl, raise2 na nd ne (q1 dx _ (nw (by rw [upd_ne ne] at nd; exact nd)))⟩⟩
  · exact q1.elim
/-! ### none -/
def tE0 (C : Addr) : TE := fun _ H Q => ∀ a H2, Same H H2 → H a = none → Ert H2 a C [] → Q (.ref a) H2
theorem pe_e0 {x : Str} {C : Addr} {p pos : Pos} (R : Er0 X.K X.mg x C) (hg : Gl X x := by rfl) (hdb : (x == ("__debug__" : Str)) = false := by decide) : PE X (.Call (.Name x p) [] [] pos) (tE0 C) := by
  refine ⟨fun pins s σ H Q I h => ?_⟩
  refine wpAny_Call_Name_kw (ld_glob I hg R.name ?_ hdb)
  refine PySem.W.callWith_K0 (first := []) I.kIn R.kC ?_
  obtain ⟨hp, g, d, t, os⟩ := s
  show wpAny _ _ (call (.ref C) []) _ _ _
  obtain ⟨bm, N, nm, qn, bs, hdct, sn, sub, ab, col, dd, k0, k1, k2, k3, k5, mN, hC, hN, hni, T⟩ := exc_obj I.kIn R.q
  refine wpAny_call_exc_subT PySem.F.excBase_Exception T hC hN hni (fun h' e hm => ?_) (by show 0 ≤ sizeLine; exact Nat.zero_le _)
  obtain ⟨t1, he, _, _⟩ := hm.there
  have na : H e = none := I.hok.gone hm.new
  exact ⟨.ref e, _, I.laidN (t' := t) (o := exo e C none) hm.keeps hm.new na (exo_ok he), rfl, h e _ (nw na).same na (.inl ⟨rfl, exo_erA upd_same⟩)⟩
theorem pmk0 {x : Str} {C : Addr} {p pos : Pos} (R : Er0 X.K X.mg x C) (hg : Gl X x := by rfl) (hdb : (x == ("__debug__" : Str)) = false := by decide) : L2N.PMk X (.Call (.Name x p) [] [] pos) (fun _ H Q => Q (.ref C) none H) := by
  intro pins s σ H Q I h
  refine wpAny_Call_Name_kw (ld_glob I hg R.name ?_ hdb)
  refine PySem.W.callWith_K0 (first := []) I.kIn R.kC ?_
  obtain ⟨hp, g, d, t, os⟩ := s
  show wpAny _ _ (call (.ref C) []) _ _ _
  obtain ⟨bm, N, nm, qn, bs, hdct, sn, sub, ab, col, dd, k0, k1, k2, k3, k5, mN, hC, hN, hni, T⟩ := exc_obj I.kIn R.q
  refine wpAny_call_exc_subT PySem.F.excBase_Exception T hC hN hni (fun h' e hm => ?_) (by show 0 ≤ sizeLine; exact Nat.zero_le _)
  exact L2N.mk_of I hm (raises_own R.exC R.tyC) h (I.hok.gone hm.new)
/-- raise of what is made there -/
theorem ps_rN {W : WX} {e : Expr} {t : L2.St → Hp → XK → Prop} {pos : Pos} (hc : X.calm = true) (tk : L2N.Takes X W) (he : L2N.PMk X e t) : PS X (.Raise (some e) none pos) (fun _ σ H => t σ H fun cls d H' => W cls d σ H') := L2N.ps_raise hc tk he
end
end Z

/-! W3: defs called where an error may be handled. -/
namespace Z
open PySem PySem.Spec PyProof.Rows L2

/-- nothing is handled, or an error that stands in H -/
def Warm (A : Around) (H : Hp) : Prop := A.handled = none ∨ ∃ a C d, A.handled = some (.ref a) ∧ ErA H a C d
theorem Warm.same {A : Around} {H H2 : Hp} (h : Warm A H) (s : Same H H2) : Warm A H2 := by
  rcases h with h | ⟨a, C, d, e, q⟩
  · exact .inl h
  · exact .inr ⟨a, C, d, e, q.same s⟩
theorem Warm.hot {X : Cx} {pins : List (Addr × Obj)} {σ : L2.St} {H : Hp} {s : Shared} {A : Around} (h : Warm A H) (I : Inv X pins σ H s) : A.handled = none ∨ ∃ x1, HotX.HotAt A x1 s.heap := by
  rcases h with h | ⟨a, C, d, e, q⟩
  · exact .inl h
  · obtain ⟨oe, vs, e1, _, _, e4, e5⟩ := q.at I
    exact .inr ⟨a, e, oe, vs, e1, e4, e5⟩
structure RoomW (k : Nat) (A : Around) : Prop where
  room : L2H.RoomH k A
  free : A.guards = some []
theorem RoomW.mono {j k : Nat} {A : Around} (r : RoomW k A) (h : j ≤ k) : RoomW j A := ⟨r.room.mono h, r.free⟩
theorem RoomW.down {k : Nat} {A : Around} (r : RoomW (k + 1) A) (env : Env) : RoomW k (A.deeper env) := ⟨r.room.deeper env, r.free⟩
theorem RoomW.units {k : Nat} {A : Around} (r : RoomW k A) : A.units + 64 < cLine := by have := r.room.un; omega
theorem RoomG.w {k : Nat} {A : Around} (r : RoomG k A) : RoomW k A := ⟨L2H.roomH_of r.room, r.free⟩
theorem RoomG.wm {k : Nat} {A : Around} (r : RoomG k A) (h : Option Value) : RoomW k (A.mark h) := ⟨⟨r.room.dp, r.room.un⟩, r.free⟩
/-- the context of such a def's body -/
abbrev cxW (P : Program) (w : World) (K : PySem.W.Frag) (mg : Str → Option Value) (base : Heap) (N : List Str) (qual : Str) (scope : Scope) (f : Addr) (cd : Value) (A : Around) (outer : List Env) (s : Shared) (H : Hp) (E : XK) (p : Addr × Obj) : Cx :=
  { cxOf CX0 P w K mg base N qual scope f cd A outer s H E with calm := false, pn := [p] }
/-- a def's promise there -/
structure FnW (P : Program) (w : World) (K : PySem.W.Frag) (mg : Str → Option Value) (base : Heap) (k : Nat) (f : Addr) (fd : FuncData) (ps : List Str) (sp : Sp) : Prop where
  many : ∀ vs H Q E, sp vs H Q E → vs.length = ps.length
  call : ∀ (A : Around) (outer : List Env) (s : Shared) (H : Hp) (args : Args) (us : List Value) (vs : List V) (Q : VK) (E : XK), RoomW k A → Warm A H → Env0 P w K mg base A outer s H → BindsTo s fd args (ps.zip us) → Vals vs us → sp vs H Q E →
    codeAny (model P w) A (.call (.ref f) args) (CR CX0 outer P w H s Q E) s
structure Cw (P : Program) (w : World) (K : PySem.W.Frag) (mg : Str → Option Value) (base : Heap) (k : Nat) (x : Str) (ps : List Str) (sp : Sp) : Prop where
  ex : ∃ f fd, mg x = some (.ref f) ∧ PySem.W.keepIn K (.ref f) = true ∧ Binds K fd ps [] ∧ FnW P w K mg base k f fd ps sp ∧ ∃ oc od osl, K.lookup f = some ⟨oc, od, .func fd, osl⟩
/-- where nothing is handled -/
theorem Cw.g {P : Program} {w : World} {K : PySem.W.Frag} {mg : Str → Option Value} {base : Heap} {k : Nat} {x : Str} {ps : List Str} {sp : Sp} (C : Cw P w K mg base k x ps sp) : Cg P w K mg base CX0 k x ps sp := by
  obtain ⟨f, fd, a, b, c, F, d⟩ := C.ex
  exact ⟨f, fd, a, b, c, ⟨F.many, fun A outer s H args us vs Q E r => F.call A outer s H args us vs Q E r.w (.inl r.room.hd)⟩, d⟩
section
variable {P : Program} {w : World} {K : PySem.W.Frag} {mg : Str → Option Value} {base : Heap}
theorem fnw {x : Str} {st : Stmt} {f : Addr} {fd : FuncData} {N ps : List Str} {k : Nat} {sp : Sp} (F : Fun K x x st f fd) (S : FnScope N ps (defScope st)) (len : ∀ vs H Q E, sp vs H Q E → vs.length = ps.length)
    (body : ∀ (cdv : Value) (A : Around) (outer : List Env) (s : Shared) (H : Hp) (vs : List V) (Q : VK) (E : XK) (p : Addr × Obj), RoomW k (A.deeper (envOfC x (defScope st) s.heap.objs.size f cdv)) → Warm (A.deeper (envOfC x (defScope st) s.heap.objs.size f cdv)) H → sp vs H Q E →
      ∃ t, PSs (cxW P w K mg base N x (defScope st) f cdv A outer s H E p) (defBody st) t ∧ t { nx := fun _ H' => Q .non H', rt := Q } (start N vs) H) : FnW P w K mg base (k + 1) f fd ps sp := by
  refine ⟨len, fun A outer s H args us vs Q E hr wm e0 hb r h => ?_⟩
  obtain ⟨oc, od, kV, doc, pm, an, cdv, ct, osl, e, lk, hcd⟩ := F.ex
  subst e
  have hl := len _ _ _ _ h
  have grow : ∀ b o, base.get? b = some o → s.heap.get? b = some o := fun b o q => (e0.bs b o q).1
  have inK := e0.mod.kin.keeps grow
  have there := e0.mod.kin _ _ lk
  have hpin : L2H.PinOk outer H s (f, ⟨oc, od, .func (PySem.W.fnOf x x (defArgs st) (defBody st) (defScope st) .none kV doc pm an cdv ct), osl⟩) :=
    ⟨(e0.bs _ _ there).1, (e0.bs _ _ there).2, (fun hm => by
      have := (e0.funs.mem hm).1
      rw [there] at this
      cases this), (fun v z => by cases z)⟩
  obtain ⟨t, ht, hq⟩ := body cdv A outer s H vs Q E _ (hr.down _) wm h
  have seen : ∀ y ∈ ps.zip us, (defScope st).names.lookup y.1 = some .local ∨ ((defScope st).names.lookup y.1 = some .cell ∧ ((cellsFrom (s.heap.objs.size + 1) (defScope st).names []).lookup y.1).isSome = true) := by
    intro y hy
    exact (S.par y.1 (List.of_mem_zip (a := y.1) (b := y.2) hy).1).imp_right fun q => ⟨q, PySem.W.cellsFrom_some _ _ _ (.inl q)⟩
  apply codeAny_call_function hr.room.depth (inK _ _ lk) rfl S.co S.gen rfl (PySem.W.codeRec_of inK hcd)
  apply hb
  apply wpAny_newFunctionEnv_cells S.kind seen
  rintro env rfl s1 x1
  refine And.intro ((e0.mod.nolimit.keeps grow).keeps x1.toInCall.keep) (codeAny_func ?_)
  have I : Inv (cxW P w K mg base N x (defScope st) f cdv A outer s H E _) [] (start N vs) H s1 := L2H.inv_startH (CX := CX0) (E := E) S hpin e0 hl r x1
  refine wpAny_mono (ht.run [] s1 (start N vs) H _ I hq) ?_ (fun _ _ z => z)
  have out : ∀ (s' : Shared) (σ' : L2.St) (H' : Hp) (v : V) (u : Value), Inv (cxW P w K mg base N x (defScope st) f cdv A outer s H E (f, ⟨oc, od, .func (PySem.W.fnOf x x (defArgs st) (defBody st) (defScope st) .none kV doc pm an cdv ct), osl⟩)) [] σ' H' s' → RelV v u → Q v H' → CE outer P w H s Q u s' :=
    fun s' σ' H' v u J rv z => ⟨v, H', J.os, J.bare, J.base, J.hok, rv, z⟩
  intro fl s' hs
  match fl, hs with
  | .ret u, ⟨v, σ', H', J, rv, z⟩ => exact out s' σ' H' v u J rv z
  | .next, ⟨σ', H', J, z⟩ => exact out s' σ' H' .non .none J rfl z
  | .brk, ⟨_, _, _, z⟩ => exact z.elim
  | .cont, ⟨_, _, _, z⟩ => exact z.elim
theorem cw1 {x : Str} {st : Stmt} {a : Str} {N : List Str} {k : Nat} {p : V → Hp → VK → XK → Prop} (D : Df K mg x st [a]) (S : FnScope N [a] (defScope st))
    (body : ∀ (f : Addr) (cdv : Value) (A : Around) (outer : List Env) (s : Shared) (H : Hp) (u : V) (Q : VK) (E : XK) (pp : Addr × Obj), RoomW k (A.deeper (envOfC x (defScope st) s.heap.objs.size f cdv)) → Warm (A.deeper (envOfC x (defScope st) s.heap.objs.size f cdv)) H → p u H Q E →
      ∃ t, PSs (cxW P w K mg base N x (defScope st) f cdv A outer s H E pp).nox (defBody st) t ∧ t { nx := fun _ H' => Q .non H', rt := Q } (start N [u]) H) : Cw P w K mg base (k + 1) x [a] (sp1 p) := by
  obtain ⟨f, fd, F, hm, hb⟩ := D.ex
  refine ⟨f, fd, hm, F.kp, hb, fnw F S (fun vs H Q E h => ?_) (fun cdv A outer s H vs Q E pp hr wm h => ?_), fun_at F⟩
  · obtain ⟨u, rfl, _⟩ := sp1_of h
    rfl
  · obtain ⟨u, rfl, h⟩ := sp1_of h
    obtain ⟨t, a, b⟩ := body f cdv A outer s H u Q E pp hr wm h
    exact ⟨t, a.nox, b⟩
theorem cw2 {x : Str} {st : Stmt} {a b : Str} {N : List Str} {k : Nat} {p : V → V → Hp → VK → XK → Prop} (D : Df K mg x st [a, b]) (S : FnScope N [a, b] (defScope st))
    (body : ∀ (f : Addr) (cdv : Value) (A : Around) (outer : List Env) (s : Shared) (H : Hp) (u v : V) (Q : VK) (E : XK) (pp : Addr × Obj), RoomW k (A.deeper (envOfC x (defScope st) s.heap.objs.size f cdv)) → Warm (A.deeper (envOfC x (defScope st) s.heap.objs.size f cdv)) H → p u v H Q E →
      ∃ t, PSs (cxW P w K mg base N x (defScope st) f cdv A outer s H E pp).nox (defBody st) t ∧ t { nx := fun _ H' => Q .non H', rt := Q } (start N [u, v]) H) : Cw P w K mg base (k + 1) x [a, b] (sp2 p) := by
  obtain ⟨f, fd, F, hm, hb⟩ := D.ex
  refine ⟨f, fd, hm, F.kp, hb, fnw F S (fun vs H Q E h => ?_) (fun cdv A outer s H vs Q E pp hr wm h => ?_), fun_at F⟩
  · obtain ⟨u, v, rfl, _⟩ := sp2_of h
    rfl
  · obtain ⟨u, v, rfl, h⟩ := sp2_of h
    obtain ⟨t, a, b⟩ := body f cdv A outer s H u v Q E pp hr wm h
    exact ⟨t, a.nox, b⟩
end
section
variable {X : Cx} {k : Nat} {x : Str} {ps : List Str} {sp : Sp} {p pos : Pos} {e : Expr} {es : List Expr} {t : TA}
/-- a call of such a def -/
def tCw (A : Around) (sp : Sp) (t : TA) : TE := fun σ H Q => t σ H fun vs H1 => Warm A H1 ∧ sp vs H1 Q (fun _ _ _ => False)
theorem pe_cw (C : Cw X.prog X.w X.K X.mg X.base k x ps sp) (hr : RoomW k X.A) (ha : PA X (e :: es) t) (hg : Gl X x := by rfl)
    (hdb : (x == ("__debug__" : Str)) = false := by decide)
    (he : starEach (e :: es) X.env = (false, eval e X.env) :: starEach es X.env := by rfl) (hpl : (backTo pos (starEach es X.env)).any (·.1) = false := by rfl) : PE X (.Call (.Name x p) (e :: es) [] pos) (tCw X.A sp t) := by
  obtain ⟨f, fd, hm, hk, hb, F, _⟩ := C.ex
  refine ⟨fun pins s σ H Q I h => wpAny_Call_Name_kw (ld_glob I hg hm (PySem.W.callWith_K (h₀ := X.base) I.ok.mod.kin hk (thn (ha.run pos pins s σ H _ I h) fun us s1 ⟨vs, H1, I1, r, wm, q⟩ => ⟨I1.kIn, ?_⟩) he hpl) hdb)⟩
  have hl : us.length = ps.length := r.length.symm.trans (F.many _ _ _ _ q)
  have b := hb s1 us I1.kIn (by simpa using hl)
  rw [List.append_nil] at b
  refine wpAny_call (codeAny_mono (F.call X.A X.stack s1 H1 ⟨us, []⟩ us vs Q (fun _ _ _ => False) hr wm I1.env0 b r q) ?_)
  intro r s' hq
  match r, hq with
  | .error e, hq => exact (show False from hq).elim
  | .ok (.ret u), hq => exact I1.after hq
  | .ok .next, hq => exact False.elim hq
  | .ok .brk, hq => exact False.elim hq
  | .ok .cont, hq => exact False.elim hq
end
end Z

/-! W4: a comprehension over a range where an error may be handled; repr there; try over what was raised where nothing was handled. -/
namespace Z
open PySem PySem.Spec PyProof.Rows L2
section
variable {X : Cx}
/-- the range's end is reached -/
theorem range_over {A : Around} {it : Addr} {x left step : Int} {s : Shared} {Q : Option Value → Shared → Prop} {E : Value → Shared → Prop} {prog : Program} {w : World} (warm : A.handled = none ∨ ∃ x1, HotX.HotAt A x1 s.heap) (hit : IsRangeIter s.heap it x left step) (hl : left ≤ 0)
    (hQ : ∀ h', (∀ b o, b ≠ it → s.heap.get? b = some o → h'.get? b = some o) → Q none { s with heap := h' }) : wpAny (model prog w) A (pyNext (.ref it)) Q E s := by
  rcases warm with hh | ⟨x1, hot⟩
  · exact wpAny_pyNext_range_end hh hit hl fun h' eb => hQ h' fun b o nb e => eb b o nb e
  · exact HotX.pyNext_range_end_hot hot hit hl fun h' kp => hQ h' fun b o _ e => kp b o e
/-- [elt for tg in range(a) if ..] -/
def tLcR (A : Around) (ta : TA) (g : TG) (tt : TT) (te : TE) (vs : List Nat) : TE := fun σ H Q => ta σ H fun xs H1 => ∃ n : Nat, xs = [.int n] ∧ (n : Int) < 2 ^ 62 ∧ ∀ D, H1 D = none → ∃ W : Nat → List V → Hp → Prop, W 0 [] (upd H1 D (.lst [])) ∧ (∀ i acc H2, W i acc H2 → Warm A H2 ∧ H2 D = some (.lst acc) ∧ acc.length < sizeLine) ∧
  (∀ i acc H2, i < n → W i acc H2 → g (.int i) (wipe σ vs) H2 fun σ2 H3 => wipe σ2 vs = wipe σ vs ∧ tt σ2 H3 fun b H4 => if b = true then te σ2 H4 fun y H5 => H5 D = some (.lst acc) ∧ W (i + 1) (acc ++ [y]) (upd H5 D (.lst (acc ++ [y]))) else W (i + 1) acc H4) ∧ ∀ acc H2, W n acc H2 → Q (.ref D) H2
theorem pe_lcR {elt tg a : Expr} {ifs : List Expr} {scope : Scope} {own : List (Str × Nat)} {pos p p2 : Pos} {ta : TA} {g : TG} {tt : TT} {te : TE} (hN : X.N.Nodup) (hgl : Gl X "range") (hm : X.mg "range" = none) (ha : PA X [a] ta) (ok : BlkOk X.N X.env.scope scope own)
    (hg : ∀ (s : Shared) (H : Hp) (C : Addr) (cl : List (Str × Addr)) (fp : List Addr), PG (X.blk s H scope (compEnvC scope cl C X.env) fp) tg g) (ht : ∀ (s : Shared) (H : Hp) (C : Addr) (cl : List (Str × Addr)) (fp : List Addr), PTs (X.blk s H scope (compEnvC scope cl C X.env) fp) ifs tt)
    (he : ∀ (s : Shared) (H : Hp) (C : Addr) (cl : List (Str × Addr)) (fp : List Addr), PE (X.blk s H scope (compEnvC scope cl C X.env) fp) elt te) (hst : starEach [a] X.env = [(false, eval a X.env)] := by rfl)
    (hs : ∀ x, foldedSetIterable (.Call (.Name "range" p) [a] [] p2) X.env x = pure x := by intro _; rfl) :
    PE X (.ListComp elt [⟨tg, .Call (.Name "range" p) [a] [] p2, ifs, 0⟩] scope pos) (tLcR X.A ta g tt te (own.map (·.2))) := by
  constructor
  intro pins s σ H Q I h
  rw [eval_ListComp]
  have caught : ∀ y ∈ scope.names, y.2 = .free → ∃ c, X.env.cells.lookup y.1 = some c := fun y hy e => (ok.free y hy e).elim (fun k => I.ok.has _ (.inl k)) fun k => I.ok.has _ (.inr k)
  refine wpAny_comprehension_free (use := none) rfl hs (closure_ok caught) ok.kind (fun y hy e => by rw [ok.uniq y hy, e]) ?_
  refine Call_ (ld_blt I hgl hm boot_range (PyProof.Rows.callWith_type1 (thn (ha.run p2 pins s σ H _ I h) ?_) hst rfl))
  rintro us s1 ⟨vs, H1, I1, r1, n, rfl, hn, q⟩
  obtain ⟨u1, rfl, t1, rfl⟩ : ∃ u1, us = [u1] ∧ RelV (.int n) u1 := by
    cases r1 with
    | cons r rr => cases rr; exact ⟨_, rfl, r⟩
  refine call_range_1 ?_
  -- the range, its iterator
  have I1a : Inv X pins σ H1 { s1 with heap := s1.heap.push { cls := .type "range", data := .fields #[.int 0 s1.toks, .int n t1, .int 1 (s1.toks + 1)] }, toks := s1.toks + 1 + 1 } := I1.kept fun b o e => Heap.get?_push_of_some _ e
  refine wpAny_pyIter_range (IsRange.new ..) (small_one (by omega) (by omega) (by omega) hn) ?_
  generalize hsa : ({ s1 with heap := s1.heap.push { cls := .type "range", data := .fields #[.int 0 s1.toks, .int n t1, .int 1 (s1.toks + 1)] }, toks := s1.toks + 1 + 1 } : Shared) = sa at I1a ⊢
  have rs : Builtin.Range.rangeSize 0 (n : Int) 1 = (n : Int) := by rw [rangeSize_one]; split <;> omega
  rw [rs]
  have I2 : Inv X pins σ H1 { sa with heap := sa.heap.push { cls := .type "range_iterator", data := .fields #[rawInt 0, rawInt (n : Int), rawInt 1] } } := I1a.kept (t' := sa.toks) fun b o e => Heap.get?_push_of_some _ e
  have st2 : IsRangeIter (sa.heap.push { cls := .type "range_iterator", data := .fields #[rawInt 0, rawInt (n : Int), rawInt 1] }) sa.heap.objs.size 0 (n : Int) 1 := Heap.get?_push_size _ rfl
  have fIt : FpOk X pins H1 sa.heap.objs.size := I1a.fpOk (Nat.le_refl _) (I1a.hok.fresh (Nat.le_refl _))
  have lt2 : sa.heap.objs.size < (sa.heap.push { cls := .type "range_iterator", data := .fields #[rawInt 0, rawInt (n : Int), rawInt 1] }).objs.size := by rw [Heap.size_push]; omega
  generalize hit : sa.heap.objs.size = it at st2 fIt lt2 ⊢
  generalize hs2 : ({ sa with heap := sa.heap.push { cls := .type "range_iterator", data := .fields #[rawInt 0, rawInt (n : Int), rawInt 1] } } : Shared) = s2 at I2 ⊢
  rw [show sa.heap.push { cls := .type "range_iterator", data := .fields #[rawInt 0, rawInt (n : Int), rawInt 1] } = s2.heap by rw [← hs2]] at st2 lt2
  -- the new list
  refine wpAny_newObj_type (newEnv_comp ?_) (by show 0 ≤ sizeLine; decide)
  have free2 : H1 s2.heap.objs.size = none := I2.hok.fresh (Nat.le_refl _)
  obtain ⟨W, w0, facts, turn, done⟩ := q _ free2
  have I3 : Inv X pins σ (upd H1 s2.heap.objs.size (.lst [])) { s2 with heap := s2.heap.push { cls := .type "list", data := .seq ([] : List Value).toArray } } :=
    I2.laid (t' := s2.toks) (fun b o e => Heap.get?_push_of_some _ e) (Nat.le_refl _) ⟨Nat.zero_le _, [], 0, .nil, Heap.get?_push_size _ rfl⟩
  have nD : it ≠ s2.heap.objs.size := Nat.ne_of_lt lt2
  have f3 : FpOk X pins (upd H1 s2.heap.objs.size (.lst [])) it := ⟨by rw [upd_ne nD]; exact fIt.1, fIt.2⟩
  have lt3 : it < (s2.heap.push { cls := .type "list", data := .seq ([] : List Value).toArray }).objs.size := by rw [Heap.size_push]; omega
  have st3 : IsRangeIter (s2.heap.push { cls := .type "list", data := .seq ([] : List Value).toArray }) it 0 (n : Int) 1 := Heap.get?_push_of_some _ st2
  generalize s2.heap.objs.size = D at w0 facts turn done I3 nD f3 ⊢
  generalize hs3 : ({ s2 with heap := s2.heap.push { cls := .type "list", data := .seq ([] : List Value).toArray } } : Shared) = s3 at I3 ⊢
  have h3 : s2.heap.push { cls := .type "list", data := .seq ([] : List Value).toArray } = s3.heap := by rw [← hs3]
  rw [h3] at lt3 st3
  generalize upd H1 D (.lst []) = H3 at w0 I3 f3
  have one : ∀ b ∈ [it], FpOk X pins H3 b ∧ b < s3.heap.objs.size := fun b hb => by rw [List.mem_singleton.mp hb]; exact ⟨f3, lt3⟩
  have I4 := block_start I3 ok hN one
  have pg := hg s3 H3 s3.heap.objs.size (cellsFrom (s3.heap.objs.size + 1) scope.names (cloFrom X.env.cells scope.names [])) [it]
  have pt := ht s3 H3 s3.heap.objs.size (cellsFrom (s3.heap.objs.size + 1) scope.names (cloFrom X.env.cells scope.names [])) [it]
  have pe := he s3 H3 s3.heap.objs.size (cellsFrom (s3.heap.objs.size + 1) scope.names (cloFrom X.env.cells scope.names [])) [it]
  show codeAny _ _ (.compStart (.ListComp elt [⟨tg, .Call (.Name "range" p) [a] [] p2, ifs, 0⟩] scope pos) 0 (.ref it) (.ref D) (compEnvC scope (cellsFrom (s3.heap.objs.size + 1) scope.names (cloFrom X.env.cells scope.names [])) s3.heap.objs.size X.env)) (compPost (model X.prog X.w) X.A X.xe none (EP X pins σ Q) (.ref D) s3.heap.objs.size) { s3 with heap := pushCells (s3.heap.push { cls := .type "dict", data := .dict #[] }) scope.names }
  generalize hce : compEnvC scope (cellsFrom (s3.heap.objs.size + 1) scope.names (cloFrom X.env.cells scope.names [])) s3.heap.objs.size X.env = ce at I4 pg pt pe ⊢
  have cL : ce.locals = s3.heap.objs.size := by subst hce; rfl
  have st4 : IsRangeIter (pushCells (s3.heap.push { cls := .type "dict", data := .dict #[] }) scope.names) it 0 (n : Int) 1 := pushCells_keeps _ _ _ _ (Heap.get?_push_of_some _ st3)
  generalize hs4 : ({ s3 with heap := pushCells (s3.heap.push { cls := .type "dict", data := .dict #[] }) scope.names } : Shared) = s4 at I4 ⊢
  have st4 : IsRangeIter s4.heap it 0 (n : Int) 1 := by rw [← hs4]; exact st4
  have apart : ∀ {pins' : List (Addr × Obj)} {σ' : L2.St} {H' : Hp} {s' : Shared}, Inv (X.blk s3 H3 scope ce [it]) pins' σ' H' s' → it ≠ (X.blk s3 H3 scope ce [it]).env.locals ∧ it ∉ (X.blk s3 H3 scope ce [it]).fs ∧ (∀ x c, (X.blk s3 H3 scope ce [it]).env.cells.lookup x = some c → c ≠ it) := fun {pins' σ' H' s'} J =>
    ⟨(J.ok.exf it (List.mem_singleton.mpr rfl)).1, J.ok.exfs it (List.mem_singleton.mpr rfl), (J.ok.exf it (List.mem_singleton.mpr rfl)).2⟩
  have loop : codeAny (model X.prog X.w) X.A (.compLoop (.ListComp elt [⟨tg, .Call (.Name "range" p) [a] [] p2, ifs, 0⟩] scope pos) 0 (.ref it) (.ref D) ce) (compPost (model X.prog X.w) X.A X.xe none (EP X pins σ Q) (.ref D) s3.heap.objs.size) s4 := by
    refine compLoop_any (fun m s' => ∃ i acc H', m = n - i ∧ i ≤ n ∧ Inv (X.blk s3 H3 scope ce [it]) [] (wipe σ (own.map (·.2))) H' s' ∧ IsRangeIter s'.heap it (i : Int) ((n : Int) - i) 1 ∧ H' it = none ∧ W i acc H') ?_ n ⟨0, [], H3, by omega, Nat.zero_le _, I4, by simpa using st4, f3.1, w0⟩
    rintro m s5 ⟨i, acc, H5, rfl, hi, I5, st5, n5, w5⟩
    obtain ⟨a1, a2, a3⟩ := apart I5
    obtain ⟨wm, hD5, hz5⟩ := facts i acc H5 w5
    have noPins : ∀ p ∈ (X.blk s3 H3 scope ce [it]).pn ++ ([] : List (Addr × Obj)), p.1 ≠ it := fun p hp => by cases hp
    by_cases hlt : i < n
    · refine thnF (wpAny_pyNext_range_item st5 (by omega) fun h' st' sb => ?_) fun r s6 z => z
      have I6 : Inv (X.blk s3 H3 scope ce [it]) [] (wipe σ (own.map (·.2))) H5 { s5 with heap := h', toks := s5.toks + 1 } := I5.turned (fun b o nb e => (sb.2 b nb).trans e) n5 a1 (.inl (List.mem_singleton.mpr rfl)) a3 noPins
      have st6 : IsRangeIter h' it ((i + 1 : Nat) : Int) ((n : Int) - ((i + 1 : Nat) : Int)) 1 := by
        rw [show ((i + 1 : Nat) : Int) = (i : Int) + 1 by omega, show (n : Int) - ((i : Int) + 1) = (n : Int) - i - 1 by omega]
        exact st'
      refine thnF (go_of (s := { s5 with heap := h', toks := s5.toks + 1 }) (n := "range_iterator") st6 rfl rfl (by decide) ?_) fun _ s7 z => z
      have pinIt : ∀ p ∈ [(it, ({ cls := .type "range_iterator", data := .fields #[rawInt ((i + 1 : Nat) : Int), rawInt ((n : Int) - ((i + 1 : Nat) : Int)), rawInt 1] } : Obj))], h'.get? p.1 = some p.2 ∧ H5 p.1 = none ∧ p.1 ≠ (X.blk s3 H3 scope ce [it]).env.locals ∧ p.1 ∉ (X.blk s3 H3 scope ce [it]).fs ∧ ∀ v, p.2.data ≠ .cell v := fun p hp => by
        rw [List.mem_singleton.mp hp]
        exact ⟨st6, n5, a1, a2, fun v z => by cases z⟩
      have I7 := I6.pins_of pinIt
      -- the turn's end
      have fin : ∀ {s' : Shared} {H' : Hp} {σ' : L2.St} {acc' : List V}, Inv (X.blk s3 H3 scope ce [it]) [(it, ({ cls := .type "range_iterator", data := .fields #[rawInt ((i + 1 : Nat) : Int), rawInt ((n : Int) - ((i + 1 : Nat) : Int)), rawInt 1] } : Obj))] σ' H' s' → wipe σ' (own.map (·.2)) = wipe σ (own.map (·.2)) → W (i + 1) acc' H' →
          ∃ m, m < n - i ∧ ∃ i acc H', m = n - i ∧ i ≤ n ∧ Inv (X.blk s3 H3 scope ce [it]) [] (wipe σ (own.map (·.2))) H' s' ∧ IsRangeIter s'.heap it (i : Int) ((n : Int) - i) 1 ∧ H' it = none ∧ W i acc H' := fun {s' H' σ' acc'} J hw wz => by
        obtain ⟨p1, p2, _⟩ := J.pin _ (List.mem_append_right _ (List.mem_singleton.mpr rfl))
        have J0 : Inv (X.blk s3 H3 scope ce [it]) [] σ' H' s' := J.pins_of fun p hp => by cases hp
        have hl : (wipe σ (own.map (·.2))).length = σ'.length := by rw [← hw, wipe_length]
        exact ⟨n - (i + 1), by omega, i + 1, acc', H', rfl, hlt, J0.weak hl (fun j v e => by rw [← hw] at e; exact (wipe_some e).1), p1, p2, wz⟩
      refine thnF (pg.run _ _ _ H5 (.int i) _ _ I7 ⟨_, rfl⟩ (turn i acc H5 hlt w5)) fun _ s8 ⟨σ8, H8, I8, hw8, q8⟩ => ?_
      refine thnF (pt.run _ s8 σ8 H8 _ I8 q8) fun b s9 ⟨H9, I9, q9⟩ => ?_
      cases b with
      | false =>
        simp only [Bool.false_eq_true, if_false] at q9 ⊢
        exact fin I9 hw8 q9
      | true =>
        simp only [if_true] at q9 ⊢
        refine thnF (pe.run _ s9 σ8 H9 _ I9 q9) fun z s10 ⟨yv, H10, I10, r10, hD10, nx⟩ => ?_
        exact app_ok (X := X.blk s3 H3 scope ce [it]) I10 hD10 hz5 r10 fun s11 I11 => fin I11 hw8 nx
    · have ei : i = n := by omega
      subst ei
      refine thnF (range_over (wm.hot I5) st5 (by omega) fun h' kp => ?_) fun r s6 z => z
      have I6 : Inv (X.blk s3 H3 scope ce [it]) [] (wipe σ (own.map (·.2))) H5 { s5 with heap := h' } := I5.turned (t' := s5.toks) kp n5 a1 (.inl (List.mem_singleton.mpr rfl)) a3 noPins
      have I7 : Inv X pins σ H5 { s5 with heap := h' } := I3.call' (ch := [it]) I6.os I6.base I6.hok I6.bare fun b hb => by
        rw [List.mem_singleton.mp hb]
        exact ⟨f3.2.2.2.1, f3.2.1, f3.2.2.2.2.1, f3.2.2.2.2.2⟩
      have nC : H5 s3.heap.objs.size = none := by
        have z : H5 ce.locals = none := I6.free
        rw [cL] at z
        exact z
      obtain ⟨m, ns, _⟩ := I6.loc
      have ns : Heap.Ns h' ce.locals m := ns
      rw [cL] at ns
      refine ⟨m, ns, fun h'' sb => ?_⟩
      obtain ⟨g0, g1, g2, g3, g4, g5⟩ := I3.fpOk (Nat.le_refl _) nC
      exact ⟨.ref D, H5, I7.turned (t' := s5.toks) (fun b o hb e => (sb.2 b hb).trans e) g0 g1 g3 g4 g5, rfl, done acc H5 w5⟩
  exact codeAny_compStart_list loop (wpAny_pyIter_rangeiter st4 loop)
end
/-! ### try -/
section
variable {X : Cx} {pins : List (Addr × Obj)} {σ : L2.St} {H : Hp} {sI s' : Shared} {G : Heap}
/-- back on the ground, the error seen -/
theorem landedE {a C : Addr} {d : Option Addr} {oe : Obj} {vs : Array Value} (I : Inv X pins σ H sI) (apart : ∀ b o, sI.heap.get? b = some o → b ∉ frs X.stack → G.get? b = some o) (st : G.StaysIn s'.heap) (up : sI.heap.UpToSlots s'.heap) (os : s'.os = sI.os) (ag : AllBare s'.gens)
    (na : H a = none) (off : sI.heap.get? a = none) (e1 : s'.heap.get? a = some oe) (e2 : oe.cls = .ref C) (e3 : oe.dict = d) (e4 : oe.data = .fields vs) (e5 : vs[2]? = some .none) : Inv X pins σ (upd H a (errH a C d)) s' := by
  have frame : ∀ b ∈ frs X.stack, ∀ o, sI.heap.get? b = some o → ∃ sl, s'.heap.get? b = some { o with slots := sl } := by
    intro b hb o e
    obtain ⟨_, o', e', hd⟩ := I.stack.mem hb
    rw [e] at e'
    cases e'
    exact up b o e hd
  have other : ∀ {b : Addr} {o : Obj}, sI.heap.get? b = some o → b ≠ a := fun e z => by rw [z, off] at e; cases e
  have ok0 : HOk X.prog X.w H s'.heap := (I.inGround apart).kept st
  have new : ObjOk X.prog X.w (upd H a (errH a C d)) s'.heap a (errH a C d) := by
    refine ⟨⟨oe, vs, e1, e2, e3, e4, e5⟩, ⟨oe, e1⟩, fun h1 h2 z k => ?_⟩
    obtain ⟨o2, v2, z1, z2⟩ := z
    exact ⟨o2, v2, k _ z1, z2⟩
  have J := I.call (ch := []) (h' := s'.heap) (g' := s'.gens) (t' := s'.toks) (d' := s'.drawn) (H' := upd H a (errH a C d))
    ⟨fun b o e _ hb _ => st b o (apart b o e hb), fun b o e _ hb _ => frame b hb o e, fun b o e n _ => by rw [upd_ne (other e)]; exact n, fun b o e _ => by
      by_cases hb : b ∈ frs X.stack
      · obtain ⟨sl, q⟩ := frame b hb o e
        exact ⟨_, q⟩
      · exact ⟨o, st b o (apart b o e hb)⟩, fun b xs e => by rw [upd_ne (ne_of_none e na)]; exact e, fun b o u e => by rw [upd_ne (ne_of_none e na)]; exact e, fun b ps e => ⟨#[], by rw [upd_ne (ne_of_none e na), e]; simp⟩⟩
    (ok0.laidN (fun _ _ e => e) na new) ag (fun _ z => nomatch z)
  obtain ⟨a1, a2, a3, a4, a5⟩ := s'
  obtain rfl : a5 = sI.os := os
  exact J
end
/-- the context of a suite, the error among what is seen -/
theorem Inv_suiteE {X : Cx} {pins : List (Addr × Obj)} {σ : L2.St} {H : Hp} {s : Shared} (I : Inv X pins σ H s) (a : Addr) : Inv (X.suite a (X.pn ++ pins)) [] σ H s :=
  ⟨I.ok.suite _ _, I.os, I.bare, I.base, I.loc, I.cell, I.free, I.freeC, fun p hp => I.pin p (by rw [List.append_nil] at hp; exact hp), I.hok, I.len⟩
theorem Inv_unsuiteE {X : Cx} {pins pn' : List (Addr × Obj)} {σ : L2.St} {H : Hp} {s : Shared} {a : Addr} (I : Inv (X.suite a (X.pn ++ pins)) pn' σ H s) (ok : X.Ok) : Inv X pins σ H s :=
  ⟨ok, I.os, I.bare, I.base, I.loc, I.cell, I.free, I.freeC, fun p hp => I.pin p (List.mem_append_left _ hp), I.hok, I.len⟩
/-- what the clause wishes -/
def wErr (K : PySem.W.Frag) (c : Value) (i : Nat) (ts : Addr → Addr → Option Addr → TS) (Wout : WX) (D : Ends) : WX := fun cls d σ H => ∃ b, PySem.W.exmOne K cls c = some b ∧
  (b = true → ∃ C, cls = .ref C ∧ ∀ a, H a = none → ts a C d (gone i D) (σ.set i (some (.ref a))) (upd H a (errH a C d))) ∧ (b = false → Wout cls d σ H)
theorem ps_tryE {X : Cx} {x n : Str} {c : Value} {i : Nat} {body more : List Stmt} {first : Stmt} {np hpos pos : Pos} {tb : WX → TS} {ts : Addr → Addr → Option Addr → TS} {Wout : WX} (hs : X.stack = X.env :: X.outer) (hf : X.env.frame = some X.env.locals) (hN : X.N.Nodup) (slot : X.N[i]? = some n) (loc : X.env.kindOf n = some .local)
    (names : Names X x c) (tk : L2N.Takes X Wout) (hb : ∀ (W : WX) (pn : List (Addr × Obj)) (xe : Value → Shared → Prop), L2N.Takes (X.tr pn xe) W → PassesOwn (model X.prog X.w) X.A X.env xe → PSs (X.tr pn xe) body (tb W))
    (suite : ∀ (a C : Addr) (d : Option Addr) (pn : List (Addr × Obj)), PSs (X.suite a pn) (first :: more) (ts a C d)) :
    PS X (.Try body [.ExceptHandler (some (.Name x np)) (some n) (first :: more) hpos] [] [] pos) (fun D σ H => tb (wErr X.K c i ts Wout D) D σ H) := by
  constructor
  intro pins s σ H D I h
  have ok := I.ok
  have frames : X.A.frames = some (X.env :: X.outer) := by rw [ok.frames, hs]
  apply wpAny_Try_except
  refine wpAny_mono ((hb (wErr X.K c i ts Wout D) (X.pn ++ pins) (fun e z1 => wpAny (model X.prog X.w) X.A (noteFrame e X.env) (fun _ z2 => wpAny (model X.prog X.w) X.A (setFlight e none) (fun _ z3 =>
    wpAny (model X.prog X.w) X.A (handleBy e X.env [.ExceptHandler (some (.Name x np)) (some n) (first :: more) hpos]) (SP X pins D) X.xe z3) X.xe z2) X.xe z1) ?_ PassesOwn.looking).run [] s σ H D (I.toTry _) h) ?_ (fun _ _ z => z)
  · rintro u s' ⟨a, G, sI, pins', σ1, Ha, cls, d, rfl, Jt, apart, up, sky, na, os, ag, b, ask, yes, no⟩
    have J : Inv X pins σ1 Ha sI := Jt.ofTry ok
    rw [show (X.tr (X.pn ++ pins) _).stack = X.stack from rfl, hs] at sky
    show wpAny (model X.prog X.w) X.A (noteFrame (.ref a) X.env) _ _ _
    apply L2N.Sky.land L2N.Zn.steady frames hf sky
    intro hp fly upp
    have Jh : Inv X pins σ1 Ha { s' with heap := hp } := J.landed apart fly.1 (up.trans upp) os ag
    obtain ⟨oe, fv, here, hz, hd⟩ := fly.there
    have noFrame : a ∉ frs (X.env :: X.outer) := by
      intro m
      obtain ⟨_, o', e', nf⟩ := fly.2.2.1.mem m
      rw [here] at e'
      cases e'
      exact nf _ hd
    have offL : a ≠ X.env.locals := by
      intro z
      apply noFrame
      apply List.mem_filterMap.mpr
      exact ⟨X.env, List.mem_cons_self, by rw [hf, z]⟩
    have offF : a ∉ X.fs := by
      intro m
      obtain ⟨e, he, q⟩ := List.mem_filterMap.mp m
      exact noFrame (List.mem_filterMap.mpr ⟨e, List.mem_cons_of_mem _ he, q⟩)
    have offI : sI.heap.get? a = none := by
      cases e : sI.heap.get? a with
      | none => rfl
      | some o =>
        have q := apart a o e (by show a ∉ frs X.stack; rw [hs]; exact noFrame)
        rw [fly.2.1] at q
        cases q
    have Js := Jh.suite here hd na offL offF
    apply wpAny_handleBy_cons _ (by intro q; cases q)
    apply codeAny_handlers_test
    have looks : PySem.W.Looks (model X.prog X.w) hp (typeOf (.ref a)) cls := fun A Q E z k q => wpAny_typeOf_ref (k _ _ here) (by rw [hz.1]; exact q)
    have named : ∀ {Q : Value → Shared → Prop} {E : Value → Shared → Prop}, Q c { s' with heap := hp } → wpAny (model X.prog X.w) (X.A.mark (some (.ref a))) (eval (.Name x np) X.env) Q E { s' with heap := hp } := by
      intro Q E q
      obtain ⟨hg, hdb, hm | ⟨hm, hv, hnn⟩⟩ := names
      · exact ld_glob (X := X.suite a ((a, oe) :: (X.pn ++ pins))) Js hg hm q hdb
      · exact ld_blt (X := X.suite a ((a, oe) :: (X.pn ++ pins))) Js hg hm hv q hnn hdb
    apply named
    apply (PySem.W.exm_one (M := model X.prog X.w) Jh.kIn looks ask).here
    cases b with
    | false =>
      show wpAny _ X.A (handleBy (.ref a) X.env []) _ _ _
      apply wpAny_handleBy_nil
      obtain ⟨_, _, _, _, _, T, _, _, there, _, dd, one, _⟩ := id fly
      unfold PySem.passOn
      apply wpAny_bind
      apply wpAny_field there dd one
      rw [if_neg (show ¬ ((Value.ref T == Value.none) = true) by simp)]
      have fin : wpAny (model X.prog X.w) X.A (setFlight (.ref a) X.env.frame) (fun _ z => wpAny (model X.prog X.w) X.A (throw (.ref a) : Sem Flow) (SP X pins D) X.xe z) X.xe { s' with heap := hp } := by
        rw [hf]
        apply HandSPX.setFlight_upZ fly
        intro h4 held upq
        apply wpAny_throw
        apply tk
        exact ⟨a, G, sI, pins, σ1, Ha, cls, d, rfl, J, apart, (up.trans upp).trans upq, .inr (.inr (by rw [hs]; exact held)), na, os, ag, no rfl⟩
      first
        | exact wpAny_bind (wpAny_pure (wpAny_bind fin))
        | exact wpAny_bind fin
    | true =>
      apply codeAny_handlers_suite_as
      apply HandSPX.lands_againZ fly
      intro h4 fly4 up4
      obtain ⟨C, rfl, go⟩ := yes rfl
      obtain ⟨oe4, fv4, here4, hz4, hd4⟩ := fly4.there
      have S4 : Inv X pins σ1 (upd Ha a (errH a C d)) { s' with heap := h4 } := landedE J apart fly4.1 ((up.trans upp).trans up4) os ag na offI here4 hz4.1 hz4.2.1 hd4 (hz4.2.2 _ hd4)
      refine store_ok (X := X.suite a (X.pn ++ pins)) (v := .ref a) (Inv_suiteE S4 a) hN slot (.inl loc) rfl ?_ (.inr loc)
      intro s5 S5
      have fin : ∀ {σ6 : L2.St} {H6 : Hp} {s6 : Shared} {Q : Shared → Prop}, Inv (X.suite a (X.pn ++ pins)) [] σ6 H6 s6 → (∀ s7, Inv X pins (σ6.set i none) H6 s7 → Q s7) →
          wpAny (model X.prog X.w) X.A (do bindName X.env n .none; unbindBehindTheSuite X.env n hpos) (fun _ s7 => Q s7) X.xe s6 := fun S6 hq => gone_ok (Inv_unsuiteE S6 ok) hN slot loc hq
      refine wpAny_mono ((suite a C d (X.pn ++ pins)).run [] s5 _ _ _ S5 (go a na)) ?_ (fun _ _ z => False.elim z)
      intro f s6 out
      cases f with
      | next =>
        obtain ⟨_, _, S6, q⟩ := out
        exact fin S6 fun _ J7 => ⟨_, _, J7, q⟩
      | brk =>
        obtain ⟨_, _, S6, q⟩ := out
        exact fin S6 fun _ J7 => ⟨_, _, J7, q⟩
      | cont =>
        obtain ⟨_, _, S6, q⟩ := out
        exact fin S6 fun _ J7 => ⟨_, _, J7, q⟩
      | ret u =>
        obtain ⟨_, _, _, S6, rv, q⟩ := out
        exact fin S6 fun _ J7 => ⟨_, _, _, J7, rv, q⟩
  · intro f s1 out
    cases f with
    | next =>
      obtain ⟨_, _, Jt, q⟩ := out
      exact wpAny_execs_nil ⟨_, _, Jt.ofTry ok, q⟩
    | brk =>
      obtain ⟨_, _, Jt, q⟩ := out
      exact ⟨_, _, Jt.ofTry ok, q⟩
    | cont =>
      obtain ⟨_, _, Jt, q⟩ := out
      exact ⟨_, _, Jt.ofTry ok, q⟩
    | ret u =>
      obtain ⟨_, _, _, Jt, rv, q⟩ := out
      exact ⟨_, _, _, Jt.ofTry ok, rv, q⟩
/-- repr(x), where an error may be handled -/
theorem c_reprW {X : Cx} {k : Nat} (hr : RoomW k X.A) : CallR X (.builtin "repr") zRepr := by
  intro pins s σ H xs us Q I r h
  unfold zRepr at h
  split at h
  · obtain ⟨g, d, hd, hg, hs, hp, hz, q⟩ := h
    obtain ⟨u, rfl, ru⟩ := vals1 r
    have un := hr.room.un
    obtain ⟨as, rd, w⟩ := Dz.reads I u hd ru
    have keep : ∀ {t : Nat} {h' : Heap}, (∀ b o, s.heap.get? b = some o → h'.get? b = some o) → ∀ t', EP X pins σ Q (.str d.shown t') { s with heap := h', toks := t } := fun hk t' => ⟨.str d.shown, H, I.kept hk, ⟨_, rfl⟩, q⟩
    cases rd with
    | none => exact PySem.P.repr_of_none ⟨.str _, H, I.tok _, ⟨_, rfl⟩, q⟩
    | bool b => exact PySem.P.repr_of_bool ⟨.str _, H, I.tok _, ⟨_, rfl⟩, by cases b <;> exact q⟩
    | int i t => exact PySem.P.repr_of_int (by simpa [PyData.showable] using hs) ⟨.str _, H, I.tok _, ⟨_, rfl⟩, q⟩
    | str x t => exact PySem.P.repr_of_str ⟨.str _, H, I.tok _, ⟨_, rfl⟩, q⟩ hz
    | list a b c e => exact repr_of_reads' (Reads.list a b c e) hs (fun z => w (hg z)) hr.free (by omega) (fun _ _ z => z) (fun h' u tk hk => keep hk _) hz
    | tuple a b c e => exact repr_of_reads' (Reads.tuple a b c e) hs (fun z => w (hg z)) hr.free (by omega) (fun _ _ z => z) (fun h' u tk hk => keep hk _) hz
    | dict a b c e f => exact repr_of_reads' (Reads.dict a b c e f) hs (fun z => w (hg z)) hr.free (by omega) (fun _ _ z => z) (fun h' u tk hk => keep hk _) hz
  · exact h.elim
end Z

/-! W5: what the printed derivations of errors' laws lean on. -/
namespace Z
open PySem PySem.Spec PyProof.Rows L2
theorem ini3 {P : Program} {w : World} {K : PySem.W.Frag} {mg : Str → Option Value} {base : Heap} {q : Str} {st : Stmt} {f : Addr} {fd : FuncData} {a b c : Str} {N : List Str} {k : Nat} {p : V → V → V → Hp → VK → XK → Prop} (F : Fun K "__init__" q st f fd) (S : FnScope N [a, b, c] (defScope st))
    (body : ∀ (cdv : Value) (A : Around) (outer : List Env) (s : Shared) (H : Hp) (u v z : V) (Q : VK) (E : XK), Room k (A.deeper (envOfC q (defScope st) s.heap.objs.size f cdv)) → p u v z H Q E →
      ∃ t, PSs (cxOf CX0 P w K mg base N q (defScope st) f cdv A outer s H E).nox (defBody st) t ∧ t { nx := fun _ H' => Q .non H', rt := Q } (start N [u, v, z]) H) : FnOk P w K mg base CX0 (k + 1) f fd [a, b, c] (sp3 p) := by
  refine F.ok S ?_ ?_
  · intro vs H Q E h
    obtain ⟨u, v, z, rfl, _⟩ := sp3_of h
    rfl
  · intro cdv A outer s H vs Q E hr h
    obtain ⟨u, v, z, rfl, h⟩ := sp3_of h
    exact body cdv A outer s H u v z Q E hr h
theorem takesN {X : Cx} : L2N.Takes X (fun _ _ _ _ => False) := fun _ _ ⟨_, _, _, _, _, _, _, _, _, _, _, _, _, _, _, _, w⟩ => w.elim
/-- each is an Exception -/
theorem kit_exc {K : PySem.W.Frag} {C B : Addr} (T : ErrC K C B) : PySem.W.kitOne K (.ref C) (.type "Exception") = some true := by
  obtain ⟨m1, m2, m3, m4, m5, m6, m7, m8, m9, m10, m11, m12, m13, m14, cl⟩ := T.cls
  have kd : PySem.W.clsIn K C = some ⟨m1, m4, mroE C B, m3, m2, true, m5, m6, m7, m8, false⟩ := by
    unfold PySem.W.clsIn
    rw [cl]
    rfl
  have sub : PySem.W.subIn K (.ref C) (.type "Exception") = some true := by
    show PySem.W.mroIn K C (.type "Exception") = _
    unfold PySem.W.mroIn
    rw [kd, Option.bind_some]
    show some ((mroE C B).contains (.type "Exception")) = _
    rw [mroE_has]
    rfl
  unfold PySem.W.kitOne
  rw [if_neg (by simp)]
  show (if PySem.W.kitMeta "Exception" = true then PySem.W.subIn K (.ref C) (.type "Exception") else none) = _
  rw [if_pos (by decide +kernel), sub]
/-- the parent of all -/
theorem exm_base {K : PySem.W.Frag} {C B : Addr} (T : ErrC K C B) (h1 : PySem.W.subIn K (.ref B) (.type "BaseException") = some true) (h2 : PySem.W.hasDictIn K B = true) (h3 : PySem.W.typeIn K (.ref B) = some (.type "type")) : PySem.W.exmOne K (.ref C) (.ref B) = some true :=
  PySem.W.exm_ref h1 h2 h3 (by rw [T.sub B]; simp)
theorem pe_cwA {X : Cx} (A : Around) {k : Nat} {x : Str} {ps : List Str} {sp : Sp} {p pos : Pos} {e : Expr} {es : List Expr} {t : TA} (C : Cw X.prog X.w X.K X.mg X.base k x ps sp) (hr : RoomW k A) (ha : PA X (e :: es) t) (hA : X.A = A := by rfl) (hg : Gl X x := by rfl)
    (hdb : (x == ("__debug__" : Str)) = false := by decide)
    (he : starEach (e :: es) X.env = (false, eval e X.env) :: starEach es X.env := by rfl) (hpl : (backTo pos (starEach es X.env)).any (·.1) = false := by rfl) : PE X (.Call (.Name x p) (e :: es) [] pos) (tCw A sp t) := by
  subst hA
  exact pe_cw C hr ha hg hdb he hpl
end Z


namespace L00_
open PySem PySem.Spec PyProof.Rows L2 Z
open SX M9 M3 M10
def top (i : Nat) : Stmt := PySem.Challenge.pw_inorderonce_k00_errors.main.body.getD i (.Pass ⟨0, 0, 0, 0⟩)
-- VARS: e_InvalidAct e_InvalidActs e_InvalidBrokers e_InvalidCommand e_InvalidCommands e_InvalidCount e_InvalidDisk e_InvalidItems e_InvalidKeeps e_InvalidLetter e_InvalidLine e_InvalidName e_InvalidNumber e_InvalidPicture e_InvalidState e_InvalidTerm e_InvalidText e_InvalidValue e_InvalidWorld e_TooLong e_NoFile e_NoRow e_NoTopic e_NoGroup e_NotLeading e_Fallen e_Held e_PowerCut e_QueueError
structure Txt (K : PySem.W.Frag) (mg : Str → Option Value) (e_InvalidAct e_InvalidActs e_InvalidBrokers e_InvalidCommand e_InvalidCommands e_InvalidCount e_InvalidDisk e_InvalidItems e_InvalidKeeps e_InvalidLetter e_InvalidLine e_InvalidName e_InvalidNumber e_InvalidPicture e_InvalidState e_InvalidTerm e_InvalidText e_InvalidValue e_InvalidWorld e_TooLong e_NoFile e_NoRow e_NoTopic e_NoGroup e_NotLeading e_Fallen e_Held e_PowerCut e_QueueError : Addr) : Prop where
  g_InvalidAct : mg "InvalidAct" = some (.ref e_InvalidAct)
  a_InvalidAct : clsAt K "InvalidAct" e_InvalidAct
  g_InvalidActs : mg "InvalidActs" = some (.ref e_InvalidActs)
  a_InvalidActs : clsAt K "InvalidActs" e_InvalidActs
  g_InvalidBrokers : mg "InvalidBrokers" = some (.ref e_InvalidBrokers)
  a_InvalidBrokers : clsAt K "InvalidBrokers" e_InvalidBrokers
  g_InvalidCommand : mg "InvalidCommand" = some (.ref e_InvalidCommand)
  a_InvalidCommand : clsAt K "InvalidCommand" e_InvalidCommand
  g_InvalidCommands : mg "InvalidCommands" = some (.ref e_InvalidCommands)
  a_InvalidCommands : clsAt K "InvalidCommands" e_InvalidCommands
  g_InvalidCount : mg "InvalidCount" = some (.ref e_InvalidCount)
  a_InvalidCount : clsAt K "InvalidCount" e_InvalidCount
  g_InvalidDisk : mg "InvalidDisk" = some (.ref e_InvalidDisk)
  a_InvalidDisk : clsAt K "InvalidDisk" e_InvalidDisk
  g_InvalidItems : mg "InvalidItems" = some (.ref e_InvalidItems)
  a_InvalidItems : clsAt K "InvalidItems" e_InvalidItems
  g_InvalidKeeps : mg "InvalidKeeps" = some (.ref e_InvalidKeeps)
  a_InvalidKeeps : clsAt K "InvalidKeeps" e_InvalidKeeps
  g_InvalidLetter : mg "InvalidLetter" = some (.ref e_InvalidLetter)
  a_InvalidLetter : clsAt K "InvalidLetter" e_InvalidLetter
  g_InvalidLine : mg "InvalidLine" = some (.ref e_InvalidLine)
  a_InvalidLine : clsAt K "InvalidLine" e_InvalidLine
  g_InvalidName : mg "InvalidName" = some (.ref e_InvalidName)
  a_InvalidName : clsAt K "InvalidName" e_InvalidName
  g_InvalidNumber : mg "InvalidNumber" = some (.ref e_InvalidNumber)
  a_InvalidNumber : clsAt K "InvalidNumber" e_InvalidNumber
  g_InvalidPicture : mg "InvalidPicture" = some (.ref e_InvalidPicture)
  a_InvalidPicture : clsAt K "InvalidPicture" e_InvalidPicture
  g_InvalidState : mg "InvalidState" = some (.ref e_InvalidState)
  a_InvalidState : clsAt K "InvalidState" e_InvalidState
  g_InvalidTerm : mg "InvalidTerm" = some (.ref e_InvalidTerm)
  a_InvalidTerm : clsAt K "InvalidTerm" e_InvalidTerm
  g_InvalidText : mg "InvalidText" = some (.ref e_InvalidText)
  a_InvalidText : clsAt K "InvalidText" e_InvalidText
  g_InvalidValue : mg "InvalidValue" = some (.ref e_InvalidValue)
  a_InvalidValue : clsAt K "InvalidValue" e_InvalidValue
  g_InvalidWorld : mg "InvalidWorld" = some (.ref e_InvalidWorld)
  a_InvalidWorld : clsAt K "InvalidWorld" e_InvalidWorld
  g_TooLong : mg "TooLong" = some (.ref e_TooLong)
  a_TooLong : clsAt K "TooLong" e_TooLong
  g_NoFile : mg "NoFile" = some (.ref e_NoFile)
  a_NoFile : clsAt K "NoFile" e_NoFile
  g_NoRow : mg "NoRow" = some (.ref e_NoRow)
  a_NoRow : clsAt K "NoRow" e_NoRow
  g_NoTopic : mg "NoTopic" = some (.ref e_NoTopic)
  a_NoTopic : clsAt K "NoTopic" e_NoTopic
  g_NoGroup : mg "NoGroup" = some (.ref e_NoGroup)
  a_NoGroup : clsAt K "NoGroup" e_NoGroup
  g_NotLeading : mg "NotLeading" = some (.ref e_NotLeading)
  a_NotLeading : clsAt K "NotLeading" e_NotLeading
  g_Fallen : mg "Fallen" = some (.ref e_Fallen)
  a_Fallen : clsAt K "Fallen" e_Fallen
  g_Held : mg "Held" = some (.ref e_Held)
  a_Held : clsAt K "Held" e_Held
  g_PowerCut : mg "PowerCut" = some (.ref e_PowerCut)
  a_PowerCut : clsAt K "PowerCut" e_PowerCut
  g_QueueError : mg "QueueError" = some (.ref e_QueueError)
  a_QueueError : clsAt K "QueueError" e_QueueError
  s_InvalidAct : Es K e_InvalidAct
  ec_InvalidAct : ErrC K e_InvalidAct e_QueueError
  n_InvalidAct : PySem.W.findIn K (.ref e_InvalidAct) "given" = some none
  s_InvalidActs : Es K e_InvalidActs
  ec_InvalidActs : ErrC K e_InvalidActs e_QueueError
  n_InvalidActs : PySem.W.findIn K (.ref e_InvalidActs) "given" = some none
  s_InvalidBrokers : Es K e_InvalidBrokers
  ec_InvalidBrokers : ErrC K e_InvalidBrokers e_QueueError
  n_InvalidBrokers : PySem.W.findIn K (.ref e_InvalidBrokers) "given" = some none
  s_InvalidCommand : Es K e_InvalidCommand
  ec_InvalidCommand : ErrC K e_InvalidCommand e_QueueError
  n_InvalidCommand : PySem.W.findIn K (.ref e_InvalidCommand) "given" = some none
  s_InvalidCommands : Es K e_InvalidCommands
  ec_InvalidCommands : ErrC K e_InvalidCommands e_QueueError
  n_InvalidCommands : PySem.W.findIn K (.ref e_InvalidCommands) "given" = some none
  s_InvalidCount : Es K e_InvalidCount
  ec_InvalidCount : ErrC K e_InvalidCount e_QueueError
  n_InvalidCount : PySem.W.findIn K (.ref e_InvalidCount) "given" = some none
  s_InvalidDisk : Es K e_InvalidDisk
  ec_InvalidDisk : ErrC K e_InvalidDisk e_QueueError
  n_InvalidDisk : PySem.W.findIn K (.ref e_InvalidDisk) "given" = some none
  s_InvalidItems : Es K e_InvalidItems
  ec_InvalidItems : ErrC K e_InvalidItems e_QueueError
  n_InvalidItems : PySem.W.findIn K (.ref e_InvalidItems) "given" = some none
  s_InvalidKeeps : Es K e_InvalidKeeps
  ec_InvalidKeeps : ErrC K e_InvalidKeeps e_QueueError
  n_InvalidKeeps : PySem.W.findIn K (.ref e_InvalidKeeps) "given" = some none
  s_InvalidLetter : Es K e_InvalidLetter
  ec_InvalidLetter : ErrC K e_InvalidLetter e_QueueError
  n_InvalidLetter : PySem.W.findIn K (.ref e_InvalidLetter) "given" = some none
  s_InvalidLine : Es K e_InvalidLine
  ec_InvalidLine : ErrC K e_InvalidLine e_QueueError
  n_InvalidLine : PySem.W.findIn K (.ref e_InvalidLine) "given" = some none
  s_InvalidName : Es K e_InvalidName
  ec_InvalidName : ErrC K e_InvalidName e_QueueError
  n_InvalidName : PySem.W.findIn K (.ref e_InvalidName) "given" = some none
  s_InvalidNumber : Es K e_InvalidNumber
  ec_InvalidNumber : ErrC K e_InvalidNumber e_QueueError
  n_InvalidNumber : PySem.W.findIn K (.ref e_InvalidNumber) "given" = some none
  s_InvalidPicture : Es K e_InvalidPicture
  ec_InvalidPicture : ErrC K e_InvalidPicture e_QueueError
  n_InvalidPicture : PySem.W.findIn K (.ref e_InvalidPicture) "given" = some none
  s_InvalidState : Es K e_InvalidState
  ec_InvalidState : ErrC K e_InvalidState e_QueueError
  n_InvalidState : PySem.W.findIn K (.ref e_InvalidState) "given" = some none
  s_InvalidTerm : Es K e_InvalidTerm
  ec_InvalidTerm : ErrC K e_InvalidTerm e_QueueError
  n_InvalidTerm : PySem.W.findIn K (.ref e_InvalidTerm) "given" = some none
  s_InvalidText : Es K e_InvalidText
  ec_InvalidText : ErrC K e_InvalidText e_QueueError
  n_InvalidText : PySem.W.findIn K (.ref e_InvalidText) "given" = some none
  s_InvalidValue : Es K e_InvalidValue
  ec_InvalidValue : ErrC K e_InvalidValue e_QueueError
  n_InvalidValue : PySem.W.findIn K (.ref e_InvalidValue) "given" = some none
  s_InvalidWorld : Es K e_InvalidWorld
  ec_InvalidWorld : ErrC K e_InvalidWorld e_QueueError
  n_InvalidWorld : PySem.W.findIn K (.ref e_InvalidWorld) "given" = some none
  s_TooLong : Es K e_TooLong
  ec_TooLong : ErrC K e_TooLong e_QueueError
  n_TooLong : PySem.W.findIn K (.ref e_TooLong) "signs" = some none
  s_NoFile : Es K e_NoFile
  ec_NoFile : ErrC K e_NoFile e_QueueError
  n_NoFile : PySem.W.findIn K (.ref e_NoFile) "name" = some none
  s_NoRow : Es K e_NoRow
  ec_NoRow : ErrC K e_NoRow e_QueueError
  n_NoRow : PySem.W.findIn K (.ref e_NoRow) "index" = some none
  s_NoTopic : Es K e_NoTopic
  ec_NoTopic : ErrC K e_NoTopic e_QueueError
  n_NoTopic : PySem.W.findIn K (.ref e_NoTopic) "topic" = some none
  s_NoGroup : Es K e_NoGroup
  ec_NoGroup : ErrC K e_NoGroup e_QueueError
  n_NoGroup : PySem.W.findIn K (.ref e_NoGroup) "group" = some none
  s_NotLeading : Es K e_NotLeading
  ec_NotLeading : ErrC K e_NotLeading e_QueueError
  n_NotLeading : PySem.W.findIn K (.ref e_NotLeading) "leader" = some none
  s_Fallen : Es K e_Fallen
  ec_Fallen : ErrC K e_Fallen e_QueueError
  n_Fallen : PySem.W.findIn K (.ref e_Fallen) "who" = some none
  s_Held : Es K e_Held
  ec_Held : ErrC K e_Held e_QueueError
  n_Held : PySem.W.findIn K (.ref e_Held) "group" = some none
  m_Held : PySem.W.findIn K (.ref e_Held) "number" = some none
  s_PowerCut : Es K e_PowerCut
  ec_PowerCut : ErrC K e_PowerCut e_QueueError
  q_QueueError : BaseC K e_QueueError
  xQ : PySem.W.subIn K (.ref e_QueueError) (.type "BaseException") = some true
  hQ : PySem.W.hasDictIn K e_QueueError = true
  tQ : PySem.W.typeIn K (.ref e_QueueError) = some (.type "type")
  nd : ([e_InvalidAct, e_InvalidActs, e_InvalidBrokers, e_InvalidCommand, e_InvalidCommands, e_InvalidCount, e_InvalidDisk, e_InvalidItems, e_InvalidKeeps, e_InvalidLetter, e_InvalidLine, e_InvalidName, e_InvalidNumber, e_InvalidPicture, e_InvalidState, e_InvalidTerm, e_InvalidText, e_InvalidValue, e_InvalidWorld, e_TooLong, e_NoFile, e_NoRow, e_NoTopic, e_NoGroup, e_NotLeading, e_Fallen, e_Held, e_PowerCut, e_QueueError] : List Addr).Nodup
  n_isinstance : mg "isinstance" = none
  n_Exception : mg "Exception" = none
  n_range : mg "range" = none
  n_len : mg "len" = none
  n_int : mg "int" = none
  n_abs : mg "abs" = none
  n_sum : mg "sum" = none
  n_dict : mg "dict" = none
  n_repr : mg "repr" = none
  n_max : mg "max" = none
  n_min : mg "min" = none
theorem bt_isinstance : bootBuiltins "isinstance" = some (.builtin "isinstance") := by decide +kernel
theorem bt_Exception : bootBuiltins "Exception" = some (.type "Exception") := by decide +kernel
theorem bt_len : bootBuiltins "len" = some (.builtin "len") := by decide +kernel
theorem bt_int : bootBuiltins "int" = some (.type "int") := by decide +kernel
theorem bt_abs : bootBuiltins "abs" = some (.builtin "abs") := by decide +kernel
theorem bt_sum : bootBuiltins "sum" = some (.builtin "sum") := by decide +kernel
theorem bt_dict : bootBuiltins "dict" = some (.type "dict") := by decide +kernel
theorem bt_repr : bootBuiltins "repr" = some (.builtin "repr") := by decide +kernel
theorem bt_max : bootBuiltins "max" = some (.builtin "max") := by decide +kernel
theorem bt_min : bootBuiltins "min" = some (.builtin "min") := by decide +kernel

abbrev si_InvalidAct : Stmt := (clsB (top 2)).getD 0 (.Pass ⟨0, 0, 0, 0⟩)
theorem sci_InvalidAct : FnScope ["self", "given"] ["self", "given"] (defScope si_InvalidAct) := ⟨rfl, rfl, rfl, by decide +kernel, rfl, by decide +kernel, by decide +kernel⟩
theorem oki_InvalidAct {P : Program} {w : World} {K : PySem.W.Frag} {mg : Str → Option Value} {base : Heap} {e_InvalidAct e_InvalidActs e_InvalidBrokers e_InvalidCommand e_InvalidCommands e_InvalidCount e_InvalidDisk e_InvalidItems e_InvalidKeeps e_InvalidLetter e_InvalidLine e_InvalidName e_InvalidNumber e_InvalidPicture e_InvalidState e_InvalidTerm e_InvalidText e_InvalidValue e_InvalidWorld e_TooLong e_NoFile e_NoRow e_NoTopic e_NoGroup e_NotLeading e_Fallen e_Held e_PowerCut e_QueueError fI : Addr} {fd : FuncData} (T : Txt K mg e_InvalidAct e_InvalidActs e_InvalidBrokers e_InvalidCommand e_InvalidCommands e_InvalidCount e_InvalidDisk e_InvalidItems e_InvalidKeeps e_InvalidLetter e_InvalidLine e_InvalidName e_InvalidNumber e_InvalidPicture e_InvalidState e_InvalidTerm e_InvalidText e_InvalidValue e_InvalidWorld e_TooLong e_NoFile e_NoRow e_NoTopic e_NoGroup e_NotLeading e_Fallen e_Held e_PowerCut e_QueueError) (F : Fun K "__init__" "InvalidAct.__init__" si_InvalidAct fI fd) : FnOk P w K mg base CX0 1 fI fd ["self", "given"] (spIni e_InvalidAct "given") := by
  obtain ⟨mc, q1, q2, q3⟩ := T.q_QueueError.ex
  refine ini2 F sci_InvalidAct fun cdv A outer s H u v Q E hr h => ⟨_, (pss_cons (ps_expr (pe_binit T.g_QueueError q1 q2 q3 (pa_cons (pz 0) (pa_cons pe_str pa_nil)))) (pss_one (ps_err (pz 0) (pz 1)))), ?_⟩
  obtain ⟨a, rfl, ha, q⟩ := h
  refine ⟨a, _, _, _, rfl, by show 1 ≤ 1000; decide, T.ec_InvalidAct, ha, ?_⟩
  exact ⟨a, _, _, rfl, T.ec_InvalidAct, T.n_InvalidAct, ha, fun dx nd ne => q dx nd ne⟩

abbrev si_InvalidActs : Stmt := (clsB (top 3)).getD 0 (.Pass ⟨0, 0, 0, 0⟩)
theorem sci_InvalidActs : FnScope ["self", "given"] ["self", "given"] (defScope si_InvalidActs) := ⟨rfl, rfl, rfl, by decide +kernel, rfl, by decide +kernel, by decide +kernel⟩
theorem oki_InvalidActs {P : Program} {w : World} {K : PySem.W.Frag} {mg : Str → Option Value} {base : Heap} {e_InvalidAct e_InvalidActs e_InvalidBrokers e_InvalidCommand e_InvalidCommands e_InvalidCount e_InvalidDisk e_InvalidItems e_InvalidKeeps e_InvalidLetter e_InvalidLine e_InvalidName e_InvalidNumber e_InvalidPicture e_InvalidState e_InvalidTerm e_InvalidText e_InvalidValue e_InvalidWorld e_TooLong e_NoFile e_NoRow e_NoTopic e_NoGroup e_NotLeading e_Fallen e_Held e_PowerCut e_QueueError fI : Addr} {fd : FuncData} (T : Txt K mg e_InvalidAct e_InvalidActs e_InvalidBrokers e_InvalidCommand e_InvalidCommands e_InvalidCount e_InvalidDisk e_InvalidItems e_InvalidKeeps e_InvalidLetter e_InvalidLine e_InvalidName e_InvalidNumber e_InvalidPicture e_InvalidState e_InvalidTerm e_InvalidText e_InvalidValue e_InvalidWorld e_TooLong e_NoFile e_NoRow e_NoTopic e_NoGroup e_NotLeading e_Fallen e_Held e_PowerCut e_QueueError) (F : Fun K "__init__" "InvalidActs.__init__" si_InvalidActs fI fd) : FnOk P w K mg base CX0 1 fI fd ["self", "given"] (spIni e_InvalidActs "given") := by
  obtain ⟨mc, q1, q2, q3⟩ := T.q_QueueError.ex
  refine ini2 F sci_InvalidActs fun cdv A outer s H u v Q E hr h => ⟨_, (pss_cons (ps_expr (pe_binit T.g_QueueError q1 q2 q3 (pa_cons (pz 0) (pa_cons pe_str pa_nil)))) (pss_one (ps_err (pz 0) (pz 1)))), ?_⟩
  obtain ⟨a, rfl, ha, q⟩ := h
  refine ⟨a, _, _, _, rfl, by show 1 ≤ 1000; decide, T.ec_InvalidActs, ha, ?_⟩
  exact ⟨a, _, _, rfl, T.ec_InvalidActs, T.n_InvalidActs, ha, fun dx nd ne => q dx nd ne⟩

abbrev si_InvalidBrokers : Stmt := (clsB (top 4)).getD 0 (.Pass ⟨0, 0, 0, 0⟩)
theorem sci_InvalidBrokers : FnScope ["self", "given"] ["self", "given"] (defScope si_InvalidBrokers) := ⟨rfl, rfl, rfl, by decide +kernel, rfl, by decide +kernel, by decide +kernel⟩
theorem oki_InvalidBrokers {P : Program} {w : World} {K : PySem.W.Frag} {mg : Str → Option Value} {base : Heap} {e_InvalidAct e_InvalidActs e_InvalidBrokers e_InvalidCommand e_InvalidCommands e_InvalidCount e_InvalidDisk e_InvalidItems e_InvalidKeeps e_InvalidLetter e_InvalidLine e_InvalidName e_InvalidNumber e_InvalidPicture e_InvalidState e_InvalidTerm e_InvalidText e_InvalidValue e_InvalidWorld e_TooLong e_NoFile e_NoRow e_NoTopic e_NoGroup e_NotLeading e_Fallen e_Held e_PowerCut e_QueueError fI : Addr} {fd : FuncData} (T : Txt K mg e_InvalidAct e_InvalidActs e_InvalidBrokers e_InvalidCommand e_InvalidCommands e_InvalidCount e_InvalidDisk e_InvalidItems e_InvalidKeeps e_InvalidLetter e_InvalidLine e_InvalidName e_InvalidNumber e_InvalidPicture e_InvalidState e_InvalidTerm e_InvalidText e_InvalidValue e_InvalidWorld e_TooLong e_NoFile e_NoRow e_NoTopic e_NoGroup e_NotLeading e_Fallen e_Held e_PowerCut e_QueueError) (F : Fun K "__init__" "InvalidBrokers.__init__" si_InvalidBrokers fI fd) : FnOk P w K mg base CX0 1 fI fd ["self", "given"] (spIni e_InvalidBrokers "given") := by
  obtain ⟨mc, q1, q2, q3⟩ := T.q_QueueError.ex
  refine ini2 F sci_InvalidBrokers fun cdv A outer s H u v Q E hr h => ⟨_, (pss_cons (ps_expr (pe_binit T.g_QueueError q1 q2 q3 (pa_cons (pz 0) (pa_cons pe_str pa_nil)))) (pss_one (ps_err (pz 0) (pz 1)))), ?_⟩
  obtain ⟨a, rfl, ha, q⟩ := h
  refine ⟨a, _, _, _, rfl, by show 1 ≤ 1000; decide, T.ec_InvalidBrokers, ha, ?_⟩
  exact ⟨a, _, _, rfl, T.ec_InvalidBrokers, T.n_InvalidBrokers, ha, fun dx nd ne => q dx nd ne⟩

abbrev si_InvalidCommand : Stmt := (clsB (top 5)).getD 0 (.Pass ⟨0, 0, 0, 0⟩)
theorem sci_InvalidCommand : FnScope ["self", "given"] ["self", "given"] (defScope si_InvalidCommand) := ⟨rfl, rfl, rfl, by decide +kernel, rfl, by decide +kernel, by decide +kernel⟩
theorem oki_InvalidCommand {P : Program} {w : World} {K : PySem.W.Frag} {mg : Str → Option Value} {base : Heap} {e_InvalidAct e_InvalidActs e_InvalidBrokers e_InvalidCommand e_InvalidCommands e_InvalidCount e_InvalidDisk e_InvalidItems e_InvalidKeeps e_InvalidLetter e_InvalidLine e_InvalidName e_InvalidNumber e_InvalidPicture e_InvalidState e_InvalidTerm e_InvalidText e_InvalidValue e_InvalidWorld e_TooLong e_NoFile e_NoRow e_NoTopic e_NoGroup e_NotLeading e_Fallen e_Held e_PowerCut e_QueueError fI : Addr} {fd : FuncData} (T : Txt K mg e_InvalidAct e_InvalidActs e_InvalidBrokers e_InvalidCommand e_InvalidCommands e_InvalidCount e_InvalidDisk e_InvalidItems e_InvalidKeeps e_InvalidLetter e_InvalidLine e_InvalidName e_InvalidNumber e_InvalidPicture e_InvalidState e_InvalidTerm e_InvalidText e_InvalidValue e_InvalidWorld e_TooLong e_NoFile e_NoRow e_NoTopic e_NoGroup e_NotLeading e_Fallen e_Held e_PowerCut e_QueueError) (F : Fun K "__init__" "InvalidCommand.__init__" si_InvalidCommand fI fd) : FnOk P w K mg base CX0 1 fI fd ["self", "given"] (spIni e_InvalidCommand "given") := by
  obtain ⟨mc, q1, q2, q3⟩ := T.q_QueueError.ex
  refine ini2 F sci_InvalidCommand fun cdv A outer s H u v Q E hr h => ⟨_, (pss_cons (ps_expr (pe_binit T.g_QueueError q1 q2 q3 (pa_cons (pz 0) (pa_cons pe_str pa_nil)))) (pss_one (ps_err (pz 0) (pz 1)))), ?_⟩
  obtain ⟨a, rfl, ha, q⟩ := h
  refine ⟨a, _, _, _, rfl, by show 1 ≤ 1000; decide, T.ec_InvalidCommand, ha, ?_⟩
  exact ⟨a, _, _, rfl, T.ec_InvalidCommand, T.n_InvalidCommand, ha, fun dx nd ne => q dx nd ne⟩

abbrev si_InvalidCommands : Stmt := (clsB (top 6)).getD 0 (.Pass ⟨0, 0, 0, 0⟩)
theorem sci_InvalidCommands : FnScope ["self", "given"] ["self", "given"] (defScope si_InvalidCommands) := ⟨rfl, rfl, rfl, by decide +kernel, rfl, by decide +kernel, by decide +kernel⟩
theorem oki_InvalidCommands {P : Program} {w : World} {K : PySem.W.Frag} {mg : Str → Option Value} {base : Heap} {e_InvalidAct e_InvalidActs e_InvalidBrokers e_InvalidCommand e_InvalidCommands e_InvalidCount e_InvalidDisk e_InvalidItems e_InvalidKeeps e_InvalidLetter e_InvalidLine e_InvalidName e_InvalidNumber e_InvalidPicture e_InvalidState e_InvalidTerm e_InvalidText e_InvalidValue e_InvalidWorld e_TooLong e_NoFile e_NoRow e_NoTopic e_NoGroup e_NotLeading e_Fallen e_Held e_PowerCut e_QueueError fI : Addr} {fd : FuncData} (T : Txt K mg e_InvalidAct e_InvalidActs e_InvalidBrokers e_InvalidCommand e_InvalidCommands e_InvalidCount e_InvalidDisk e_InvalidItems e_InvalidKeeps e_InvalidLetter e_InvalidLine e_InvalidName e_InvalidNumber e_InvalidPicture e_InvalidState e_InvalidTerm e_InvalidText e_InvalidValue e_InvalidWorld e_TooLong e_NoFile e_NoRow e_NoTopic e_NoGroup e_NotLeading e_Fallen e_Held e_PowerCut e_QueueError) (F : Fun K "__init__" "InvalidCommands.__init__" si_InvalidCommands fI fd) : FnOk P w K mg base CX0 1 fI fd ["self", "given"] (spIni e_InvalidCommands "given") := by
  obtain ⟨mc, q1, q2, q3⟩ := T.q_QueueError.ex
  refine ini2 F sci_InvalidCommands fun cdv A outer s H u v Q E hr h => ⟨_, (pss_cons (ps_expr (pe_binit T.g_QueueError q1 q2 q3 (pa_cons (pz 0) (pa_cons pe_str pa_nil)))) (pss_one (ps_err (pz 0) (pz 1)))), ?_⟩
  obtain ⟨a, rfl, ha, q⟩ := h
  refine ⟨a, _, _, _, rfl, by show 1 ≤ 1000; decide, T.ec_InvalidCommands, ha, ?_⟩
  exact ⟨a, _, _, rfl, T.ec_InvalidCommands, T.n_InvalidCommands, ha, fun dx nd ne => q dx nd ne⟩

abbrev si_InvalidCount : Stmt := (clsB (top 7)).getD 0 (.Pass ⟨0, 0, 0, 0⟩)
theorem sci_InvalidCount : FnScope ["self", "given"] ["self", "given"] (defScope si_InvalidCount) := ⟨rfl, rfl, rfl, by decide +kernel, rfl, by decide +kernel, by decide +kernel⟩
theorem oki_InvalidCount {P : Program} {w : World} {K : PySem.W.Frag} {mg : Str → Option Value} {base : Heap} {e_InvalidAct e_InvalidActs e_InvalidBrokers e_InvalidCommand e_InvalidCommands e_InvalidCount e_InvalidDisk e_InvalidItems e_InvalidKeeps e_InvalidLetter e_InvalidLine e_InvalidName e_InvalidNumber e_InvalidPicture e_InvalidState e_InvalidTerm e_InvalidText e_InvalidValue e_InvalidWorld e_TooLong e_NoFile e_NoRow e_NoTopic e_NoGroup e_NotLeading e_Fallen e_Held e_PowerCut e_QueueError fI : Addr} {fd : FuncData} (T : Txt K mg e_InvalidAct e_InvalidActs e_InvalidBrokers e_InvalidCommand e_InvalidCommands e_InvalidCount e_InvalidDisk e_InvalidItems e_InvalidKeeps e_InvalidLetter e_InvalidLine e_InvalidName e_InvalidNumber e_InvalidPicture e_InvalidState e_InvalidTerm e_InvalidText e_InvalidValue e_InvalidWorld e_TooLong e_NoFile e_NoRow e_NoTopic e_NoGroup e_NotLeading e_Fallen e_Held e_PowerCut e_QueueError) (F : Fun K "__init__" "InvalidCount.__init__" si_InvalidCount fI fd) : FnOk P w K mg base CX0 1 fI fd ["self", "given"] (spIni e_InvalidCount "given") := by
  obtain ⟨mc, q1, q2, q3⟩ := T.q_QueueError.ex
  refine ini2 F sci_InvalidCount fun cdv A outer s H u v Q E hr h => ⟨_, (pss_cons (ps_expr (pe_binit T.g_QueueError q1 q2 q3 (pa_cons (pz 0) (pa_cons pe_str pa_nil)))) (pss_one (ps_err (pz 0) (pz 1)))), ?_⟩
  obtain ⟨a, rfl, ha, q⟩ := h
  refine ⟨a, _, _, _, rfl, by show 1 ≤ 1000; decide, T.ec_InvalidCount, ha, ?_⟩
  exact ⟨a, _, _, rfl, T.ec_InvalidCount, T.n_InvalidCount, ha, fun dx nd ne => q dx nd ne⟩

abbrev si_InvalidDisk : Stmt := (clsB (top 8)).getD 0 (.Pass ⟨0, 0, 0, 0⟩)
theorem sci_InvalidDisk : FnScope ["self", "given"] ["self", "given"] (defScope si_InvalidDisk) := ⟨rfl, rfl, rfl, by decide +kernel, rfl, by decide +kernel, by decide +kernel⟩
theorem oki_InvalidDisk {P : Program} {w : World} {K : PySem.W.Frag} {mg : Str → Option Value} {base : Heap} {e_InvalidAct e_InvalidActs e_InvalidBrokers e_InvalidCommand e_InvalidCommands e_InvalidCount e_InvalidDisk e_InvalidItems e_InvalidKeeps e_InvalidLetter e_InvalidLine e_InvalidName e_InvalidNumber e_InvalidPicture e_InvalidState e_InvalidTerm e_InvalidText e_InvalidValue e_InvalidWorld e_TooLong e_NoFile e_NoRow e_NoTopic e_NoGroup e_NotLeading e_Fallen e_Held e_PowerCut e_QueueError fI : Addr} {fd : FuncData} (T : Txt K mg e_InvalidAct e_InvalidActs e_InvalidBrokers e_InvalidCommand e_InvalidCommands e_InvalidCount e_InvalidDisk e_InvalidItems e_InvalidKeeps e_InvalidLetter e_InvalidLine e_InvalidName e_InvalidNumber e_InvalidPicture e_InvalidState e_InvalidTerm e_InvalidText e_InvalidValue e_InvalidWorld e_TooLong e_NoFile e_NoRow e_NoTopic e_NoGroup e_NotLeading e_Fallen e_Held e_PowerCut e_QueueError) (F : Fun K "__init__" "InvalidDisk.__init__" si_InvalidDisk fI fd) : FnOk P w K mg base CX0 1 fI fd ["self", "given"] (spIni e_InvalidDisk "given") := by
  obtain ⟨mc, q1, q2, q3⟩ := T.q_QueueError.ex
  refine ini2 F sci_InvalidDisk fun cdv A outer s H u v Q E hr h => ⟨_, (pss_cons (ps_expr (pe_binit T.g_QueueError q1 q2 q3 (pa_cons (pz 0) (pa_cons pe_str pa_nil)))) (pss_one (ps_err (pz 0) (pz 1)))), ?_⟩
  obtain ⟨a, rfl, ha, q⟩ := h
  refine ⟨a, _, _, _, rfl, by show 1 ≤ 1000; decide, T.ec_InvalidDisk, ha, ?_⟩
  exact ⟨a, _, _, rfl, T.ec_InvalidDisk, T.n_InvalidDisk, ha, fun dx nd ne => q dx nd ne⟩

abbrev si_InvalidItems : Stmt := (clsB (top 9)).getD 0 (.Pass ⟨0, 0, 0, 0⟩)
theorem sci_InvalidItems : FnScope ["self", "given"] ["self", "given"] (defScope si_InvalidItems) := ⟨rfl, rfl, rfl, by decide +kernel, rfl, by decide +kernel, by decide +kernel⟩
theorem oki_InvalidItems {P : Program} {w : World} {K : PySem.W.Frag} {mg : Str → Option Value} {base : Heap} {e_InvalidAct e_InvalidActs e_InvalidBrokers e_InvalidCommand e_InvalidCommands e_InvalidCount e_InvalidDisk e_InvalidItems e_InvalidKeeps e_InvalidLetter e_InvalidLine e_InvalidName e_InvalidNumber e_InvalidPicture e_InvalidState e_InvalidTerm e_InvalidText e_InvalidValue e_InvalidWorld e_TooLong e_NoFile e_NoRow e_NoTopic e_NoGroup e_NotLeading e_Fallen e_Held e_PowerCut e_QueueError fI : Addr} {fd : FuncData} (T : Txt K mg e_InvalidAct e_InvalidActs e_InvalidBrokers e_InvalidCommand e_InvalidCommands e_InvalidCount e_InvalidDisk e_InvalidItems e_InvalidKeeps e_InvalidLetter e_InvalidLine e_InvalidName e_InvalidNumber e_InvalidPicture e_InvalidState e_InvalidTerm e_InvalidText e_InvalidValue e_InvalidWorld e_TooLong e_NoFile e_NoRow e_NoTopic e_NoGroup e_NotLeading e_Fallen e_Held e_PowerCut e_QueueError) (F : Fun K "__init__" "InvalidItems.__init__" si_InvalidItems fI fd) : FnOk P w K mg base CX0 1 fI fd ["self", "given"] (spIni e_InvalidItems "given") := by
  obtain ⟨mc, q1, q2, q3⟩ := T.q_QueueError.ex
  refine ini2 F sci_InvalidItems fun cdv A outer s H u v Q E hr h => ⟨_, (pss_cons (ps_expr (pe_binit T.g_QueueError q1 q2 q3 (pa_cons (pz 0) (pa_cons pe_str pa_nil)))) (pss_one (ps_err (pz 0) (pz 1)))), ?_⟩
  obtain ⟨a, rfl, ha, q⟩ := h
  refine ⟨a, _, _, _, rfl, by show 1 ≤ 1000; decide, T.ec_InvalidItems, ha, ?_⟩
  exact ⟨a, _, _, rfl, T.ec_InvalidItems, T.n_InvalidItems, ha, fun dx nd ne => q dx nd ne⟩

abbrev si_InvalidKeeps : Stmt := (clsB (top 10)).getD 0 (.Pass ⟨0, 0, 0, 0⟩)
theorem sci_InvalidKeeps : FnScope ["self", "given"] ["self", "given"] (defScope si_InvalidKeeps) := ⟨rfl, rfl, rfl, by decide +kernel, rfl, by decide +kernel, by decide +kernel⟩
theorem oki_InvalidKeeps {P : Program} {w : World} {K : PySem.W.Frag} {mg : Str → Option Value} {base : Heap} {e_InvalidAct e_InvalidActs e_InvalidBrokers e_InvalidCommand e_InvalidCommands e_InvalidCount e_InvalidDisk e_InvalidItems e_InvalidKeeps e_InvalidLetter e_InvalidLine e_InvalidName e_InvalidNumber e_InvalidPicture e_InvalidState e_InvalidTerm e_InvalidText e_InvalidValue e_InvalidWorld e_TooLong e_NoFile e_NoRow e_NoTopic e_NoGroup e_NotLeading e_Fallen e_Held e_PowerCut e_QueueError fI : Addr} {fd : FuncData} (T : Txt K mg e_InvalidAct e_InvalidActs e_InvalidBrokers e_InvalidCommand e_InvalidCommands e_InvalidCount e_InvalidDisk e_InvalidItems e_InvalidKeeps e_InvalidLetter e_InvalidLine e_InvalidName e_InvalidNumber e_InvalidPicture e_InvalidState e_InvalidTerm e_InvalidText e_InvalidValue e_InvalidWorld e_TooLong e_NoFile e_NoRow e_NoTopic e_NoGroup e_NotLeading e_Fallen e_Held e_PowerCut e_QueueError) (F : Fun K "__init__" "InvalidKeeps.__init__" si_InvalidKeeps fI fd) : FnOk P w K mg base CX0 1 fI fd ["self", "given"] (spIni e_InvalidKeeps "given") := by
  obtain ⟨mc, q1, q2, q3⟩ := T.q_QueueError.ex
  refine ini2 F sci_InvalidKeeps fun cdv A outer s H u v Q E hr h => ⟨_, (pss_cons (ps_expr (pe_binit T.g_QueueError q1 q2 q3 (pa_cons (pz 0) (pa_cons pe_str pa_nil)))) (pss_one (ps_err (pz 0) (pz 1)))), ?_⟩
  obtain ⟨a, rfl, ha, q⟩ := h
  refine ⟨a, _, _, _, rfl, by show 1 ≤ 1000; decide, T.ec_InvalidKeeps, ha, ?_⟩
  exact ⟨a, _, _, rfl, T.ec_InvalidKeeps, T.n_InvalidKeeps, ha, fun dx nd ne => q dx nd ne⟩

abbrev si_InvalidLetter : Stmt := (clsB (top 11)).getD 0 (.Pass ⟨0, 0, 0, 0⟩)
theorem sci_InvalidLetter : FnScope ["self", "given"] ["self", "given"] (defScope si_InvalidLetter) := ⟨rfl, rfl, rfl, by decide +kernel, rfl, by decide +kernel, by decide +kernel⟩
theorem oki_InvalidLetter {P : Program} {w : World} {K : PySem.W.Frag} {mg : Str → Option Value} {base : Heap} {e_InvalidAct e_InvalidActs e_InvalidBrokers e_InvalidCommand e_InvalidCommands e_InvalidCount e_InvalidDisk e_InvalidItems e_InvalidKeeps e_InvalidLetter e_InvalidLine e_InvalidName e_InvalidNumber e_InvalidPicture e_InvalidState e_InvalidTerm e_InvalidText e_InvalidValue e_InvalidWorld e_TooLong e_NoFile e_NoRow e_NoTopic e_NoGroup e_NotLeading e_Fallen e_Held e_PowerCut e_QueueError fI : Addr} {fd : FuncData} (T : Txt K mg e_InvalidAct e_InvalidActs e_InvalidBrokers e_InvalidCommand e_InvalidCommands e_InvalidCount e_InvalidDisk e_InvalidItems e_InvalidKeeps e_InvalidLetter e_InvalidLine e_InvalidName e_InvalidNumber e_InvalidPicture e_InvalidState e_InvalidTerm e_InvalidText e_InvalidValue e_InvalidWorld e_TooLong e_NoFile e_NoRow e_NoTopic e_NoGroup e_NotLeading e_Fallen e_Held e_PowerCut e_QueueError) (F : Fun K "__init__" "InvalidLetter.__init__" si_InvalidLetter fI fd) : FnOk P w K mg base CX0 1 fI fd ["self", "given"] (spIni e_InvalidLetter "given") := by
  obtain ⟨mc, q1, q2, q3⟩ := T.q_QueueError.ex
  refine ini2 F sci_InvalidLetter fun cdv A outer s H u v Q E hr h => ⟨_, (pss_cons (ps_expr (pe_binit T.g_QueueError q1 q2 q3 (pa_cons (pz 0) (pa_cons pe_str pa_nil)))) (pss_one (ps_err (pz 0) (pz 1)))), ?_⟩
  obtain ⟨a, rfl, ha, q⟩ := h
  refine ⟨a, _, _, _, rfl, by show 1 ≤ 1000; decide, T.ec_InvalidLetter, ha, ?_⟩
  exact ⟨a, _, _, rfl, T.ec_InvalidLetter, T.n_InvalidLetter, ha, fun dx nd ne => q dx nd ne⟩

abbrev si_InvalidLine : Stmt := (clsB (top 12)).getD 0 (.Pass ⟨0, 0, 0, 0⟩)
theorem sci_InvalidLine : FnScope ["self", "given"] ["self", "given"] (defScope si_InvalidLine) := ⟨rfl, rfl, rfl, by decide +kernel, rfl, by decide +kernel, by decide +kernel⟩
theorem oki_InvalidLine {P : Program} {w : World} {K : PySem.W.Frag} {mg : Str → Option Value} {base : Heap} {e_InvalidAct e_InvalidActs e_InvalidBrokers e_InvalidCommand e_InvalidCommands e_InvalidCount e_InvalidDisk e_InvalidItems e_InvalidKeeps e_InvalidLetter e_InvalidLine e_InvalidName e_InvalidNumber e_InvalidPicture e_InvalidState e_InvalidTerm e_InvalidText e_InvalidValue e_InvalidWorld e_TooLong e_NoFile e_NoRow e_NoTopic e_NoGroup e_NotLeading e_Fallen e_Held e_PowerCut e_QueueError fI : Addr} {fd : FuncData} (T : Txt K mg e_InvalidAct e_InvalidActs e_InvalidBrokers e_InvalidCommand e_InvalidCommands e_InvalidCount e_InvalidDisk e_InvalidItems e_InvalidKeeps e_InvalidLetter e_InvalidLine e_InvalidName e_InvalidNumber e_InvalidPicture e_InvalidState e_InvalidTerm e_InvalidText e_InvalidValue e_InvalidWorld e_TooLong e_NoFile e_NoRow e_NoTopic e_NoGroup e_NotLeading e_Fallen e_Held e_PowerCut e_QueueError) (F : Fun K "__init__" "InvalidLine.__init__" si_InvalidLine fI fd) : FnOk P w K mg base CX0 1 fI fd ["self", "given"] (spIni e_InvalidLine "given") := by
  obtain ⟨mc, q1, q2, q3⟩ := T.q_QueueError.ex
  refine ini2 F sci_InvalidLine fun cdv A outer s H u v Q E hr h => ⟨_, (pss_cons (ps_expr (pe_binit T.g_QueueError q1 q2 q3 (pa_cons (pz 0) (pa_cons pe_str pa_nil)))) (pss_one (ps_err (pz 0) (pz 1)))), ?_⟩
  obtain ⟨a, rfl, ha, q⟩ := h
  refine ⟨a, _, _, _, rfl, by show 1 ≤ 1000; decide, T.ec_InvalidLine, ha, ?_⟩
  exact ⟨a, _, _, rfl, T.ec_InvalidLine, T.n_InvalidLine, ha, fun dx nd ne => q dx nd ne⟩

abbrev si_InvalidName : Stmt := (clsB (top 13)).getD 0 (.Pass ⟨0, 0, 0, 0⟩)
theorem sci_InvalidName : FnScope ["self", "given"] ["self", "given"] (defScope si_InvalidName) := ⟨rfl, rfl, rfl, by decide +kernel, rfl, by decide +kernel, by decide +kernel⟩
theorem oki_InvalidName {P : Program} {w : World} {K : PySem.W.Frag} {mg : Str → Option Value} {base : Heap} {e_InvalidAct e_InvalidActs e_InvalidBrokers e_InvalidCommand e_InvalidCommands e_InvalidCount e_InvalidDisk e_InvalidItems e_InvalidKeeps e_InvalidLetter e_InvalidLine e_InvalidName e_InvalidNumber e_InvalidPicture e_InvalidState e_InvalidTerm e_InvalidText e_InvalidValue e_InvalidWorld e_TooLong e_NoFile e_NoRow e_NoTopic e_NoGroup e_NotLeading e_Fallen e_Held e_PowerCut e_QueueError fI : Addr} {fd : FuncData} (T : Txt K mg e_InvalidAct e_InvalidActs e_InvalidBrokers e_InvalidCommand e_InvalidCommands e_InvalidCount e_InvalidDisk e_InvalidItems e_InvalidKeeps e_InvalidLetter e_InvalidLine e_InvalidName e_InvalidNumber e_InvalidPicture e_InvalidState e_InvalidTerm e_InvalidText e_InvalidValue e_InvalidWorld e_TooLong e_NoFile e_NoRow e_NoTopic e_NoGroup e_NotLeading e_Fallen e_Held e_PowerCut e_QueueError) (F : Fun K "__init__" "InvalidName.__init__" si_InvalidName fI fd) : FnOk P w K mg base CX0 1 fI fd ["self", "given"] (spIni e_InvalidName "given") := by
  obtain ⟨mc, q1, q2, q3⟩ := T.q_QueueError.ex
  refine ini2 F sci_InvalidName fun cdv A outer s H u v Q E hr h => ⟨_, (pss_cons (ps_expr (pe_binit T.g_QueueError q1 q2 q3 (pa_cons (pz 0) (pa_cons pe_str pa_nil)))) (pss_one (ps_err (pz 0) (pz 1)))), ?_⟩
  obtain ⟨a, rfl, ha, q⟩ := h
  refine ⟨a, _, _, _, rfl, by show 1 ≤ 1000; decide, T.ec_InvalidName, ha, ?_⟩
  exact ⟨a, _, _, rfl, T.ec_InvalidName, T.n_InvalidName, ha, fun dx nd ne => q dx nd ne⟩

abbrev si_InvalidNumber : Stmt := (clsB (top 14)).getD 0 (.Pass ⟨0, 0, 0, 0⟩)
theorem sci_InvalidNumber : FnScope ["self", "given"] ["self", "given"] (defScope si_InvalidNumber) := ⟨rfl, rfl, rfl, by decide +kernel, rfl, by decide +kernel, by decide +kernel⟩
theorem oki_InvalidNumber {P : Program} {w : World} {K : PySem.W.Frag} {mg : Str → Option Value} {base : Heap} {e_InvalidAct e_InvalidActs e_InvalidBrokers e_InvalidCommand e_InvalidCommands e_InvalidCount e_InvalidDisk e_InvalidItems e_InvalidKeeps e_InvalidLetter e_InvalidLine e_InvalidName e_InvalidNumber e_InvalidPicture e_InvalidState e_InvalidTerm e_InvalidText e_InvalidValue e_InvalidWorld e_TooLong e_NoFile e_NoRow e_NoTopic e_NoGroup e_NotLeading e_Fallen e_Held e_PowerCut e_QueueError fI : Addr} {fd : FuncData} (T : Txt K mg e_InvalidAct e_InvalidActs e_InvalidBrokers e_InvalidCommand e_InvalidCommands e_InvalidCount e_InvalidDisk e_InvalidItems e_InvalidKeeps e_InvalidLetter e_InvalidLine e_InvalidName e_InvalidNumber e_InvalidPicture e_InvalidState e_InvalidTerm e_InvalidText e_InvalidValue e_InvalidWorld e_TooLong e_NoFile e_NoRow e_NoTopic e_NoGroup e_NotLeading e_Fallen e_Held e_PowerCut e_QueueError) (F : Fun K "__init__" "InvalidNumber.__init__" si_InvalidNumber fI fd) : FnOk P w K mg base CX0 1 fI fd ["self", "given"] (spIni e_InvalidNumber "given") := by
  obtain ⟨mc, q1, q2, q3⟩ := T.q_QueueError.ex
  refine ini2 F sci_InvalidNumber fun cdv A outer s H u v Q E hr h => ⟨_, (pss_cons (ps_expr (pe_binit T.g_QueueError q1 q2 q3 (pa_cons (pz 0) (pa_cons pe_str pa_nil)))) (pss_one (ps_err (pz 0) (pz 1)))), ?_⟩
  obtain ⟨a, rfl, ha, q⟩ := h
  refine ⟨a, _, _, _, rfl, by show 1 ≤ 1000; decide, T.ec_InvalidNumber, ha, ?_⟩
  exact ⟨a, _, _, rfl, T.ec_InvalidNumber, T.n_InvalidNumber, ha, fun dx nd ne => q dx nd ne⟩

abbrev si_InvalidPicture : Stmt := (clsB (top 15)).getD 0 (.Pass ⟨0, 0, 0, 0⟩)
theorem sci_InvalidPicture : FnScope ["self", "given"] ["self", "given"] (defScope si_InvalidPicture) := ⟨rfl, rfl, rfl, by decide +kernel, rfl, by decide +kernel, by decide +kernel⟩
theorem oki_InvalidPicture {P : Program} {w : World} {K : PySem.W.Frag} {mg : Str → Option Value} {base : Heap} {e_InvalidAct e_InvalidActs e_InvalidBrokers e_InvalidCommand e_InvalidCommands e_InvalidCount e_InvalidDisk e_InvalidItems e_InvalidKeeps e_InvalidLetter e_InvalidLine e_InvalidName e_InvalidNumber e_InvalidPicture e_InvalidState e_InvalidTerm e_InvalidText e_InvalidValue e_InvalidWorld e_TooLong e_NoFile e_NoRow e_NoTopic e_NoGroup e_NotLeading e_Fallen e_Held e_PowerCut e_QueueError fI : Addr} {fd : FuncData} (T : Txt K mg e_InvalidAct e_InvalidActs e_InvalidBrokers e_InvalidCommand e_InvalidCommands e_InvalidCount e_InvalidDisk e_InvalidItems e_InvalidKeeps e_InvalidLetter e_InvalidLine e_InvalidName e_InvalidNumber e_InvalidPicture e_InvalidState e_InvalidTerm e_InvalidText e_InvalidValue e_InvalidWorld e_TooLong e_NoFile e_NoRow e_NoTopic e_NoGroup e_NotLeading e_Fallen e_Held e_PowerCut e_QueueError) (F : Fun K "__init__" "InvalidPicture.__init__" si_InvalidPicture fI fd) : FnOk P w K mg base CX0 1 fI fd ["self", "given"] (spIni e_InvalidPicture "given") := by
  obtain ⟨mc, q1, q2, q3⟩ := T.q_QueueError.ex
  refine ini2 F sci_InvalidPicture fun cdv A outer s H u v Q E hr h => ⟨_, (pss_cons (ps_expr (pe_binit T.g_QueueError q1 q2 q3 (pa_cons (pz 0) (pa_cons pe_str pa_nil)))) (pss_one (ps_err (pz 0) (pz 1)))), ?_⟩
  obtain ⟨a, rfl, ha, q⟩ := h
  refine ⟨a, _, _, _, rfl, by show 1 ≤ 1000; decide, T.ec_InvalidPicture, ha, ?_⟩
  exact ⟨a, _, _, rfl, T.ec_InvalidPicture, T.n_InvalidPicture, ha, fun dx nd ne => q dx nd ne⟩

abbrev si_InvalidState : Stmt := (clsB (top 16)).getD 0 (.Pass ⟨0, 0, 0, 0⟩)
theorem sci_InvalidState : FnScope ["self", "given"] ["self", "given"] (defScope si_InvalidState) := ⟨rfl, rfl, rfl, by decide +kernel, rfl, by decide +kernel, by decide +kernel⟩
theorem oki_InvalidState {P : Program} {w : World} {K : PySem.W.Frag} {mg : Str → Option Value} {base : Heap} {e_InvalidAct e_InvalidActs e_InvalidBrokers e_InvalidCommand e_InvalidCommands e_InvalidCount e_InvalidDisk e_InvalidItems e_InvalidKeeps e_InvalidLetter e_InvalidLine e_InvalidName e_InvalidNumber e_InvalidPicture e_InvalidState e_InvalidTerm e_InvalidText e_InvalidValue e_InvalidWorld e_TooLong e_NoFile e_NoRow e_NoTopic e_NoGroup e_NotLeading e_Fallen e_Held e_PowerCut e_QueueError fI : Addr} {fd : FuncData} (T : Txt K mg e_InvalidAct e_InvalidActs e_InvalidBrokers e_InvalidCommand e_InvalidCommands e_InvalidCount e_InvalidDisk e_InvalidItems e_InvalidKeeps e_InvalidLetter e_InvalidLine e_InvalidName e_InvalidNumber e_InvalidPicture e_InvalidState e_InvalidTerm e_InvalidText e_InvalidValue e_InvalidWorld e_TooLong e_NoFile e_NoRow e_NoTopic e_NoGroup e_NotLeading e_Fallen e_Held e_PowerCut e_QueueError) (F : Fun K "__init__" "InvalidState.__init__" si_InvalidState fI fd) : FnOk P w K mg base CX0 1 fI fd ["self", "given"] (spIni e_InvalidState "given") := by
  obtain ⟨mc, q1, q2, q3⟩ := T.q_QueueError.ex
  refine ini2 F sci_InvalidState fun cdv A outer s H u v Q E hr h => ⟨_, (pss_cons (ps_expr (pe_binit T.g_QueueError q1 q2 q3 (pa_cons (pz 0) (pa_cons pe_str pa_nil)))) (pss_one (ps_err (pz 0) (pz 1)))), ?_⟩
  obtain ⟨a, rfl, ha, q⟩ := h
  refine ⟨a, _, _, _, rfl, by show 1 ≤ 1000; decide, T.ec_InvalidState, ha, ?_⟩
  exact ⟨a, _, _, rfl, T.ec_InvalidState, T.n_InvalidState, ha, fun dx nd ne => q dx nd ne⟩

abbrev si_InvalidTerm : Stmt := (clsB (top 17)).getD 0 (.Pass ⟨0, 0, 0, 0⟩)
theorem sci_InvalidTerm : FnScope ["self", "given"] ["self", "given"] (defScope si_InvalidTerm) := ⟨rfl, rfl, rfl, by decide +kernel, rfl, by decide +kernel, by decide +kernel⟩
theorem oki_InvalidTerm {P : Program} {w : World} {K : PySem.W.Frag} {mg : Str → Option Value} {base : Heap} {e_InvalidAct e_InvalidActs e_InvalidBrokers e_InvalidCommand e_InvalidCommands e_InvalidCount e_InvalidDisk e_InvalidItems e_InvalidKeeps e_InvalidLetter e_InvalidLine e_InvalidName e_InvalidNumber e_InvalidPicture e_InvalidState e_InvalidTerm e_InvalidText e_InvalidValue e_InvalidWorld e_TooLong e_NoFile e_NoRow e_NoTopic e_NoGroup e_NotLeading e_Fallen e_Held e_PowerCut e_QueueError fI : Addr} {fd : FuncData} (T : Txt K mg e_InvalidAct e_InvalidActs e_InvalidBrokers e_InvalidCommand e_InvalidCommands e_InvalidCount e_InvalidDisk e_InvalidItems e_InvalidKeeps e_InvalidLetter e_InvalidLine e_InvalidName e_InvalidNumber e_InvalidPicture e_InvalidState e_InvalidTerm e_InvalidText e_InvalidValue e_InvalidWorld e_TooLong e_NoFile e_NoRow e_NoTopic e_NoGroup e_NotLeading e_Fallen e_Held e_PowerCut e_QueueError) (F : Fun K "__init__" "InvalidTerm.__init__" si_InvalidTerm fI fd) : FnOk P w K mg base CX0 1 fI fd ["self", "given"] (spIni e_InvalidTerm "given") := by
  obtain ⟨mc, q1, q2, q3⟩ := T.q_QueueError.ex
  refine ini2 F sci_InvalidTerm fun cdv A outer s H u v Q E hr h => ⟨_, (pss_cons (ps_expr (pe_binit T.g_QueueError q1 q2 q3 (pa_cons (pz 0) (pa_cons pe_str pa_nil)))) (pss_one (ps_err (pz 0) (pz 1)))), ?_⟩
  obtain ⟨a, rfl, ha, q⟩ := h
  refine ⟨a, _, _, _, rfl, by show 1 ≤ 1000; decide, T.ec_InvalidTerm, ha, ?_⟩
  exact ⟨a, _, _, rfl, T.ec_InvalidTerm, T.n_InvalidTerm, ha, fun dx nd ne => q dx nd ne⟩

abbrev si_InvalidText : Stmt := (clsB (top 18)).getD 0 (.Pass ⟨0, 0, 0, 0⟩)
theorem sci_InvalidText : FnScope ["self", "given"] ["self", "given"] (defScope si_InvalidText) := ⟨rfl, rfl, rfl, by decide +kernel, rfl, by decide +kernel, by decide +kernel⟩
theorem oki_InvalidText {P : Program} {w : World} {K : PySem.W.Frag} {mg : Str → Option Value} {base : Heap} {e_InvalidAct e_InvalidActs e_InvalidBrokers e_InvalidCommand e_InvalidCommands e_InvalidCount e_InvalidDisk e_InvalidItems e_InvalidKeeps e_InvalidLetter e_InvalidLine e_InvalidName e_InvalidNumber e_InvalidPicture e_InvalidState e_InvalidTerm e_InvalidText e_InvalidValue e_InvalidWorld e_TooLong e_NoFile e_NoRow e_NoTopic e_NoGroup e_NotLeading e_Fallen e_Held e_PowerCut e_QueueError fI : Addr} {fd : FuncData} (T : Txt K mg e_InvalidAct e_InvalidActs e_InvalidBrokers e_InvalidCommand e_InvalidCommands e_InvalidCount e_InvalidDisk e_InvalidItems e_InvalidKeeps e_InvalidLetter e_InvalidLine e_InvalidName e_InvalidNumber e_InvalidPicture e_InvalidState e_InvalidTerm e_InvalidText e_InvalidValue e_InvalidWorld e_TooLong e_NoFile e_NoRow e_NoTopic e_NoGroup e_NotLeading e_Fallen e_Held e_PowerCut e_QueueError) (F : Fun K "__init__" "InvalidText.__init__" si_InvalidText fI fd) : FnOk P w K mg base CX0 1 fI fd ["self", "given"] (spIni e_InvalidText "given") := by
  obtain ⟨mc, q1, q2, q3⟩ := T.q_QueueError.ex
  refine ini2 F sci_InvalidText fun cdv A outer s H u v Q E hr h => ⟨_, (pss_cons (ps_expr (pe_binit T.g_QueueError q1 q2 q3 (pa_cons (pz 0) (pa_cons pe_str pa_nil)))) (pss_one (ps_err (pz 0) (pz 1)))), ?_⟩
  obtain ⟨a, rfl, ha, q⟩ := h
  refine ⟨a, _, _, _, rfl, by show 1 ≤ 1000; decide, T.ec_InvalidText, ha, ?_⟩
  exact ⟨a, _, _, rfl, T.ec_InvalidText, T.n_InvalidText, ha, fun dx nd ne => q dx nd ne⟩

abbrev si_InvalidValue : Stmt := (clsB (top 19)).getD 0 (.Pass ⟨0, 0, 0, 0⟩)
theorem sci_InvalidValue : FnScope ["self", "given"] ["self", "given"] (defScope si_InvalidValue) := ⟨rfl, rfl, rfl, by decide +kernel, rfl, by decide +kernel, by decide +kernel⟩
theorem oki_InvalidValue {P : Program} {w : World} {K : PySem.W.Frag} {mg : Str → Option Value} {base : Heap} {e_InvalidAct e_InvalidActs e_InvalidBrokers e_InvalidCommand e_InvalidCommands e_InvalidCount e_InvalidDisk e_InvalidItems e_InvalidKeeps e_InvalidLetter e_InvalidLine e_InvalidName e_InvalidNumber e_InvalidPicture e_InvalidState e_InvalidTerm e_InvalidText e_InvalidValue e_InvalidWorld e_TooLong e_NoFile e_NoRow e_NoTopic e_NoGroup e_NotLeading e_Fallen e_Held e_PowerCut e_QueueError fI : Addr} {fd : FuncData} (T : Txt K mg e_InvalidAct e_InvalidActs e_InvalidBrokers e_InvalidCommand e_InvalidCommands e_InvalidCount e_InvalidDisk e_InvalidItems e_InvalidKeeps e_InvalidLetter e_InvalidLine e_InvalidName e_InvalidNumber e_InvalidPicture e_InvalidState e_InvalidTerm e_InvalidText e_InvalidValue e_InvalidWorld e_TooLong e_NoFile e_NoRow e_NoTopic e_NoGroup e_NotLeading e_Fallen e_Held e_PowerCut e_QueueError) (F : Fun K "__init__" "InvalidValue.__init__" si_InvalidValue fI fd) : FnOk P w K mg base CX0 1 fI fd ["self", "given"] (spIni e_InvalidValue "given") := by
  obtain ⟨mc, q1, q2, q3⟩ := T.q_QueueError.ex
  refine ini2 F sci_InvalidValue fun cdv A outer s H u v Q E hr h => ⟨_, (pss_cons (ps_expr (pe_binit T.g_QueueError q1 q2 q3 (pa_cons (pz 0) (pa_cons pe_str pa_nil)))) (pss_one (ps_err (pz 0) (pz 1)))), ?_⟩
  obtain ⟨a, rfl, ha, q⟩ := h
  refine ⟨a, _, _, _, rfl, by show 1 ≤ 1000; decide, T.ec_InvalidValue, ha, ?_⟩
  exact ⟨a, _, _, rfl, T.ec_InvalidValue, T.n_InvalidValue, ha, fun dx nd ne => q dx nd ne⟩

abbrev si_InvalidWorld : Stmt := (clsB (top 20)).getD 0 (.Pass ⟨0, 0, 0, 0⟩)
theorem sci_InvalidWorld : FnScope ["self", "given"] ["self", "given"] (defScope si_InvalidWorld) := ⟨rfl, rfl, rfl, by decide +kernel, rfl, by decide +kernel, by decide +kernel⟩
theorem oki_InvalidWorld {P : Program} {w : World} {K : PySem.W.Frag} {mg : Str → Option Value} {base : Heap} {e_InvalidAct e_InvalidActs e_InvalidBrokers e_InvalidCommand e_InvalidCommands e_InvalidCount e_InvalidDisk e_InvalidItems e_InvalidKeeps e_InvalidLetter e_InvalidLine e_InvalidName e_InvalidNumber e_InvalidPicture e_InvalidState e_InvalidTerm e_InvalidText e_InvalidValue e_InvalidWorld e_TooLong e_NoFile e_NoRow e_NoTopic e_NoGroup e_NotLeading e_Fallen e_Held e_PowerCut e_QueueError fI : Addr} {fd : FuncData} (T : Txt K mg e_InvalidAct e_InvalidActs e_InvalidBrokers e_InvalidCommand e_InvalidCommands e_InvalidCount e_InvalidDisk e_InvalidItems e_InvalidKeeps e_InvalidLetter e_InvalidLine e_InvalidName e_InvalidNumber e_InvalidPicture e_InvalidState e_InvalidTerm e_InvalidText e_InvalidValue e_InvalidWorld e_TooLong e_NoFile e_NoRow e_NoTopic e_NoGroup e_NotLeading e_Fallen e_Held e_PowerCut e_QueueError) (F : Fun K "__init__" "InvalidWorld.__init__" si_InvalidWorld fI fd) : FnOk P w K mg base CX0 1 fI fd ["self", "given"] (spIni e_InvalidWorld "given") := by
  obtain ⟨mc, q1, q2, q3⟩ := T.q_QueueError.ex
  refine ini2 F sci_InvalidWorld fun cdv A outer s H u v Q E hr h => ⟨_, (pss_cons (ps_expr (pe_binit T.g_QueueError q1 q2 q3 (pa_cons (pz 0) (pa_cons pe_str pa_nil)))) (pss_one (ps_err (pz 0) (pz 1)))), ?_⟩
  obtain ⟨a, rfl, ha, q⟩ := h
  refine ⟨a, _, _, _, rfl, by show 1 ≤ 1000; decide, T.ec_InvalidWorld, ha, ?_⟩
  exact ⟨a, _, _, rfl, T.ec_InvalidWorld, T.n_InvalidWorld, ha, fun dx nd ne => q dx nd ne⟩

abbrev si_TooLong : Stmt := (clsB (top 23)).getD 0 (.Pass ⟨0, 0, 0, 0⟩)
theorem sci_TooLong : FnScope ["self", "signs"] ["self", "signs"] (defScope si_TooLong) := ⟨rfl, rfl, rfl, by decide +kernel, rfl, by decide +kernel, by decide +kernel⟩
theorem oki_TooLong {P : Program} {w : World} {K : PySem.W.Frag} {mg : Str → Option Value} {base : Heap} {e_InvalidAct e_InvalidActs e_InvalidBrokers e_InvalidCommand e_InvalidCommands e_InvalidCount e_InvalidDisk e_InvalidItems e_InvalidKeeps e_InvalidLetter e_InvalidLine e_InvalidName e_InvalidNumber e_InvalidPicture e_InvalidState e_InvalidTerm e_InvalidText e_InvalidValue e_InvalidWorld e_TooLong e_NoFile e_NoRow e_NoTopic e_NoGroup e_NotLeading e_Fallen e_Held e_PowerCut e_QueueError fI : Addr} {fd : FuncData} (T : Txt K mg e_InvalidAct e_InvalidActs e_InvalidBrokers e_InvalidCommand e_InvalidCommands e_InvalidCount e_InvalidDisk e_InvalidItems e_InvalidKeeps e_InvalidLetter e_InvalidLine e_InvalidName e_InvalidNumber e_InvalidPicture e_InvalidState e_InvalidTerm e_InvalidText e_InvalidValue e_InvalidWorld e_TooLong e_NoFile e_NoRow e_NoTopic e_NoGroup e_NotLeading e_Fallen e_Held e_PowerCut e_QueueError) (F : Fun K "__init__" "TooLong.__init__" si_TooLong fI fd) : FnOk P w K mg base CX0 1 fI fd ["self", "signs"] (spIni e_TooLong "signs") := by
  obtain ⟨mc, q1, q2, q3⟩ := T.q_QueueError.ex
  refine ini2 F sci_TooLong fun cdv A outer s H u v Q E hr h => ⟨_, (pss_cons (ps_expr (pe_binit T.g_QueueError q1 q2 q3 (pa_cons (pz 0) (pa_cons pe_str pa_nil)))) (pss_one (ps_err (pz 0) (pz 1)))), ?_⟩
  obtain ⟨a, rfl, ha, q⟩ := h
  refine ⟨a, _, _, _, rfl, by show 1 ≤ 1000; decide, T.ec_TooLong, ha, ?_⟩
  exact ⟨a, _, _, rfl, T.ec_TooLong, T.n_TooLong, ha, fun dx nd ne => q dx nd ne⟩

abbrev si_NoFile : Stmt := (clsB (top 24)).getD 0 (.Pass ⟨0, 0, 0, 0⟩)
theorem sci_NoFile : FnScope ["self", "name"] ["self", "name"] (defScope si_NoFile) := ⟨rfl, rfl, rfl, by decide +kernel, rfl, by decide +kernel, by decide +kernel⟩
theorem oki_NoFile {P : Program} {w : World} {K : PySem.W.Frag} {mg : Str → Option Value} {base : Heap} {e_InvalidAct e_InvalidActs e_InvalidBrokers e_InvalidCommand e_InvalidCommands e_InvalidCount e_InvalidDisk e_InvalidItems e_InvalidKeeps e_InvalidLetter e_InvalidLine e_InvalidName e_InvalidNumber e_InvalidPicture e_InvalidState e_InvalidTerm e_InvalidText e_InvalidValue e_InvalidWorld e_TooLong e_NoFile e_NoRow e_NoTopic e_NoGroup e_NotLeading e_Fallen e_Held e_PowerCut e_QueueError fI : Addr} {fd : FuncData} (T : Txt K mg e_InvalidAct e_InvalidActs e_InvalidBrokers e_InvalidCommand e_InvalidCommands e_InvalidCount e_InvalidDisk e_InvalidItems e_InvalidKeeps e_InvalidLetter e_InvalidLine e_InvalidName e_InvalidNumber e_InvalidPicture e_InvalidState e_InvalidTerm e_InvalidText e_InvalidValue e_InvalidWorld e_TooLong e_NoFile e_NoRow e_NoTopic e_NoGroup e_NotLeading e_Fallen e_Held e_PowerCut e_QueueError) (F : Fun K "__init__" "NoFile.__init__" si_NoFile fI fd) : FnOk P w K mg base CX0 1 fI fd ["self", "name"] (spIni e_NoFile "name") := by
  obtain ⟨mc, q1, q2, q3⟩ := T.q_QueueError.ex
  refine ini2 F sci_NoFile fun cdv A outer s H u v Q E hr h => ⟨_, (pss_cons (ps_expr (pe_binit T.g_QueueError q1 q2 q3 (pa_cons (pz 0) (pa_cons pe_str pa_nil)))) (pss_one (ps_err (pz 0) (pz 1)))), ?_⟩
  obtain ⟨a, rfl, ha, q⟩ := h
  refine ⟨a, _, _, _, rfl, by show 1 ≤ 1000; decide, T.ec_NoFile, ha, ?_⟩
  exact ⟨a, _, _, rfl, T.ec_NoFile, T.n_NoFile, ha, fun dx nd ne => q dx nd ne⟩

abbrev si_NoRow : Stmt := (clsB (top 25)).getD 0 (.Pass ⟨0, 0, 0, 0⟩)
theorem sci_NoRow : FnScope ["self", "index"] ["self", "index"] (defScope si_NoRow) := ⟨rfl, rfl, rfl, by decide +kernel, rfl, by decide +kernel, by decide +kernel⟩
theorem oki_NoRow {P : Program} {w : World} {K : PySem.W.Frag} {mg : Str → Option Value} {base : Heap} {e_InvalidAct e_InvalidActs e_InvalidBrokers e_InvalidCommand e_InvalidCommands e_InvalidCount e_InvalidDisk e_InvalidItems e_InvalidKeeps e_InvalidLetter e_InvalidLine e_InvalidName e_InvalidNumber e_InvalidPicture e_InvalidState e_InvalidTerm e_InvalidText e_InvalidValue e_InvalidWorld e_TooLong e_NoFile e_NoRow e_NoTopic e_NoGroup e_NotLeading e_Fallen e_Held e_PowerCut e_QueueError fI : Addr} {fd : FuncData} (T : Txt K mg e_InvalidAct e_InvalidActs e_InvalidBrokers e_InvalidCommand e_InvalidCommands e_InvalidCount e_InvalidDisk e_InvalidItems e_InvalidKeeps e_InvalidLetter e_InvalidLine e_InvalidName e_InvalidNumber e_InvalidPicture e_InvalidState e_InvalidTerm e_InvalidText e_InvalidValue e_InvalidWorld e_TooLong e_NoFile e_NoRow e_NoTopic e_NoGroup e_NotLeading e_Fallen e_Held e_PowerCut e_QueueError) (F : Fun K "__init__" "NoRow.__init__" si_NoRow fI fd) : FnOk P w K mg base CX0 1 fI fd ["self", "index"] (spIni e_NoRow "index") := by
  obtain ⟨mc, q1, q2, q3⟩ := T.q_QueueError.ex
  refine ini2 F sci_NoRow fun cdv A outer s H u v Q E hr h => ⟨_, (pss_cons (ps_expr (pe_binit T.g_QueueError q1 q2 q3 (pa_cons (pz 0) (pa_cons pe_str pa_nil)))) (pss_one (ps_err (pz 0) (pz 1)))), ?_⟩
  obtain ⟨a, rfl, ha, q⟩ := h
  refine ⟨a, _, _, _, rfl, by show 1 ≤ 1000; decide, T.ec_NoRow, ha, ?_⟩
  exact ⟨a, _, _, rfl, T.ec_NoRow, T.n_NoRow, ha, fun dx nd ne => q dx nd ne⟩

abbrev si_NoTopic : Stmt := (clsB (top 26)).getD 0 (.Pass ⟨0, 0, 0, 0⟩)
theorem sci_NoTopic : FnScope ["self", "topic"] ["self", "topic"] (defScope si_NoTopic) := ⟨rfl, rfl, rfl, by decide +kernel, rfl, by decide +kernel, by decide +kernel⟩
theorem oki_NoTopic {P : Program} {w : World} {K : PySem.W.Frag} {mg : Str → Option Value} {base : Heap} {e_InvalidAct e_InvalidActs e_InvalidBrokers e_InvalidCommand e_InvalidCommands e_InvalidCount e_InvalidDisk e_InvalidItems e_InvalidKeeps e_InvalidLetter e_InvalidLine e_InvalidName e_InvalidNumber e_InvalidPicture e_InvalidState e_InvalidTerm e_InvalidText e_InvalidValue e_InvalidWorld e_TooLong e_NoFile e_NoRow e_NoTopic e_NoGroup e_NotLeading e_Fallen e_Held e_PowerCut e_QueueError fI : Addr} {fd : FuncData} (T : Txt K mg e_InvalidAct e_InvalidActs e_InvalidBrokers e_InvalidCommand e_InvalidCommands e_InvalidCount e_InvalidDisk e_InvalidItems e_InvalidKeeps e_InvalidLetter e_InvalidLine e_InvalidName e_InvalidNumber e_InvalidPicture e_InvalidState e_InvalidTerm e_InvalidText e_InvalidValue e_InvalidWorld e_TooLong e_NoFile e_NoRow e_NoTopic e_NoGroup e_NotLeading e_Fallen e_Held e_PowerCut e_QueueError) (F : Fun K "__init__" "NoTopic.__init__" si_NoTopic fI fd) : FnOk P w K mg base CX0 1 fI fd ["self", "topic"] (spIni e_NoTopic "topic") := by
  obtain ⟨mc, q1, q2, q3⟩ := T.q_QueueError.ex
  refine ini2 F sci_NoTopic fun cdv A outer s H u v Q E hr h => ⟨_, (pss_cons (ps_expr (pe_binit T.g_QueueError q1 q2 q3 (pa_cons (pz 0) (pa_cons pe_str pa_nil)))) (pss_one (ps_err (pz 0) (pz 1)))), ?_⟩
  obtain ⟨a, rfl, ha, q⟩ := h
  refine ⟨a, _, _, _, rfl, by show 1 ≤ 1000; decide, T.ec_NoTopic, ha, ?_⟩
  exact ⟨a, _, _, rfl, T.ec_NoTopic, T.n_NoTopic, ha, fun dx nd ne => q dx nd ne⟩

abbrev si_NoGroup : Stmt := (clsB (top 27)).getD 0 (.Pass ⟨0, 0, 0, 0⟩)
theorem sci_NoGroup : FnScope ["self", "group"] ["self", "group"] (defScope si_NoGroup) := ⟨rfl, rfl, rfl, by decide +kernel, rfl, by decide +kernel, by decide +kernel⟩
theorem oki_NoGroup {P : Program} {w : World} {K : PySem.W.Frag} {mg : Str → Option Value} {base : Heap} {e_InvalidAct e_InvalidActs e_InvalidBrokers e_InvalidCommand e_InvalidCommands e_InvalidCount e_InvalidDisk e_InvalidItems e_InvalidKeeps e_InvalidLetter e_InvalidLine e_InvalidName e_InvalidNumber e_InvalidPicture e_InvalidState e_InvalidTerm e_InvalidText e_InvalidValue e_InvalidWorld e_TooLong e_NoFile e_NoRow e_NoTopic e_NoGroup e_NotLeading e_Fallen e_Held e_PowerCut e_QueueError fI : Addr} {fd : FuncData} (T : Txt K mg e_InvalidAct e_InvalidActs e_InvalidBrokers e_InvalidCommand e_InvalidCommands e_InvalidCount e_InvalidDisk e_InvalidItems e_InvalidKeeps e_InvalidLetter e_InvalidLine e_InvalidName e_InvalidNumber e_InvalidPicture e_InvalidState e_InvalidTerm e_InvalidText e_InvalidValue e_InvalidWorld e_TooLong e_NoFile e_NoRow e_NoTopic e_NoGroup e_NotLeading e_Fallen e_Held e_PowerCut e_QueueError) (F : Fun K "__init__" "NoGroup.__init__" si_NoGroup fI fd) : FnOk P w K mg base CX0 1 fI fd ["self", "group"] (spIni e_NoGroup "group") := by
  obtain ⟨mc, q1, q2, q3⟩ := T.q_QueueError.ex
  refine ini2 F sci_NoGroup fun cdv A outer s H u v Q E hr h => ⟨_, (pss_cons (ps_expr (pe_binit T.g_QueueError q1 q2 q3 (pa_cons (pz 0) (pa_cons pe_str pa_nil)))) (pss_one (ps_err (pz 0) (pz 1)))), ?_⟩
  obtain ⟨a, rfl, ha, q⟩ := h
  refine ⟨a, _, _, _, rfl, by show 1 ≤ 1000; decide, T.ec_NoGroup, ha, ?_⟩
  exact ⟨a, _, _, rfl, T.ec_NoGroup, T.n_NoGroup, ha, fun dx nd ne => q dx nd ne⟩

abbrev si_NotLeading : Stmt := (clsB (top 28)).getD 0 (.Pass ⟨0, 0, 0, 0⟩)
theorem sci_NotLeading : FnScope ["self", "leader"] ["self", "leader"] (defScope si_NotLeading) := ⟨rfl, rfl, rfl, by decide +kernel, rfl, by decide +kernel, by decide +kernel⟩
theorem oki_NotLeading {P : Program} {w : World} {K : PySem.W.Frag} {mg : Str → Option Value} {base : Heap} {e_InvalidAct e_InvalidActs e_InvalidBrokers e_InvalidCommand e_InvalidCommands e_InvalidCount e_InvalidDisk e_InvalidItems e_InvalidKeeps e_InvalidLetter e_InvalidLine e_InvalidName e_InvalidNumber e_InvalidPicture e_InvalidState e_InvalidTerm e_InvalidText e_InvalidValue e_InvalidWorld e_TooLong e_NoFile e_NoRow e_NoTopic e_NoGroup e_NotLeading e_Fallen e_Held e_PowerCut e_QueueError fI : Addr} {fd : FuncData} (T : Txt K mg e_InvalidAct e_InvalidActs e_InvalidBrokers e_InvalidCommand e_InvalidCommands e_InvalidCount e_InvalidDisk e_InvalidItems e_InvalidKeeps e_InvalidLetter e_InvalidLine e_InvalidName e_InvalidNumber e_InvalidPicture e_InvalidState e_InvalidTerm e_InvalidText e_InvalidValue e_InvalidWorld e_TooLong e_NoFile e_NoRow e_NoTopic e_NoGroup e_NotLeading e_Fallen e_Held e_PowerCut e_QueueError) (F : Fun K "__init__" "NotLeading.__init__" si_NotLeading fI fd) : FnOk P w K mg base CX0 1 fI fd ["self", "leader"] (spIni e_NotLeading "leader") := by
  obtain ⟨mc, q1, q2, q3⟩ := T.q_QueueError.ex
  refine ini2 F sci_NotLeading fun cdv A outer s H u v Q E hr h => ⟨_, (pss_cons (ps_expr (pe_binit T.g_QueueError q1 q2 q3 (pa_cons (pz 0) (pa_cons pe_str pa_nil)))) (pss_one (ps_err (pz 0) (pz 1)))), ?_⟩
  obtain ⟨a, rfl, ha, q⟩ := h
  refine ⟨a, _, _, _, rfl, by show 1 ≤ 1000; decide, T.ec_NotLeading, ha, ?_⟩
  exact ⟨a, _, _, rfl, T.ec_NotLeading, T.n_NotLeading, ha, fun dx nd ne => q dx nd ne⟩

abbrev si_Fallen : Stmt := (clsB (top 29)).getD 0 (.Pass ⟨0, 0, 0, 0⟩)
theorem sci_Fallen : FnScope ["self", "who"] ["self", "who"] (defScope si_Fallen) := ⟨rfl, rfl, rfl, by decide +kernel, rfl, by decide +kernel, by decide +kernel⟩
theorem oki_Fallen {P : Program} {w : World} {K : PySem.W.Frag} {mg : Str → Option Value} {base : Heap} {e_InvalidAct e_InvalidActs e_InvalidBrokers e_InvalidCommand e_InvalidCommands e_InvalidCount e_InvalidDisk e_InvalidItems e_InvalidKeeps e_InvalidLetter e_InvalidLine e_InvalidName e_InvalidNumber e_InvalidPicture e_InvalidState e_InvalidTerm e_InvalidText e_InvalidValue e_InvalidWorld e_TooLong e_NoFile e_NoRow e_NoTopic e_NoGroup e_NotLeading e_Fallen e_Held e_PowerCut e_QueueError fI : Addr} {fd : FuncData} (T : Txt K mg e_InvalidAct e_InvalidActs e_InvalidBrokers e_InvalidCommand e_InvalidCommands e_InvalidCount e_InvalidDisk e_InvalidItems e_InvalidKeeps e_InvalidLetter e_InvalidLine e_InvalidName e_InvalidNumber e_InvalidPicture e_InvalidState e_InvalidTerm e_InvalidText e_InvalidValue e_InvalidWorld e_TooLong e_NoFile e_NoRow e_NoTopic e_NoGroup e_NotLeading e_Fallen e_Held e_PowerCut e_QueueError) (F : Fun K "__init__" "Fallen.__init__" si_Fallen fI fd) : FnOk P w K mg base CX0 1 fI fd ["self", "who"] (spIni e_Fallen "who") := by
  obtain ⟨mc, q1, q2, q3⟩ := T.q_QueueError.ex
  refine ini2 F sci_Fallen fun cdv A outer s H u v Q E hr h => ⟨_, (pss_cons (ps_expr (pe_binit T.g_QueueError q1 q2 q3 (pa_cons (pz 0) (pa_cons pe_str pa_nil)))) (pss_one (ps_err (pz 0) (pz 1)))), ?_⟩
  obtain ⟨a, rfl, ha, q⟩ := h
  refine ⟨a, _, _, _, rfl, by show 1 ≤ 1000; decide, T.ec_Fallen, ha, ?_⟩
  exact ⟨a, _, _, rfl, T.ec_Fallen, T.n_Fallen, ha, fun dx nd ne => q dx nd ne⟩

abbrev si_Held : Stmt := (clsB (top 22)).getD 0 (.Pass ⟨0, 0, 0, 0⟩)
theorem sci_Held : FnScope ["self", "group", "number"] ["self", "group", "number"] (defScope si_Held) := ⟨rfl, rfl, rfl, by decide +kernel, rfl, by decide +kernel, by decide +kernel⟩
theorem oki_Held {P : Program} {w : World} {K : PySem.W.Frag} {mg : Str → Option Value} {base : Heap} {e_InvalidAct e_InvalidActs e_InvalidBrokers e_InvalidCommand e_InvalidCommands e_InvalidCount e_InvalidDisk e_InvalidItems e_InvalidKeeps e_InvalidLetter e_InvalidLine e_InvalidName e_InvalidNumber e_InvalidPicture e_InvalidState e_InvalidTerm e_InvalidText e_InvalidValue e_InvalidWorld e_TooLong e_NoFile e_NoRow e_NoTopic e_NoGroup e_NotLeading e_Fallen e_Held e_PowerCut e_QueueError fI : Addr} {fd : FuncData} (T : Txt K mg e_InvalidAct e_InvalidActs e_InvalidBrokers e_InvalidCommand e_InvalidCommands e_InvalidCount e_InvalidDisk e_InvalidItems e_InvalidKeeps e_InvalidLetter e_InvalidLine e_InvalidName e_InvalidNumber e_InvalidPicture e_InvalidState e_InvalidTerm e_InvalidText e_InvalidValue e_InvalidWorld e_TooLong e_NoFile e_NoRow e_NoTopic e_NoGroup e_NotLeading e_Fallen e_Held e_PowerCut e_QueueError) (F : Fun K "__init__" "Held.__init__" si_Held fI fd) : FnOk P w K mg base CX0 1 fI fd ["self", "group", "number"] (spIni2 e_Held "group" "number") := by
  obtain ⟨mc, q1, q2, q3⟩ := T.q_QueueError.ex
  refine ini3 F sci_Held fun cdv A outer s H u v z Q E hr h => ⟨_, (pss_cons (ps_expr (pe_binit T.g_QueueError q1 q2 q3 (pa_cons (pz 0) (pa_cons pe_str pa_nil)))) (pss_cons (ps_err (pz 0) (pz 1)) (pss_one (ps_errM (pz 0) (pz 2))))), ?_⟩
  obtain ⟨a, rfl, ha, q⟩ := h
  refine ⟨a, _, _, _, rfl, by show 1 ≤ 1000; decide, T.ec_Held, ha, ?_⟩
  refine ⟨a, _, _, rfl, T.ec_Held, T.n_Held, ha, fun dx nd ne => ?_⟩
  exact ⟨a, _, _, dx, _, rfl, T.ec_Held, T.m_Held, upd_same, (by rw [upd_ne ne, upd_same]), (by show 1 ≤ 900; decide), q dx nd ne⟩


local macro_rules | `(tactic| walk_at "hp") => `(tactic| first | assumption | (refine Nw.keep (by assumption) ?_; walk_at "hp") | (refine But.at (by assumption) (by assumption) ?_; walk_at "hp") | (refine Wr.keep (by assumption) (by assumption) ?_; walk_at "hp"))
/-! ### promises -/
/-- a box of digits and draws, with at most n draws so far -/
def BoxAt (n : Nat) (H : Hp) (b : Addr) : Prop := ∃ (g : Int) (f : Bool) (s c : Int), H b = some (.lst [.int g, .bl f, .int s, .int c]) ∧ 0 ≤ g ∧ 0 ≤ s ∧ s < 2147483648 ∧ 0 ≤ c ∧ c ≤ n
theorem BoxAt.mono {n m : Nat} {H : Hp} {b : Addr} (h : BoxAt n H b) (e : n ≤ m) : BoxAt m H b := by
  obtain ⟨g, f, s, c, h1, h2, h3, h4, h5, h6⟩ := h
  exact ⟨g, f, s, c, h1, h2, h3, h4, h5, by omega⟩
theorem BoxAt.same {n : Nat} {H H2 : Hp} {b : Addr} (h : BoxAt n H b) (e : Same H H2) : BoxAt n H2 b := by
  obtain ⟨g, f, s, c, h1, h2⟩ := h
  exact ⟨g, f, s, c, e _ _ h1, h2⟩
theorem BoxAt.some {n : Nat} {H : Hp} {b : Addr} (h : BoxAt n H b) : ∃ o, H b = Option.some o := by
  obtain ⟨g, f, s, c, h1, h2⟩ := h
  exact ⟨_, h1⟩
theorem BoxAt.ne {n : Nat} {H : Hp} {b p : Addr} (h : BoxAt n H b) (e : H p = none) : b ≠ p := by
  obtain ⟨o, h⟩ := h.some
  exact ne_of_none h e
theorem BoxAt.wr {n : Nat} {H H2 : Hp} {b l : Addr} {o : HO} (h : BoxAt n H b) (e : b ≠ l) (w : Wr H l o H2) : BoxAt n H2 b := by
  obtain ⟨g, f, s, c, h1, h2⟩ := h
  exact ⟨g, f, s, c, w.keep e h1, h2⟩
theorem BoxAt.but {n : Nat} {H H2 : Hp} {b l : Addr} (h : BoxAt n H b) (e : b ≠ l) (w : But l H H2) : BoxAt n H2 b := by
  obtain ⟨g, f, s, c, h1, h2⟩ := h
  exact ⟨g, f, s, c, w.at e h1, h2⟩
def TX (n : Nat) (l : List Nat) : Prop := Pr l ∧ l.length ≤ n
def sp__law_box (K : PySem.W.Frag) : Sp := sp1 fun great H Q _ => ∃ g, great = .int g ∧ ∀ b H2, H b = none → Same H H2 → BoxAt 0 H2 b → Q (.ref b) H2
def sp__law_cell (K : PySem.W.Frag) : Sp := sp2 fun script k H Q _ => ∃ (a : Addr) (i : Int) (ns : List Int), script = .ref a ∧ k = .int i ∧ 0 ≤ i ∧ i < 1000 ∧ SqL K H a (ns.map V.int) ∧ ns.length ≤ 63 ∧ ∀ z H2, Same H H2 → Q (.int z) H2
def sp__law_take (K : PySem.W.Frag) : Sp := sp2 fun box many H Q _ => ∃ (b : Addr) (m : Int) (n : Nat), box = .ref b ∧ many = .int m ∧ 0 < m ∧ m < 1000000 ∧ BoxAt n H b ∧ n < 1000000 ∧ ∀ r H2, But b H H2 → BoxAt (n + 1) H2 b → 0 ≤ r → r < m → Q (.int r) H2
theorem lit_nil : ("" : Str) = S [] := by decide +kernel
theorem joinSz (ls : List (List Nat)) (h : ls.flatten.length ≤ 10000000) : ((ls.map S).map (·.length)).sum + (ls.map S).length * ("" : Str).length ≤ 16777216 := by
  rw [lit_nil, length_S, lens, ← List.length_flatten]
  show _ + _ * 0 ≤ _
  omega
theorem nself (x : V) : (true ^^ decide (x = x)) = false := by rw [decide_eq_true rfl]; rfl
theorem eself (x : V) : (false ^^ decide (x = x)) = true := by rw [decide_eq_true rfl]; rfl
theorem menuS (ts : List Str) {n : Nat} (ok : (ts.all fun t => (t.cps.toList.all fun c => decide (32 ≤ c) && decide (c ≤ 126)) && decide (t.cps.toList.length ≤ n)) = true) {r : Int} (h0 : 0 ≤ r) (h : r < (ts.length : Int)) :
    ∃ l, atI (ts.map V.str) r = some (.str (S l)) ∧ TX n l := by
  obtain ⟨v, h1, h2, _⟩ := atI_some (xs := ts.map V.str) h0 (by rw [List.length_map]; exact h)
  obtain ⟨t, ht, rfl⟩ := List.mem_map.mp h2
  have q := (List.all_eq_true.mp ok) t ht
  rw [Bool.and_eq_true] at q
  refine ⟨t.cps.toList, ?_, pr_of q.1, of_decide_eq_true q.2⟩
  rw [S_tl]
  exact h1
/-- the signs of the alphabets -/
theorem near_item {t : Str} (h : (t.cps.toList.all fun c => decide (32 ≤ c) && decide (c ≤ 126)) = true) {r : Int} (h0 : 0 ≤ r) (h1 : r < (t.length : Int)) : ∃ c : Nat, atI t.cps.toList r = some c ∧ 32 ≤ c ∧ c ≤ 126 := by
  obtain ⟨c, e1, e2, _⟩ := atI_some (xs := t.cps.toList) h0 (by simpa [Str.length] using h1)
  have := (List.all_eq_true.mp h) c e2
  exact ⟨c, e1, by simpa using this⟩
theorem log_small {n : Nat} (h : n < 10000000) : ((n : Nat) : Int).natAbs.log2 < 1920 := by
  rw [Int.natAbs_natCast]
  rcases Nat.eq_zero_or_pos n with e | e
  · subst e; decide
  · have q : 2 ^ n.log2 ≤ n := Nat.log2_self_le (by omega)
    have h2 : n < 2 ^ 24 := by omega
    have : n.log2 < 24 := (Nat.pow_lt_pow_iff_right (by decide : 1 < 2)).mp (Nat.lt_of_le_of_lt q h2)
    omega
def names28 : List Str := ["InvalidAct", "InvalidActs", "InvalidBrokers", "InvalidCommand", "InvalidCommands", "InvalidCount", "InvalidDisk", "InvalidItems", "InvalidKeeps", "InvalidLetter", "InvalidLine", "InvalidName", "InvalidNumber", "InvalidPicture", "InvalidState", "InvalidTerm", "InvalidText", "InvalidValue", "InvalidWorld", "TooLong", "NoFile", "NoRow", "NoTopic", "NoGroup", "NotLeading", "Fallen", "Held", "PowerCut"]
def fldN (i : Nat) : Str := if i = 19 then "signs" else if i = 20 then "name" else if i = 21 then "index" else if i = 22 then "topic" else if i = 23 then "group" else if i = 24 then "leader" else if i = 25 then "who" else "given"
/-- the classes in a row -/
inductive Row (K : PySem.W.Frag) (B : Addr) : List Str → List Addr → Prop
  | nil : Row K B [] []
  | cons {nm : Str} {C : Addr} {ns : List Str} {Cs : List Addr} : clsAt K nm C → Es K C → ErrC K C B → Row K B ns Cs → Row K B (nm :: ns) (C :: Cs)
theorem Row.at {K : PySem.W.Frag} {B : Addr} {ns : List Str} {Cs : List Addr} (h : Row K B ns Cs) : ∀ {i : Nat} {nm : Str} {C : Addr}, ns[i]? = some nm → clsAt K nm C → Cs[i]? = some C ∧ Es K C ∧ ErrC K C B := by
  induction h with
  | nil => intro i nm C e; cases i <;> cases e
  | cons c s t _ ih =>
    intro i nm C e c'
    cases i with
    | zero =>
      have e := Option.some.inj e
      subst e
      obtain rfl := c.one c'
      exact ⟨rfl, s, t⟩
    | succ i => exact ih e c'
theorem Row.kit {K : PySem.W.Frag} {B : Addr} {ns : List Str} {Cs : List Addr} (h : Row K B ns Cs) (nd : (Cs ++ [B]).Nodup) {i j : Nat} {C D : Addr} (hi : Cs[i]? = some C) (hj : Cs[j]? = some D) (T : ErrC K C B) (S : Es K D) : PySem.W.kitOne K (.ref C) (.ref D) = some (decide (j = i)) := by
  rw [kit_err T S.xf.hdC S.ty]
  rw [List.nodup_append] at nd
  obtain ⟨n1, _, n2⟩ := nd
  have ne : D ≠ B := n2 D (List.mem_of_getElem? hj) B (by simp)
  rw [decide_eq_false ne, Bool.or_false]
  congr 1
  rw [Bool.eq_iff_iff, decide_eq_true_iff, decide_eq_true_iff]
  obtain ⟨li, ei⟩ := List.getElem?_eq_some_iff.mp hi
  obtain ⟨lj, ej⟩ := List.getElem?_eq_some_iff.mp hj
  constructor
  · intro e
    rcases Nat.lt_trichotomy j i with z | z | z
    · exact absurd (ej.trans (e.trans ei.symm)) (List.pairwise_iff_getElem.mp n1 j i lj li z)
    · exact z
    · exact absurd (ei.trans (e.symm.trans ej.symm)) (List.pairwise_iff_getElem.mp n1 i j li lj z)
  · intro e
    subst e
    exact ej.symm.trans ei
theorem rows {K : PySem.W.Frag} {mg : Str → Option Value} {e_InvalidAct e_InvalidActs e_InvalidBrokers e_InvalidCommand e_InvalidCommands e_InvalidCount e_InvalidDisk e_InvalidItems e_InvalidKeeps e_InvalidLetter e_InvalidLine e_InvalidName e_InvalidNumber e_InvalidPicture e_InvalidState e_InvalidTerm e_InvalidText e_InvalidValue e_InvalidWorld e_TooLong e_NoFile e_NoRow e_NoTopic e_NoGroup e_NotLeading e_Fallen e_Held e_PowerCut e_QueueError : Addr} (T : Txt K mg e_InvalidAct e_InvalidActs e_InvalidBrokers e_InvalidCommand e_InvalidCommands e_InvalidCount e_InvalidDisk e_InvalidItems e_InvalidKeeps e_InvalidLetter e_InvalidLine e_InvalidName e_InvalidNumber e_InvalidPicture e_InvalidState e_InvalidTerm e_InvalidText e_InvalidValue e_InvalidWorld e_TooLong e_NoFile e_NoRow e_NoTopic e_NoGroup e_NotLeading e_Fallen e_Held e_PowerCut e_QueueError) : Row K e_QueueError names28 [e_InvalidAct, e_InvalidActs, e_InvalidBrokers, e_InvalidCommand, e_InvalidCommands, e_InvalidCount, e_InvalidDisk, e_InvalidItems, e_InvalidKeeps, e_InvalidLetter, e_InvalidLine, e_InvalidName, e_InvalidNumber, e_InvalidPicture, e_InvalidState, e_InvalidTerm, e_InvalidText, e_InvalidValue, e_InvalidWorld, e_TooLong, e_NoFile, e_NoRow, e_NoTopic, e_NoGroup, e_NotLeading, e_Fallen, e_Held, e_PowerCut] := .cons T.a_InvalidAct T.s_InvalidAct T.ec_InvalidAct (.cons T.a_InvalidActs T.s_InvalidActs T.ec_InvalidActs (.cons T.a_InvalidBrokers T.s_InvalidBrokers T.ec_InvalidBrokers (.cons T.a_InvalidCommand T.s_InvalidCommand T.ec_InvalidCommand (.cons T.a_InvalidCommands T.s_InvalidCommands T.ec_InvalidCommands (.cons T.a_InvalidCount T.s_InvalidCount T.ec_InvalidCount (.cons T.a_InvalidDisk T.s_InvalidDisk T.ec_InvalidDisk (.cons T.a_InvalidItems T.s_InvalidItems T.ec_InvalidItems (.cons T.a_InvalidKeeps T.s_InvalidKeeps T.ec_InvalidKeeps (.cons T.a_InvalidLetter T.s_InvalidLetter T.ec_InvalidLetter (.cons T.a_InvalidLine T.s_InvalidLine T.ec_InvalidLine (.cons T.a_InvalidName T.s_InvalidName T.ec_InvalidName (.cons T.a_InvalidNumber T.s_InvalidNumber T.ec_InvalidNumber (.cons T.a_InvalidPicture T.s_InvalidPicture T.ec_InvalidPicture (.cons T.a_InvalidState T.s_InvalidState T.ec_InvalidState (.cons T.a_InvalidTerm T.s_InvalidTerm T.ec_InvalidTerm (.cons T.a_InvalidText T.s_InvalidText T.ec_InvalidText (.cons T.a_InvalidValue T.s_InvalidValue T.ec_InvalidValue (.cons T.a_InvalidWorld T.s_InvalidWorld T.ec_InvalidWorld (.cons T.a_TooLong T.s_TooLong T.ec_TooLong (.cons T.a_NoFile T.s_NoFile T.ec_NoFile (.cons T.a_NoRow T.s_NoRow T.ec_NoRow (.cons T.a_NoTopic T.s_NoTopic T.ec_NoTopic (.cons T.a_NoGroup T.s_NoGroup T.ec_NoGroup (.cons T.a_NotLeading T.s_NotLeading T.ec_NotLeading (.cons T.a_Fallen T.s_Fallen T.ec_Fallen (.cons T.a_Held T.s_Held T.ec_Held (.cons T.a_PowerCut T.s_PowerCut T.ec_PowerCut (.nil))))))))))))))))))))))))))))
/-- the first 26 have one attribute, no class has it -/
inductive Owns (K : PySem.W.Frag) : Nat → List Addr → Prop
  | nil {i : Nat} : Owns K i []
  | cons {i : Nat} {C : Addr} {Cs : List Addr} : PySem.W.findIn K (.ref C) (fldN i) = some none → Owns K (i + 1) Cs → Owns K i (C :: Cs)
theorem Owns.at {K : PySem.W.Frag} {k : Nat} {Cs : List Addr} (h : Owns K k Cs) : ∀ {i : Nat} {C : Addr}, Cs[i]? = some C → PySem.W.findIn K (.ref C) (fldN (k + i)) = some none := by
  induction h with
  | nil => intro i C e; cases i <;> cases e
  | cons a _ ih =>
    intro i C e
    cases i with
    | zero =>
      have e := Option.some.inj e
      subst e
      exact a
    | succ i =>
      have := ih (i := i) e
      rw [show ∀ a b : Nat, a + 1 + b = a + (b + 1) from fun a b => by omega] at this
      exact this
theorem owns {K : PySem.W.Frag} {mg : Str → Option Value} {e_InvalidAct e_InvalidActs e_InvalidBrokers e_InvalidCommand e_InvalidCommands e_InvalidCount e_InvalidDisk e_InvalidItems e_InvalidKeeps e_InvalidLetter e_InvalidLine e_InvalidName e_InvalidNumber e_InvalidPicture e_InvalidState e_InvalidTerm e_InvalidText e_InvalidValue e_InvalidWorld e_TooLong e_NoFile e_NoRow e_NoTopic e_NoGroup e_NotLeading e_Fallen e_Held e_PowerCut e_QueueError : Addr} (T : Txt K mg e_InvalidAct e_InvalidActs e_InvalidBrokers e_InvalidCommand e_InvalidCommands e_InvalidCount e_InvalidDisk e_InvalidItems e_InvalidKeeps e_InvalidLetter e_InvalidLine e_InvalidName e_InvalidNumber e_InvalidPicture e_InvalidState e_InvalidTerm e_InvalidText e_InvalidValue e_InvalidWorld e_TooLong e_NoFile e_NoRow e_NoTopic e_NoGroup e_NotLeading e_Fallen e_Held e_PowerCut e_QueueError) : Owns K 0 [e_InvalidAct, e_InvalidActs, e_InvalidBrokers, e_InvalidCommand, e_InvalidCommands, e_InvalidCount, e_InvalidDisk, e_InvalidItems, e_InvalidKeeps, e_InvalidLetter, e_InvalidLine, e_InvalidName, e_InvalidNumber, e_InvalidPicture, e_InvalidState, e_InvalidTerm, e_InvalidText, e_InvalidValue, e_InvalidWorld, e_TooLong, e_NoFile, e_NoRow, e_NoTopic, e_NoGroup, e_NotLeading, e_Fallen] := .cons (by exact T.n_InvalidAct) (.cons (by exact T.n_InvalidActs) (.cons (by exact T.n_InvalidBrokers) (.cons (by exact T.n_InvalidCommand) (.cons (by exact T.n_InvalidCommands) (.cons (by exact T.n_InvalidCount) (.cons (by exact T.n_InvalidDisk) (.cons (by exact T.n_InvalidItems) (.cons (by exact T.n_InvalidKeeps) (.cons (by exact T.n_InvalidLetter) (.cons (by exact T.n_InvalidLine) (.cons (by exact T.n_InvalidName) (.cons (by exact T.n_InvalidNumber) (.cons (by exact T.n_InvalidPicture) (.cons (by exact T.n_InvalidState) (.cons (by exact T.n_InvalidTerm) (.cons (by exact T.n_InvalidText) (.cons (by exact T.n_InvalidValue) (.cons (by exact T.n_InvalidWorld) (.cons (by exact T.n_TooLong) (.cons (by exact T.n_NoFile) (.cons (by exact T.n_NoRow) (.cons (by exact T.n_NoTopic) (.cons (by exact T.n_NoGroup) (.cons (by exact T.n_NotLeading) (.cons (by exact T.n_Fallen) (.nil))))))))))))))))))))))))))
/-- an error of the i-th class -/
def EOf (K : PySem.W.Frag) (H : Hp) (a : Addr) (i : Nat) (fs : List (Str × V)) : Prop := ∃ nm C, names28[i]? = some nm ∧ clsAt K nm C ∧ Ert H a C fs
theorem EOf.same {K : PySem.W.Frag} {H H2 : Hp} {a : Addr} {i : Nat} {fs : List (Str × V)} (h : EOf K H a i fs) (s : Same H H2) : EOf K H2 a i fs := by
  obtain ⟨nm, C, e, c, r⟩ := h
  exact ⟨nm, C, e, c, r.same s⟩
def sp__law_sorts (K : PySem.W.Frag) : Sp := sp1 fun e H Q _ => ∃ a i fs, e = .ref a ∧ EOf K H a i fs ∧ ∀ p H2, Same H H2 → H p = none → H2 p = some (.lst ((List.range 28).map fun j => V.bl (decide (j = i)))) → Q (.ref p) H2
def sp__law_is (K : PySem.W.Frag) : Sp := sp2 fun e z H Q _ => ∃ a i fs, e = .ref a ∧ z = .int (i : Nat) ∧ EOf K H a i fs ∧ ∀ H2, Same H H2 → Q (.bl true) H2
def sp__law_kept (K : PySem.W.Frag) : Sp := sp1 fun e H Q _ => ∃ a i v, e = .ref a ∧ i < 26 ∧ EOf K H a i [(fldN i, v)] ∧ Q v H
inductive Alls (K : PySem.W.Frag) (H : Hp) (v : V) : Nat → List Addr → Prop
  | nil {j : Nat} : Alls K H v j []
  | cons {j : Nat} {a : Addr} {as : List Addr} : EOf K H a j [(fldN j, v)] → Alls K H v (j + 1) as → Alls K H v j (a :: as)
theorem Alls.same {K : PySem.W.Frag} {H H2 : Hp} {v : V} {j : Nat} {as : List Addr} (h : Alls K H v j as) (s : Same H H2) : Alls K H2 v j as := by
  induction h with
  | nil => exact .nil
  | cons a _ ih => exact .cons (a.same s) ih
theorem Alls.app {K : PySem.W.Frag} {H : Hp} {v : V} {j : Nat} {as : List Addr} {k : Nat} {a : Addr} (h : Alls K H v j as) (e : k = j + as.length) (x : EOf K H a k [(fldN k, v)]) : Alls K H v j (as ++ [a]) := by
  induction h with
  | nil =>
    have e : k = _ := e
    rw [e] at x
    exact .cons x .nil
  | cons b _ ih => exact .cons b (ih (by rw [e, List.length_cons]; omega))
theorem Alls.at {K : PySem.W.Frag} {H : Hp} {v : V} {j : Nat} {as : List Addr} (h : Alls K H v j as) : ∀ {i : Nat} {a : Addr}, as[i]? = some a → EOf K H a (j + i) [(fldN (j + i), v)] := by
  induction h with
  | nil => intro i a e; cases i <;> cases e
  | cons b _ ih =>
    intro i a e
    cases i with
    | zero =>
      have e := Option.some.inj e
      subst e
      exact b
    | succ i =>
      have := ih (i := i) e
      rw [show ∀ a b : Nat, a + 1 + b = a + (b + 1) from fun a b => by omega] at this
      exact this
def sp__law_by_place (K : PySem.W.Frag) : Sp := sp1 fun v H Q _ => ∀ p as H2, Same H H2 → H p = none → H2 p = some (.lst (as.map V.ref)) → Alls K H2 v 0 as → as.length = 26 → Q (.ref p) H2
def sp__law_by_name (K : PySem.W.Frag) : Sp := sp__law_by_place K
/-- a thing as data -/
def DD (H : Hp) (v : V) : Prop := ∃ d, Dz true H v d ∧ Sw 2 300 d ∧ nobox d = true
theorem DD.same {H H2 : Hp} {v : V} (h : DD H v) (s : Same H H2) : DD H2 v := by
  obtain ⟨d, a, b⟩ := h
  exact ⟨d, a.same s, b⟩
theorem DD.but {H H2 : Hp} {v : V} {n : Nat} {b : Addr} (h : DD H v) (B : BoxAt n H b) (s : But b H H2) : DD H2 v := by
  obtain ⟨d, x, y, z⟩ := h
  obtain ⟨_, _, _, _, hb, _⟩ := B
  exact ⟨d, Dz.but hb rfl s x z, y, z⟩
theorem swd (d : PyData) (h : (d.showable && decide (d.depth ≤ 2) && decide (d.shown.length ≤ 300)) = true) : Sw 2 300 d := by
  rw [Bool.and_eq_true, Bool.and_eq_true] at h
  exact ⟨h.1.1, of_decide_eq_true h.1.2, of_decide_eq_true h.2⟩
def sp__law_thing (K : PySem.W.Frag) : Sp := sp1 fun box H Q _ => ∃ b n, box = .ref b ∧ BoxAt n H b ∧ n < 900000 ∧ ∀ v H2, But b H H2 → BoxAt (n + 1) H2 b → DD H2 v → Q v H2
def sp__law_pairs (K : PySem.W.Frag) : Sp := sp2 fun u v H Q _ => DD H u ∧ DD H v ∧ ∀ H2, Same H H2 → Q (.bl true) H2
def sp__law_caught (K : PySem.W.Frag) : Sp := sp3 fun way u v H Q _ => ∃ w : Nat, way = .int w ∧ w < 4 ∧ DD H u ∧ DD H v ∧ ∀ H2, Same H H2 → Q (.bl true) H2
def sp_law (K : PySem.W.Frag) : Sp := sp1 fun script H Q _ => ∃ (a : Addr) (ns : List Int), script = .ref a ∧ SqL K H a (ns.map V.int) ∧ ns.length ≤ 63 ∧ ∀ H2, Q (.bl true) H2
def perm_0_1 {α : Type} (l : List α) : List α := l
theorem perm_0_1_ok {zs : List V} {ws : List Value} (r : Vals zs ws) : Vals (perm_0_1 zs) (perm_0_1 ws) := r
theorem sw2 {d e : PyData} (h : Sw 2 300 d) (k : Sw 2 300 e) : Sw 3 (4 + 2 * 302) (.list [d, e]) := Sw.list (k := 2) (B := 300) (m := 2) (fun z hz => by
    simp only [List.mem_cons, List.not_mem_nil, or_false] at hz
    rcases hz with rfl | rfl
    · exact h
    · exact k) (by show 2 ≤ 2; decide)
theorem sw3 {d e f : PyData} (h : Sw 2 300 d) (k : Sw 2 300 e) (l : Sw 2 300 f) : Sw 3 (4 + 3 * 302) (.list [d, e, f]) := Sw.list (k := 2) (B := 300) (m := 3) (fun z hz => by
    simp only [List.mem_cons, List.not_mem_nil, or_false] at hz
    rcases hz with rfl | rfl | rfl
    · exact h
    · exact k
    · exact l) (by show 3 ≤ 3; decide)
section
variable {P : Program} {w : World} {K : PySem.W.Frag} {mg : Str → Option Value} {base : Heap}
variable {e_InvalidAct e_InvalidActs e_InvalidBrokers e_InvalidCommand e_InvalidCommands e_InvalidCount e_InvalidDisk e_InvalidItems e_InvalidKeeps e_InvalidLetter e_InvalidLine e_InvalidName e_InvalidNumber e_InvalidPicture e_InvalidState e_InvalidTerm e_InvalidText e_InvalidValue e_InvalidWorld e_TooLong e_NoFile e_NoRow e_NoTopic e_NoGroup e_NotLeading e_Fallen e_Held e_PowerCut e_QueueError : Addr}
/-! ### _law_sorts(_law_e), level 1 -/
abbrev s__law_sorts : Stmt := top 36
abbrev N__law_sorts : List Str := ["_law_e", "_law_found"]
theorem sc__law_sorts : FnScope N__law_sorts ["_law_e"] (defScope s__law_sorts) := ⟨rfl, rfl, rfl, by decide +kernel, rfl, by decide +kernel, by decide +kernel⟩
theorem ok__law_sorts (T : Txt K mg e_InvalidAct e_InvalidActs e_InvalidBrokers e_InvalidCommand e_InvalidCommands e_InvalidCount e_InvalidDisk e_InvalidItems e_InvalidKeeps e_InvalidLetter e_InvalidLine e_InvalidName e_InvalidNumber e_InvalidPicture e_InvalidState e_InvalidTerm e_InvalidText e_InvalidValue e_InvalidWorld e_TooLong e_NoFile e_NoRow e_NoTopic e_NoGroup e_NotLeading e_Fallen e_Held e_PowerCut e_QueueError) (D : Df K mg "_law_sorts" s__law_sorts ["_law_e"]) : Cw P w K mg base 1 "_law_sorts" ["_law_e"] (sp__law_sorts K) := by
  refine cw1 D sc__law_sorts fun f cdv A outer s H a_e Q E pp hr wm h => ⟨_, (pss_cons (ps_set (i := 1) sc__law_sorts.nd rfl (Or.inl rfl) (pe_lz (pa_cons (pe_callB (k_isE K) (by rfl) T.n_isinstance bt_isinstance (pa_cons (pz 0) (pa_cons (pe_glob (v := .ref e_InvalidAct) (by rfl) T.g_InvalidAct rfl) pa_nil))) (pa_cons (pe_callB (k_isE K) (by rfl) T.n_isinstance bt_isinstance (pa_cons (pz 0) (pa_cons (pe_glob (v := .ref e_InvalidActs) (by rfl) T.g_InvalidActs rfl) pa_nil))) (pa_cons (pe_callB (k_isE K) (by rfl) T.n_isinstance bt_isinstance (pa_cons (pz 0) (pa_cons (pe_glob (v := .ref e_InvalidBrokers) (by rfl) T.g_InvalidBrokers rfl) pa_nil))) pa_nil)))))
    (pss_cons (ps_set (i := 1) sc__law_sorts.nd rfl (Or.inl rfl) (pe_op (k_add K) (pz 1) (pe_lz (pa_cons (pe_callB (k_isE K) (by rfl) T.n_isinstance bt_isinstance (pa_cons (pz 0) (pa_cons (pe_glob (v := .ref e_InvalidCommand) (by rfl) T.g_InvalidCommand rfl) pa_nil))) (pa_cons (pe_callB (k_isE K) (by rfl) T.n_isinstance bt_isinstance (pa_cons (pz 0) (pa_cons (pe_glob (v := .ref e_InvalidCommands) (by rfl) T.g_InvalidCommands rfl) pa_nil))) (pa_cons (pe_callB (k_isE K) (by rfl) T.n_isinstance bt_isinstance (pa_cons (pz 0) (pa_cons (pe_glob (v := .ref e_InvalidCount) (by rfl) T.g_InvalidCount rfl) pa_nil))) pa_nil))))))
    (pss_cons (ps_set (i := 1) sc__law_sorts.nd rfl (Or.inl rfl) (pe_op (k_add K) (pz 1) (pe_lz (pa_cons (pe_callB (k_isE K) (by rfl) T.n_isinstance bt_isinstance (pa_cons (pz 0) (pa_cons (pe_glob (v := .ref e_InvalidDisk) (by rfl) T.g_InvalidDisk rfl) pa_nil))) (pa_cons (pe_callB (k_isE K) (by rfl) T.n_isinstance bt_isinstance (pa_cons (pz 0) (pa_cons (pe_glob (v := .ref e_InvalidItems) (by rfl) T.g_InvalidItems rfl) pa_nil))) (pa_cons (pe_callB (k_isE K) (by rfl) T.n_isinstance bt_isinstance (pa_cons (pz 0) (pa_cons (pe_glob (v := .ref e_InvalidKeeps) (by rfl) T.g_InvalidKeeps rfl) pa_nil))) pa_nil))))))
    (pss_cons (ps_set (i := 1) sc__law_sorts.nd rfl (Or.inl rfl) (pe_op (k_add K) (pz 1) (pe_lz (pa_cons (pe_callB (k_isE K) (by rfl) T.n_isinstance bt_isinstance (pa_cons (pz 0) (pa_cons (pe_glob (v := .ref e_InvalidLetter) (by rfl) T.g_InvalidLetter rfl) pa_nil))) (pa_cons (pe_callB (k_isE K) (by rfl) T.n_isinstance bt_isinstance (pa_cons (pz 0) (pa_cons (pe_glob (v := .ref e_InvalidLine) (by rfl) T.g_InvalidLine rfl) pa_nil))) (pa_cons (pe_callB (k_isE K) (by rfl) T.n_isinstance bt_isinstance (pa_cons (pz 0) (pa_cons (pe_glob (v := .ref e_InvalidName) (by rfl) T.g_InvalidName rfl) pa_nil))) pa_nil))))))
    (pss_cons (ps_set (i := 1) sc__law_sorts.nd rfl (Or.inl rfl) (pe_op (k_add K) (pz 1) (pe_lz (pa_cons (pe_callB (k_isE K) (by rfl) T.n_isinstance bt_isinstance (pa_cons (pz 0) (pa_cons (pe_glob (v := .ref e_InvalidNumber) (by rfl) T.g_InvalidNumber rfl) pa_nil))) (pa_cons (pe_callB (k_isE K) (by rfl) T.n_isinstance bt_isinstance (pa_cons (pz 0) (pa_cons (pe_glob (v := .ref e_InvalidPicture) (by rfl) T.g_InvalidPicture rfl) pa_nil))) (pa_cons (pe_callB (k_isE K) (by rfl) T.n_isinstance bt_isinstance (pa_cons (pz 0) (pa_cons (pe_glob (v := .ref e_InvalidState) (by rfl) T.g_InvalidState rfl) pa_nil))) pa_nil))))))
    (pss_cons (ps_set (i := 1) sc__law_sorts.nd rfl (Or.inl rfl) (pe_op (k_add K) (pz 1) (pe_lz (pa_cons (pe_callB (k_isE K) (by rfl) T.n_isinstance bt_isinstance (pa_cons (pz 0) (pa_cons (pe_glob (v := .ref e_InvalidTerm) (by rfl) T.g_InvalidTerm rfl) pa_nil))) (pa_cons (pe_callB (k_isE K) (by rfl) T.n_isinstance bt_isinstance (pa_cons (pz 0) (pa_cons (pe_glob (v := .ref e_InvalidText) (by rfl) T.g_InvalidText rfl) pa_nil))) (pa_cons (pe_callB (k_isE K) (by rfl) T.n_isinstance bt_isinstance (pa_cons (pz 0) (pa_cons (pe_glob (v := .ref e_InvalidValue) (by rfl) T.g_InvalidValue rfl) pa_nil))) pa_nil))))))
    (pss_cons (ps_set (i := 1) sc__law_sorts.nd rfl (Or.inl rfl) (pe_op (k_add K) (pz 1) (pe_lz (pa_cons (pe_callB (k_isE K) (by rfl) T.n_isinstance bt_isinstance (pa_cons (pz 0) (pa_cons (pe_glob (v := .ref e_InvalidWorld) (by rfl) T.g_InvalidWorld rfl) pa_nil))) (pa_cons (pe_callB (k_isE K) (by rfl) T.n_isinstance bt_isinstance (pa_cons (pz 0) (pa_cons (pe_glob (v := .ref e_TooLong) (by rfl) T.g_TooLong rfl) pa_nil))) (pa_cons (pe_callB (k_isE K) (by rfl) T.n_isinstance bt_isinstance (pa_cons (pz 0) (pa_cons (pe_glob (v := .ref e_NoFile) (by rfl) T.g_NoFile rfl) pa_nil))) (pa_cons (pe_callB (k_isE K) (by rfl) T.n_isinstance bt_isinstance (pa_cons (pz 0) (pa_cons (pe_glob (v := .ref e_NoRow) (by rfl) T.g_NoRow rfl) pa_nil))) pa_nil)))))))
    (pss_cons (ps_set (i := 1) sc__law_sorts.nd rfl (Or.inl rfl) (pe_op (k_add K) (pz 1) (pe_lz (pa_cons (pe_callB (k_isE K) (by rfl) T.n_isinstance bt_isinstance (pa_cons (pz 0) (pa_cons (pe_glob (v := .ref e_NoTopic) (by rfl) T.g_NoTopic rfl) pa_nil))) (pa_cons (pe_callB (k_isE K) (by rfl) T.n_isinstance bt_isinstance (pa_cons (pz 0) (pa_cons (pe_glob (v := .ref e_NoGroup) (by rfl) T.g_NoGroup rfl) pa_nil))) (pa_cons (pe_callB (k_isE K) (by rfl) T.n_isinstance bt_isinstance (pa_cons (pz 0) (pa_cons (pe_glob (v := .ref e_NotLeading) (by rfl) T.g_NotLeading rfl) pa_nil))) pa_nil))))))
    (pss_one (ps_ret (pe_op (k_add K) (pz 1) (pe_lz (pa_cons (pe_callB (k_isE K) (by rfl) T.n_isinstance bt_isinstance (pa_cons (pz 0) (pa_cons (pe_glob (v := .ref e_Fallen) (by rfl) T.g_Fallen rfl) pa_nil))) (pa_cons (pe_callB (k_isE K) (by rfl) T.n_isinstance bt_isinstance (pa_cons (pz 0) (pa_cons (pe_glob (v := .ref e_Held) (by rfl) T.g_Held rfl) pa_nil))) (pa_cons (pe_callB (k_isE K) (by rfl) T.n_isinstance bt_isinstance (pa_cons (pz 0) (pa_cons (pe_glob (v := .ref e_PowerCut) (by rfl) T.g_PowerCut rfl) pa_nil))) pa_nil))))))))))))))), ?_⟩
  obtain ⟨a, i, fs, rfl, he, q⟩ := h
  obtain ⟨nm, C, e1, e2, er⟩ := he
  have R := rows T
  obtain ⟨hi, S, EC⟩ := R.at e1 e2
  have nd : ([e_InvalidAct, e_InvalidActs, e_InvalidBrokers, e_InvalidCommand, e_InvalidCommands, e_InvalidCount, e_InvalidDisk, e_InvalidItems, e_InvalidKeeps, e_InvalidLetter, e_InvalidLine, e_InvalidName, e_InvalidNumber, e_InvalidPicture, e_InvalidState, e_InvalidTerm, e_InvalidText, e_InvalidValue, e_InvalidWorld, e_TooLong, e_NoFile, e_NoRow, e_NoTopic, e_NoGroup, e_NotLeading, e_Fallen, e_Held, e_PowerCut] ++ [e_QueueError]).Nodup := T.nd
  refine ⟨C, fs, decide (0 = i), er, S, R.kit nd (j := 0) hi rfl EC T.s_InvalidAct, ?_⟩
  refine ⟨C, fs, decide (1 = i), er, S, R.kit nd (j := 1) hi rfl EC T.s_InvalidActs, ?_⟩
  refine ⟨C, fs, decide (2 = i), er, S, R.kit nd (j := 2) hi rfl EC T.s_InvalidBrokers, ?_⟩
  refine ⟨by show 3 ≤ sizeLine; decide, fun p1 H1 n1 => ?_⟩
  have sH1 : Same H H1 := n1.same
  refine ⟨C, fs, decide (3 = i), er.same sH1, S, R.kit nd (j := 3) hi rfl EC T.s_InvalidCommand, ?_⟩
  refine ⟨C, fs, decide (4 = i), er.same sH1, S, R.kit nd (j := 4) hi rfl EC T.s_InvalidCommands, ?_⟩
  refine ⟨C, fs, decide (5 = i), er.same sH1, S, R.kit nd (j := 5) hi rfl EC T.s_InvalidCount, ?_⟩
  refine ⟨by show 3 ≤ sizeLine; decide, fun p2 H2 n2 => ?_⟩
  have sH2 : Same H H2 := sH1.trans n2.same
  refine .inl ⟨_, _, n2.keep n1.here, n2.here, by show 3 + 3 ≤ sizeLine; decide, fun p3 H3 n3 => ?_⟩
  have sH3 : Same H H3 := sH2.trans n3.same
  refine ⟨C, fs, decide (6 = i), er.same sH3, S, R.kit nd (j := 6) hi rfl EC T.s_InvalidDisk, ?_⟩
  refine ⟨C, fs, decide (7 = i), er.same sH3, S, R.kit nd (j := 7) hi rfl EC T.s_InvalidItems, ?_⟩
  refine ⟨C, fs, decide (8 = i), er.same sH3, S, R.kit nd (j := 8) hi rfl EC T.s_InvalidKeeps, ?_⟩
  refine ⟨by show 3 ≤ sizeLine; decide, fun p4 H4 n4 => ?_⟩
  have sH4 : Same H H4 := sH3.trans n4.same
  refine .inl ⟨_, _, n4.keep n3.here, n4.here, by show 6 + 3 ≤ sizeLine; decide, fun p5 H5 n5 => ?_⟩
  have sH5 : Same H H5 := sH4.trans n5.same
  refine ⟨C, fs, decide (9 = i), er.same sH5, S, R.kit nd (j := 9) hi rfl EC T.s_InvalidLetter, ?_⟩
  refine ⟨C, fs, decide (10 = i), er.same sH5, S, R.kit nd (j := 10) hi rfl EC T.s_InvalidLine, ?_⟩
  refine ⟨C, fs, decide (11 = i), er.same sH5, S, R.kit nd (j := 11) hi rfl EC T.s_InvalidName, ?_⟩
  refine ⟨by show 3 ≤ sizeLine; decide, fun p6 H6 n6 => ?_⟩
  have sH6 : Same H H6 := sH5.trans n6.same
  refine .inl ⟨_, _, n6.keep n5.here, n6.here, by show 9 + 3 ≤ sizeLine; decide, fun p7 H7 n7 => ?_⟩
  have sH7 : Same H H7 := sH6.trans n7.same
  refine ⟨C, fs, decide (12 = i), er.same sH7, S, R.kit nd (j := 12) hi rfl EC T.s_InvalidNumber, ?_⟩
  refine ⟨C, fs, decide (13 = i), er.same sH7, S, R.kit nd (j := 13) hi rfl EC T.s_InvalidPicture, ?_⟩
  refine ⟨C, fs, decide (14 = i), er.same sH7, S, R.kit nd (j := 14) hi rfl EC T.s_InvalidState, ?_⟩
  refine ⟨by show 3 ≤ sizeLine; decide, fun p8 H8 n8 => ?_⟩
  have sH8 : Same H H8 := sH7.trans n8.same
  refine .inl ⟨_, _, n8.keep n7.here, n8.here, by show 12 + 3 ≤ sizeLine; decide, fun p9 H9 n9 => ?_⟩
  have sH9 : Same H H9 := sH8.trans n9.same
  refine ⟨C, fs, decide (15 = i), er.same sH9, S, R.kit nd (j := 15) hi rfl EC T.s_InvalidTerm, ?_⟩
  refine ⟨C, fs, decide (16 = i), er.same sH9, S, R.kit nd (j := 16) hi rfl EC T.s_InvalidText, ?_⟩
  refine ⟨C, fs, decide (17 = i), er.same sH9, S, R.kit nd (j := 17) hi rfl EC T.s_InvalidValue, ?_⟩
  refine ⟨by show 3 ≤ sizeLine; decide, fun p10 H10 n10 => ?_⟩
  have sH10 : Same H H10 := sH9.trans n10.same
  refine .inl ⟨_, _, n10.keep n9.here, n10.here, by show 15 + 3 ≤ sizeLine; decide, fun p11 H11 n11 => ?_⟩
  have sH11 : Same H H11 := sH10.trans n11.same
  refine ⟨C, fs, decide (18 = i), er.same sH11, S, R.kit nd (j := 18) hi rfl EC T.s_InvalidWorld, ?_⟩
  refine ⟨C, fs, decide (19 = i), er.same sH11, S, R.kit nd (j := 19) hi rfl EC T.s_TooLong, ?_⟩
  refine ⟨C, fs, decide (20 = i), er.same sH11, S, R.kit nd (j := 20) hi rfl EC T.s_NoFile, ?_⟩
  refine ⟨C, fs, decide (21 = i), er.same sH11, S, R.kit nd (j := 21) hi rfl EC T.s_NoRow, ?_⟩
  refine ⟨by show 4 ≤ sizeLine; decide, fun p12 H12 n12 => ?_⟩
  have sH12 : Same H H12 := sH11.trans n12.same
  refine .inl ⟨_, _, n12.keep n11.here, n12.here, by show 18 + 4 ≤ sizeLine; decide, fun p13 H13 n13 => ?_⟩
  have sH13 : Same H H13 := sH12.trans n13.same
  refine ⟨C, fs, decide (22 = i), er.same sH13, S, R.kit nd (j := 22) hi rfl EC T.s_NoTopic, ?_⟩
  refine ⟨C, fs, decide (23 = i), er.same sH13, S, R.kit nd (j := 23) hi rfl EC T.s_NoGroup, ?_⟩
  refine ⟨C, fs, decide (24 = i), er.same sH13, S, R.kit nd (j := 24) hi rfl EC T.s_NotLeading, ?_⟩
  refine ⟨by show 3 ≤ sizeLine; decide, fun p14 H14 n14 => ?_⟩
  have sH14 : Same H H14 := sH13.trans n14.same
  refine .inl ⟨_, _, n14.keep n13.here, n14.here, by show 22 + 3 ≤ sizeLine; decide, fun p15 H15 n15 => ?_⟩
  have sH15 : Same H H15 := sH14.trans n15.same
  refine ⟨C, fs, decide (25 = i), er.same sH15, S, R.kit nd (j := 25) hi rfl EC T.s_Fallen, ?_⟩
  refine ⟨C, fs, decide (26 = i), er.same sH15, S, R.kit nd (j := 26) hi rfl EC T.s_Held, ?_⟩
  refine ⟨C, fs, decide (27 = i), er.same sH15, S, R.kit nd (j := 27) hi rfl EC T.s_PowerCut, ?_⟩
  refine ⟨by show 3 ≤ sizeLine; decide, fun p16 H16 n16 => ?_⟩
  have sH16 : Same H H16 := sH15.trans n16.same
  refine .inl ⟨_, _, n16.keep n15.here, n16.here, by show 25 + 3 ≤ sizeLine; decide, fun p17 H17 n17 => ?_⟩
  have sH17 : Same H H17 := sH16.trans n17.same
  exact q p17 H17 sH17 (sH16.free n17.fresh) n17.here

/-! ### _law_is(_law_e, _law_spot), level 2 -/
abbrev s__law_is : Stmt := top 37
abbrev N__law_is : List Str := ["_law_e", "_law_spot", "_law_sorts_here", "_law_k"]
theorem sc__law_is : FnScope N__law_is ["_law_e", "_law_spot"] (defScope s__law_is) := ⟨rfl, rfl, rfl, by decide +kernel, rfl, by decide +kernel, by decide +kernel⟩
theorem ok__law_is (T : Txt K mg e_InvalidAct e_InvalidActs e_InvalidBrokers e_InvalidCommand e_InvalidCommands e_InvalidCount e_InvalidDisk e_InvalidItems e_InvalidKeeps e_InvalidLetter e_InvalidLine e_InvalidName e_InvalidNumber e_InvalidPicture e_InvalidState e_InvalidTerm e_InvalidText e_InvalidValue e_InvalidWorld e_TooLong e_NoFile e_NoRow e_NoTopic e_NoGroup e_NotLeading e_Fallen e_Held e_PowerCut e_QueueError) (C__law_sorts : Cw P w K mg base 1 "_law_sorts" ["_law_e"] (sp__law_sorts K)) (D : Df K mg "_law_is" s__law_is ["_law_e", "_law_spot"]) : Cw P w K mg base 2 "_law_is" ["_law_e", "_law_spot"] (sp__law_is K) := by
  refine cw2 D sc__law_is fun f cdv A outer s H a_e a_spot Q E pp hr wm h => ⟨_, (pss_cons (ps_set (i := 2) sc__law_is.nd rfl (Or.inr rfl) (pe_cw C__law_sorts (hr.mono (by decide)) (pa_cons (pz 0) pa_nil)))
    (pss_cons (ps_if (PW.pt (pw_or (pt_not (pt_trK K (pe_callB (k_isE K) (by rfl) T.n_isinstance bt_isinstance (pa_cons (pz 0) (pa_cons (pe_glob (v := .ref e_QueueError) (by rfl) T.g_QueueError rfl) pa_nil))))) (pw_or1 (pt_not (pt_trK K (pe_callB (k_isE K) (by rfl) T.n_isinstance bt_isinstance (pa_cons (pz 0) (pa_cons (pe_bltn (v := .ty "Exception") (by rfl) T.n_Exception bt_Exception rfl) pa_nil)))))))) 
      (pss_one (ps_ret pe_bl)) pss_nil)
    (pss_one (ps_ret (pe_cmpR (k_eq K hr.units) (pe_lcR (own := [("_law_k", 3)]) sc__law_is.nd (by rfl) T.n_range (pa_cons (pe_callB (k_len K) (by rfl) T.n_len bt_len (pa_cons (pz 2) pa_nil)) pa_nil) (blkOk_by (own := [("_law_k", 3)]) (N := N__law_is) (sc := defScope s__law_is) (by decide +kernel)) (fun _ _ _ _ _ => (pg_name (i := 3) sc__law_is.nd rfl (Or.inl rfl))) (fun _ _ _ _ _ => (pts_one (pt_trK K (pe_ix (k_ix K) (pz 2) (pz 3) (fun _ _ => rfl))))) (fun _ _ _ _ _ => (pz 3))) (pe_lz (pa_cons (pz 1) pa_nil)) (nomark _)))))), ?_⟩
  obtain ⟨a, i, fs, rfl, rfl, he, q⟩ := h
  refine ⟨wm, a, i, fs, rfl, he, fun p H1 s1 hp0 hp => ?_⟩
  obtain ⟨nm, C, e1, e2, er⟩ := he.same s1
  have R := rows T
  obtain ⟨hi, S, EC⟩ := R.at e1 e2
  have i28 : i < 28 := (List.getElem?_eq_some_iff.mp e1).1
  refine ⟨C, fs, true, er, S, (by rw [kit_err EC T.hQ T.tQ]; simp), ?_⟩
  refine ⟨C, fs, true, er, S, kit_exc EC, ?_⟩
  refine .inl ⟨_, .inl (SqL.of hp), ?_⟩
  refine ⟨28, (by simp), by decide, fun D hD => ?_⟩
  have nDp : p ≠ D := ne_of_none hp hD
  refine ⟨fun t acc H2 => Same H1 H2 ∧ H2 D = some (.lst acc) ∧ acc = if i < t then [V.int (i : Nat)] else [], ⟨(nw hD).same, upd_same, rfl⟩, fun t acc H2 z => ⟨(wm.same s1).same z.1, z.2.1, (by rw [z.2.2]; split <;> (show _ < sizeLine; simp [sizeLine_eq]))⟩, fun t acc H2 ht z => ?_, fun acc H2 z => ?_⟩
  · obtain ⟨s2, hD2, ea⟩ := z
    refine ⟨rfl, ?_⟩
    refine ⟨_, _, .inl (SqL.of (s2 _ _ hp)), atI_nat (j := t) (v := V.bl (decide (t = i))) (by rw [List.getElem?_map, List.getElem?_range ht]; rfl), ?_⟩
    by_cases e : t = i
    · refine iteY (c := decide (t = i)) (decide_eq_true e) ?_
      refine ⟨hD2, s2.wr hD wr, upd_same, ?_⟩
      rw [ea, e, if_neg (Nat.lt_irrefl i), if_pos (Nat.lt_succ_self i)]
      rfl
    · refine iteN (c := decide (t = i)) (decide_eq_false e) ?_
      refine ⟨s2, hD2, ?_⟩
      rw [ea]
      by_cases z : i < t
      · rw [if_pos z, if_pos (by omega)]
      · rw [if_neg z, if_neg (by omega)]
  · obtain ⟨s2, hD2, ea⟩ := z
    rw [if_pos i28] at ea
    subst ea
    refine ⟨by show 1 ≤ sizeLine; decide, fun p3 H3 n3 => ?_⟩
    have sh : SeqAt.shaped (.list [.int (i : Nat)]) = true := rfl
    refine ⟨.list [.int (i : Nat)], .list [.int (i : Nat)], .lst (SqL.of (n3.keep hD2)) (.cons (.int _) .nil), .lst (SqL.of n3.here) (.cons (.int _) .nil), sh, sh, ?_⟩
    rw [eqv_self sh]
    exact q H3 ((s1.trans s2).trans n3.same)

/-! ### _law_box(_law_great), level 1 -/
abbrev s__law_box : Stmt := top 32
abbrev N__law_box : List Str := ["_law_great"]
theorem sc__law_box : FnScope N__law_box ["_law_great"] (defScope s__law_box) := ⟨rfl, rfl, rfl, by decide +kernel, rfl, by decide +kernel, by decide +kernel⟩
theorem ok__law_box (T : Txt K mg e_InvalidAct e_InvalidActs e_InvalidBrokers e_InvalidCommand e_InvalidCommands e_InvalidCount e_InvalidDisk e_InvalidItems e_InvalidKeeps e_InvalidLetter e_InvalidLine e_InvalidName e_InvalidNumber e_InvalidPicture e_InvalidState e_InvalidTerm e_InvalidText e_InvalidValue e_InvalidWorld e_TooLong e_NoFile e_NoRow e_NoTopic e_NoGroup e_NotLeading e_Fallen e_Held e_PowerCut e_QueueError) (D : Df K mg "_law_box" s__law_box ["_law_great"]) : Ct P w K mg base CX0 1 "_law_box" ["_law_great"] (sp__law_box K) := by
  refine ct1 D sc__law_box fun f cdv A outer s H a_great Q E hr h => ⟨_, (pss_one (ps_ret (pe_lz (pa_cons (pe_callB c_abs (by rfl) T.n_abs bt_abs (pa_cons (pz 0) pa_nil)) (pa_cons (pe_cmpR o_ge (pe_callB c_abs (by rfl) T.n_abs bt_abs (pa_cons (pz 0) pa_nil)) (pe_op o_pow pe_int pe_int) (nomark _)) (pa_cons (pe_op o_mod (pe_callTy c_int (by rfl) T.n_int bt_int (pa_cons (pe_callB c_abs (by rfl) T.n_abs bt_abs (pa_cons (pz 0) pa_nil)) pa_nil)) pe_int) (pa_cons pe_int pa_nil))))))), ?_⟩
  obtain ⟨g, rfl, k⟩ := h
  refine ⟨⟨by decide, by decide, by decide⟩, by show (0 : Int) < _; decide, by show 4 ≤ sizeLine; decide, fun b H2 n => ?_⟩
  refine k b H2 n.fresh n.same ⟨_, _, _, _, n.here, ?_, ?_, ?_, by decide, by decide⟩
  · split <;> omega
  · exact Int.emod_nonneg _ (by decide)
  · have := Int.emod_lt_of_pos (if g < 0 then -g else g) (show (0 : Int) < 2147483629 by decide)
    omega

/-! ### _law_cell(_law_script, _law_k), level 1 -/
abbrev s__law_cell : Stmt := top 31
abbrev N__law_cell : List Str := ["_law_script", "_law_k"]
theorem sc__law_cell : FnScope N__law_cell ["_law_script", "_law_k"] (defScope s__law_cell) := ⟨rfl, rfl, rfl, by decide +kernel, rfl, by decide +kernel, by decide +kernel⟩
theorem ok__law_cell (T : Txt K mg e_InvalidAct e_InvalidActs e_InvalidBrokers e_InvalidCommand e_InvalidCommands e_InvalidCount e_InvalidDisk e_InvalidItems e_InvalidKeeps e_InvalidLetter e_InvalidLine e_InvalidName e_InvalidNumber e_InvalidPicture e_InvalidState e_InvalidTerm e_InvalidText e_InvalidValue e_InvalidWorld e_TooLong e_NoFile e_NoRow e_NoTopic e_NoGroup e_NotLeading e_Fallen e_Held e_PowerCut e_QueueError) (D : Df K mg "_law_cell" s__law_cell ["_law_script", "_law_k"]) : Ct P w K mg base CX0 1 "_law_cell" ["_law_script", "_law_k"] (sp__law_cell K) := by
  refine ct2 D sc__law_cell fun f cdv A outer s H a_script a_k Q E hr h => ⟨_, (pss_one (ps_ret (pe_ifExp (pt_cmpZ o_ltS (pz 1) (pe_callB (k_len K) (by rfl) T.n_len bt_len (pa_cons (pz 0) pa_nil)) (nomark _)) (pe_ix (k_ix K) (pz 0) (pz 1) (fun _ _ => rfl)) (pe_op (k_add K) (pe_op o_mul pe_int (pz 1)) (pe_op o_mod (pe_callB (k_sum K rfl) (by rfl) T.n_sum bt_sum (pa_cons (pe_slice (k_sl K) (pz 0) po_none (po_z pe_int)) pa_nil)) pe_int))))), ?_⟩
  obtain ⟨a, i, ns, rfl, rfl, h0, h1, hS, hl, k⟩ := h
  refine .inl ⟨_, .inl hS, ?_⟩
  refine ite2 (fun hc => ?_) (fun hc => ?_)
  · have hi : i < (ns.map V.int).length := by simpa using hc
    rw [List.length_map] at hi
    refine ⟨_, V.int (ns.getD i.toNat 0), .inl hS, ?_, k _ _ (Same.refl _)⟩
    have e : i = ((i.toNat : Nat) : Int) := by omega
    rw [e]
    refine atI_nat ?_
    rw [Int.toNat_natCast, List.getElem?_map, List.getElem?_eq_getElem (by omega)]
    simp [List.getD, List.getElem?_eq_getElem (show i.toNat < ns.length by omega)]
  · refine ⟨.inr ⟨by omega, by omega⟩, .inl ⟨_, hS, fun p H2 n => ?_⟩⟩
    have e : cutV (ns.map V.int) none (some 1) = (ns.take 1).map V.int := by
      cases ns with
      | nil => rfl
      | cons x r => simp [cutV, HT.sIx]
    rw [e] at n
    exact ⟨_, SqL.of n.here, by show (0 : Int) < _; decide, k _ _ n.same⟩

/-! ### _law_take(_law_box_here, _law_many), level 1 -/
abbrev s__law_take : Stmt := top 33
abbrev N__law_take : List Str := ["_law_box_here", "_law_many", "_law_digit", "_law_mixed"]
theorem sc__law_take : FnScope N__law_take ["_law_box_here", "_law_many"] (defScope s__law_take) := ⟨rfl, rfl, rfl, by decide +kernel, rfl, by decide +kernel, by decide +kernel⟩
theorem ok__law_take (T : Txt K mg e_InvalidAct e_InvalidActs e_InvalidBrokers e_InvalidCommand e_InvalidCommands e_InvalidCount e_InvalidDisk e_InvalidItems e_InvalidKeeps e_InvalidLetter e_InvalidLine e_InvalidName e_InvalidNumber e_InvalidPicture e_InvalidState e_InvalidTerm e_InvalidText e_InvalidValue e_InvalidWorld e_TooLong e_NoFile e_NoRow e_NoTopic e_NoGroup e_NotLeading e_Fallen e_Held e_PowerCut e_QueueError) (D : Df K mg "_law_take" s__law_take ["_law_box_here", "_law_many"]) : Ct P w K mg base CX0 1 "_law_take" ["_law_box_here", "_law_many"] (sp__law_take K) := by
  refine ct2 D sc__law_take fun f cdv A outer s H a_box_here a_many Q E hr h => ⟨_, (pss_cons (ps_if (PW.pt (pw_and (pt_trK K (pe_ix (k_ix K) (pz 0) pe_int (fun _ _ => rfl))) (pw_and1 (pt_cmpZ o_gtS (pe_ix (k_ix K) (pz 0) pe_int (fun _ _ => rfl)) pe_int (nomark _))))) 
      (pss_cons (ps_set (i := 2) sc__law_take.nd rfl (Or.inl rfl) (pe_op o_mod (pe_callTy c_int (by rfl) T.n_int bt_int (pa_cons (pe_ix (k_ix K) (pz 0) pe_int (fun _ _ => rfl)) pa_nil)) (pz 1)))
      (pss_cons (ps_asg (pe_op o_fdiv (pe_ix (k_ix K) (pz 0) pe_int (fun _ _ => rfl)) (pz 1)) (pg_sub (pz 0) pe_int s_list))
      (pss_one (ps_ret (pz 2))))) pss_nil)
    (pss_cons (ps_asg (pe_op (k_add K) (pe_ix (k_ix K) (pz 0) pe_int (fun _ _ => rfl)) pe_int) (pg_sub (pz 0) pe_int s_list))
    (pss_cons (ps_set (i := 3) sc__law_take.nd rfl (Or.inl rfl) (pe_op o_mod (pe_callTy c_int (by rfl) T.n_int bt_int (pa_cons (pe_op o_pow (pe_op (k_add K) (pe_op (k_add K) (pe_ix (k_ix K) (pz 0) pe_int (fun _ _ => rfl)) (pe_op o_mul pe_int (pe_ix (k_ix K) (pz 0) pe_int (fun _ _ => rfl)))) pe_int) pe_int) pa_nil)) pe_int))
    (pss_one (ps_ret (pe_op o_mod (pe_op o_fdiv (pe_op o_mod (pe_callTy c_int (by rfl) T.n_int bt_int (pa_cons (pe_op o_pow (pe_op (k_add K) (pe_op o_mul (pz 3) pe_int) (pe_op o_mul pe_int (pe_ix (k_ix K) (pz 0) pe_int (fun _ _ => rfl)))) pe_int) pa_nil)) pe_int) pe_int) (pz 1))))))), ?_⟩
  obtain ⟨b, m, n, rfl, rfl, hm, hm2, hB, hn, k⟩ := h
  obtain ⟨g, f1, s1, c, hb, g0, s0, s2, c0, c1⟩ := id hB
  have two : (2 : Int) ^ 64 = 18446744073709551616 := by decide
  refine ⟨_, _, .inl (SqL.of hb), rfl, ?_⟩
  refine ite2 (fun h1 => ?_) (fun h1 => ?_)
  · refine ⟨_, _, .inl (SqL.of hb), rfl, ?_⟩
    refine ite2 (fun h2 => ?_) (fun h2 => ?_)
    · refine ⟨_, _, .inl (SqL.of hb), rfl, hm, ?_⟩
      refine ⟨_, _, .inl (SqL.of hb), rfl, ⟨hm, by omega⟩, ?_⟩
      refine ⟨_, 0, hb, rfl, fun H2 w => ?_⟩
      have hg : 0 < g := by simpa using h2
      exact k _ H2 w.but ⟨_, _, _, _, w.here, Int.ediv_nonneg g0 (by omega), s0, s2, c0, by omega⟩ (Int.emod_nonneg _ (by omega)) (Int.emod_lt_of_pos _ hm)
    · refine ⟨_, _, .inl (SqL.of hb), rfl, ?_⟩
      refine ⟨_, 3, hb, rfl, fun H2 w => ?_⟩
      refine ⟨_, _, .inl (SqL.of w.here), rfl, ?_⟩
      refine ⟨_, _, .inl (SqL.of w.here), rfl, .inl ⟨by omega, by omega⟩, ?_⟩
      refine ⟨⟨by decide, by decide, by omega⟩, by show (0 : Int) < _; decide, ?_⟩
      have q1 := Int.emod_nonneg ((s1 + 15485863 * (c + 1) + 179424697) ^ (5 : Int).toNat) (show (2147483647 : Int) ≠ 0 by decide)
      have q2 := Int.emod_lt_of_pos ((s1 + 15485863 * (c + 1) + 179424697) ^ (5 : Int).toNat) (show (0 : Int) < 2147483647 by decide)
      refine ⟨.inr ⟨by omega, by omega⟩, ?_⟩
      refine ⟨_, _, .inl (SqL.of w.here), rfl, .inl ⟨by omega, by omega⟩, ?_⟩
      generalize (s1 + 15485863 * (c + 1) + 179424697) ^ (5 : Int).toNat % 2147483647 = z at q1 q2 ⊢
      refine ⟨⟨by decide, by decide, by omega⟩, by show (0 : Int) < _; decide, ⟨by show (0 : Int) < _; decide, by show _ < (1073741824 : Int); decide⟩, hm, ?_⟩
      exact k _ H2 w.but ⟨_, _, _, _, w.here, g0, s0, s2, by omega, by omega⟩ (Int.emod_nonneg _ (by omega)) (Int.emod_lt_of_pos _ hm)
  · refine iteF ?_
    refine ⟨_, _, .inl (SqL.of hb), rfl, ?_⟩
    refine ⟨_, 3, hb, rfl, fun H2 w => ?_⟩
    refine ⟨_, _, .inl (SqL.of w.here), rfl, ?_⟩
    refine ⟨_, _, .inl (SqL.of w.here), rfl, .inl ⟨by omega, by omega⟩, ?_⟩
    refine ⟨⟨by decide, by decide, by omega⟩, by show (0 : Int) < _; decide, ?_⟩
    have q1 := Int.emod_nonneg ((s1 + 15485863 * (c + 1) + 179424697) ^ (5 : Int).toNat) (show (2147483647 : Int) ≠ 0 by decide)
    have q2 := Int.emod_lt_of_pos ((s1 + 15485863 * (c + 1) + 179424697) ^ (5 : Int).toNat) (show (0 : Int) < 2147483647 by decide)
    refine ⟨.inr ⟨by omega, by omega⟩, ?_⟩
    refine ⟨_, _, .inl (SqL.of w.here), rfl, .inl ⟨by omega, by omega⟩, ?_⟩
    generalize (s1 + 15485863 * (c + 1) + 179424697) ^ (5 : Int).toNat % 2147483647 = z at q1 q2 ⊢
    refine ⟨⟨by decide, by decide, by omega⟩, by show (0 : Int) < _; decide, ⟨by show (0 : Int) < _; decide, by show _ < (1073741824 : Int); decide⟩, hm, ?_⟩
    exact k _ H2 w.but ⟨_, _, _, _, w.here, g0, s0, s2, by omega, by omega⟩ (Int.emod_nonneg _ (by omega)) (Int.emod_lt_of_pos _ hm)

/-! ### _law_thing(_law_box_here), level 2 -/
abbrev s__law_thing : Stmt := top 39
abbrev N__law_thing : List Str := ["_law_box_here", "_law_menu"]
theorem sc__law_thing : FnScope N__law_thing ["_law_box_here"] (defScope s__law_thing) := ⟨rfl, rfl, rfl, by decide +kernel, rfl, by decide +kernel, by decide +kernel⟩
theorem ok__law_thing (T : Txt K mg e_InvalidAct e_InvalidActs e_InvalidBrokers e_InvalidCommand e_InvalidCommands e_InvalidCount e_InvalidDisk e_InvalidItems e_InvalidKeeps e_InvalidLetter e_InvalidLine e_InvalidName e_InvalidNumber e_InvalidPicture e_InvalidState e_InvalidTerm e_InvalidText e_InvalidValue e_InvalidWorld e_TooLong e_NoFile e_NoRow e_NoTopic e_NoGroup e_NotLeading e_Fallen e_Held e_PowerCut e_QueueError) (C__law_take : Ct P w K mg base CX0 1 "_law_take" ["_law_box_here", "_law_many"] (sp__law_take K)) (D : Df K mg "_law_thing" s__law_thing ["_law_box_here"]) : Ct P w K mg base CX0 2 "_law_thing" ["_law_box_here"] (sp__law_thing K) := by
  refine ct1 D sc__law_thing fun f cdv A outer s H a_box_here Q E hr h => ⟨_, (pss_cons (ps_set (i := 1) sc__law_thing.nd rfl (Or.inl rfl) (pe_lzS (pa_cons pe_non (pa_cons pe_bl (pa_cons pe_bl (pa_cons pe_int (pa_cons pe_int (pa_cons pe_str (pa_cons pe_str (pa_cons (pe_lzS pa_nil) (pa_cons (pe_lzS (pa_cons pe_int (pa_cons pe_str pa_nil))) (pa_cons (pe_tz pa_nil) (pa_cons (pe_tz (pa_cons pe_int (pa_cons pe_bl pa_nil))) (pa_cons pe_dnewK (pa_cons (pe_callTy (k_dict K rfl) (by rfl) T.n_dict bt_dict (pa_cons (pe_lzS (pa_cons (pe_tz (pa_cons pe_str (pa_cons (pe_lzS (pa_cons pe_int pa_nil)) pa_nil))) pa_nil)) pa_nil)) (pa_cons (pe_un un_negZ (pe_op o_pow pe_int pe_int)) pa_nil))))))))))))))))
    (pss_one (ps_ret (pe_ix (k_ix K) (pz 1) (pe_cl C__law_take (hr.mono (by decide)) pass0 (pa_cons (pz 0) (pa_cons pe_int pa_nil))) (fun _ _ => rfl))))), ?_⟩
  obtain ⟨b, n, rfl, hB, hn, q⟩ := h
  refine ⟨by decide, fun p1 H1 n1 m1 => ?_⟩
  refine ⟨by decide, fun p2 H2 n2 m2 => ?_⟩
  refine ⟨by decide, fun p3 H3 n3 => ?_⟩
  refine ⟨by decide, fun p4 H4 n4 => ?_⟩
  refine fun p5 f5 => ?_
  have n5 := nw (o := .dK []) f5
  generalize upd H4 p5 (.dK []) = H5 at n5 ⊢
  refine ⟨by decide, fun p6 H6 n6 m6 => ?_⟩
  refine ⟨by show 2 ≤ sizeLine; decide, fun p7 H7 n7 => ?_⟩
  refine ⟨by show 1 ≤ sizeLine; decide, fun p8 H8 n8 m8 => ?_⟩
  refine .inl ⟨[p7], [(Sum.inr "a", .ref p6)], SqL.of n8.here, .cons (SqT.of (n8.keep n7.here)) .nil, fun p9 H9 n9 => ?_⟩
  refine ⟨⟨by decide, by decide, by decide⟩, ?_⟩
  refine ⟨by show 14 ≤ sizeLine; decide, fun p10 H10 n10 m10 => ?_⟩
  have s6 : Same H6 H10 := ((n7.same.trans n8.same).trans n9.same).trans n10.same
  have s5 : Same H5 H10 := n6.same.trans s6
  have s4 : Same H4 H10 := n5.same.trans s5
  have s3 : Same H3 H10 := n4.same.trans s4
  have s2 : Same H2 H10 := n3.same.trans s3
  have s1 : Same H1 H10 := n2.same.trans s2
  have sA : Same H H10 := n1.same.trans s1
  have B10 := hB.same sA
  have nb : b ≠ p10 := hB.ne (((((((((n1.same.trans n2.same).trans n3.same).trans n4.same).trans n5.same).trans n6.same).trans n7.same).trans n8.same).trans n9.same).free n10.fresh)
  refine ⟨b, 14, n, rfl, rfl, by decide, by decide, B10, by omega, fun r H11 t B11 h0 h1 => ?_⟩
  have all : ∀ x ∈ [V.non, .bl true, .bl false, .int 0, .int 7, .str "", .str "ann", .ref p1, .ref p2, .ref p3, .ref p4, .ref p5, .ref p9, .int (-(10 ^ 29))], DD H10 x := by
    intro x hx
    simp only [List.mem_cons, List.not_mem_nil, or_false] at hx
    rcases hx with rfl | rfl | rfl | rfl | rfl | rfl | rfl | rfl | rfl | rfl | rfl | rfl | rfl | rfl
    · exact ⟨.none, .non, swd _ (by decide +kernel), rfl⟩
    · exact ⟨_, .bl _, swd _ (by decide +kernel), rfl⟩
    · exact ⟨_, .bl _, swd _ (by decide +kernel), rfl⟩
    · exact ⟨_, .int _, swd _ (by decide +kernel), rfl⟩
    · exact ⟨_, .int _, swd _ (by decide +kernel), rfl⟩
    · exact ⟨_, .str _, swd _ (by decide +kernel), rfl⟩
    · exact ⟨_, .str _, swd _ (by decide +kernel), rfl⟩
    · exact ⟨.list [], .lst (s1 _ _ n1.here) (fun _ => m1) .nil, swd _ (by decide +kernel), rfl⟩
    · exact ⟨.list [.int 1, .str "a"], .lst (s2 _ _ n2.here) (fun _ => m2) (.cons (.int _) (.cons (.str _) .nil)), swd _ (by decide +kernel), rfl⟩
    · exact ⟨.tuple [], .tup (s3 _ _ n3.here) .nil, swd _ (by decide +kernel), rfl⟩
    · exact ⟨.tuple [.int 1, .bool true], .tup (s4 _ _ n4.here) (.cons (.int _) (.cons (.bl _) .nil)), swd _ (by decide +kernel), rfl⟩
    · exact ⟨.dict [], .dic (s5 _ _ n5.here) .nil, swd _ (by decide +kernel), rfl⟩
    · exact ⟨.dict [(.str "a", .list [.int 3])], .dic (n10.same _ _ n9.here) (.cons (k := .inr "a") (.lst (s6 _ _ n6.here) (fun _ => m6) (.cons (.int _) .nil)) .nil), swd _ (by decide +kernel), rfl⟩
    · exact ⟨_, .int _, swd _ (by decide +kernel), rfl⟩
  obtain ⟨v, e1, e2, _⟩ := atI_some (xs := [V.non, .bl true, .bl false, .int 0, .int 7, .str "", .str "ann", .ref p1, .ref p2, .ref p3, .ref p4, .ref p5, .ref p9, .int (-(10 ^ 29))]) h0 h1
  refine ⟨_, v, .inl (SqL.of (t.at (fun e => nb e.symm) n10.here)), e1, ?_⟩
  exact q v H11 (fun x o e hx => t x o e (sA _ _ hx)) B11 ((all v e2).but B10 t)

/-! ### _law_by_place(_law_thing_here), level 3 -/
abbrev s__law_by_place : Stmt := top 34
abbrev N__law_by_place : List Str := ["_law_thing_here", "_law_found"]
theorem sc__law_by_place : FnScope N__law_by_place ["_law_thing_here"] (defScope s__law_by_place) := ⟨rfl, rfl, rfl, by decide +kernel, rfl, by decide +kernel, by decide +kernel⟩
theorem ok__law_by_place (T : Txt K mg e_InvalidAct e_InvalidActs e_InvalidBrokers e_InvalidCommand e_InvalidCommands e_InvalidCount e_InvalidDisk e_InvalidItems e_InvalidKeeps e_InvalidLetter e_InvalidLine e_InvalidName e_InvalidNumber e_InvalidPicture e_InvalidState e_InvalidTerm e_InvalidText e_InvalidValue e_InvalidWorld e_TooLong e_NoFile e_NoRow e_NoTopic e_NoGroup e_NotLeading e_Fallen e_Held e_PowerCut e_QueueError) (R_InvalidCommand : Er P w K mg base 1 "InvalidCommand" "given" e_InvalidCommand) (R_InvalidBrokers : Er P w K mg base 1 "InvalidBrokers" "given" e_InvalidBrokers) (R_InvalidActs : Er P w K mg base 1 "InvalidActs" "given" e_InvalidActs) (R_InvalidAct : Er P w K mg base 1 "InvalidAct" "given" e_InvalidAct) (R_InvalidItems : Er P w K mg base 1 "InvalidItems" "given" e_InvalidItems) (R_InvalidDisk : Er P w K mg base 1 "InvalidDisk" "given" e_InvalidDisk) (R_InvalidCount : Er P w K mg base 1 "InvalidCount" "given" e_InvalidCount) (R_InvalidCommands : Er P w K mg base 1 "InvalidCommands" "given" e_InvalidCommands) (R_InvalidName : Er P w K mg base 1 "InvalidName" "given" e_InvalidName) (R_InvalidLine : Er P w K mg base 1 "InvalidLine" "given" e_InvalidLine) (R_InvalidLetter : Er P w K mg base 1 "InvalidLetter" "given" e_InvalidLetter) (R_InvalidKeeps : Er P w K mg base 1 "InvalidKeeps" "given" e_InvalidKeeps) (R_InvalidTerm : Er P w K mg base 1 "InvalidTerm" "given" e_InvalidTerm) (R_InvalidState : Er P w K mg base 1 "InvalidState" "given" e_InvalidState) (R_InvalidPicture : Er P w K mg base 1 "InvalidPicture" "given" e_InvalidPicture) (R_InvalidNumber : Er P w K mg base 1 "InvalidNumber" "given" e_InvalidNumber) (R_NoFile : Er P w K mg base 1 "NoFile" "name" e_NoFile) (R_TooLong : Er P w K mg base 1 "TooLong" "signs" e_TooLong) (R_InvalidWorld : Er P w K mg base 1 "InvalidWorld" "given" e_InvalidWorld) (R_InvalidValue : Er P w K mg base 1 "InvalidValue" "given" e_InvalidValue) (R_InvalidText : Er P w K mg base 1 "InvalidText" "given" e_InvalidText) (R_Fallen : Er P w K mg base 1 "Fallen" "who" e_Fallen) (R_NotLeading : Er P w K mg base 1 "NotLeading" "leader" e_NotLeading) (R_NoGroup : Er P w K mg base 1 "NoGroup" "group" e_NoGroup) (R_NoTopic : Er P w K mg base 1 "NoTopic" "topic" e_NoTopic) (R_NoRow : Er P w K mg base 1 "NoRow" "index" e_NoRow) (D : Df K mg "_law_by_place" s__law_by_place ["_law_thing_here"]) : Ct P w K mg base CX0 3 "_law_by_place" ["_law_thing_here"] (sp__law_by_place K) := by
  refine ct1 D sc__law_by_place fun f cdv A outer s H a_thing_here Q E hr h => ⟨_, (pss_cons (ps_set (i := 1) sc__law_by_place.nd rfl (Or.inl rfl) (pe_lz (pa_cons (pe_e1 R_InvalidAct (hr.mono (by decide)) (pa_cons (pz 0) pa_nil)) (pa_cons (pe_e1 R_InvalidActs (hr.mono (by decide)) (pa_cons (pz 0) pa_nil)) (pa_cons (pe_e1 R_InvalidBrokers (hr.mono (by decide)) (pa_cons (pz 0) pa_nil)) (pa_cons (pe_e1 R_InvalidCommand (hr.mono (by decide)) (pa_cons (pz 0) pa_nil)) pa_nil))))))
    (pss_cons (ps_set (i := 1) sc__law_by_place.nd rfl (Or.inl rfl) (pe_op (k_add K) (pz 1) (pe_lz (pa_cons (pe_e1 R_InvalidCommands (hr.mono (by decide)) (pa_cons (pz 0) pa_nil)) (pa_cons (pe_e1 R_InvalidCount (hr.mono (by decide)) (pa_cons (pz 0) pa_nil)) (pa_cons (pe_e1 R_InvalidDisk (hr.mono (by decide)) (pa_cons (pz 0) pa_nil)) (pa_cons (pe_e1 R_InvalidItems (hr.mono (by decide)) (pa_cons (pz 0) pa_nil)) pa_nil)))))))
    (pss_cons (ps_set (i := 1) sc__law_by_place.nd rfl (Or.inl rfl) (pe_op (k_add K) (pz 1) (pe_lz (pa_cons (pe_e1 R_InvalidKeeps (hr.mono (by decide)) (pa_cons (pz 0) pa_nil)) (pa_cons (pe_e1 R_InvalidLetter (hr.mono (by decide)) (pa_cons (pz 0) pa_nil)) (pa_cons (pe_e1 R_InvalidLine (hr.mono (by decide)) (pa_cons (pz 0) pa_nil)) (pa_cons (pe_e1 R_InvalidName (hr.mono (by decide)) (pa_cons (pz 0) pa_nil)) pa_nil)))))))
    (pss_cons (ps_set (i := 1) sc__law_by_place.nd rfl (Or.inl rfl) (pe_op (k_add K) (pz 1) (pe_lz (pa_cons (pe_e1 R_InvalidNumber (hr.mono (by decide)) (pa_cons (pz 0) pa_nil)) (pa_cons (pe_e1 R_InvalidPicture (hr.mono (by decide)) (pa_cons (pz 0) pa_nil)) (pa_cons (pe_e1 R_InvalidState (hr.mono (by decide)) (pa_cons (pz 0) pa_nil)) (pa_cons (pe_e1 R_InvalidTerm (hr.mono (by decide)) (pa_cons (pz 0) pa_nil)) pa_nil)))))))
    (pss_cons (ps_set (i := 1) sc__law_by_place.nd rfl (Or.inl rfl) (pe_op (k_add K) (pz 1) (pe_lz (pa_cons (pe_e1 R_InvalidText (hr.mono (by decide)) (pa_cons (pz 0) pa_nil)) (pa_cons (pe_e1 R_InvalidValue (hr.mono (by decide)) (pa_cons (pz 0) pa_nil)) (pa_cons (pe_e1 R_InvalidWorld (hr.mono (by decide)) (pa_cons (pz 0) pa_nil)) (pa_cons (pe_e1 R_TooLong (hr.mono (by decide)) (pa_cons (pz 0) pa_nil)) (pa_cons (pe_e1 R_NoFile (hr.mono (by decide)) (pa_cons (pz 0) pa_nil)) pa_nil))))))))
    (pss_one (ps_ret (pe_op (k_add K) (pz 1) (pe_lz (pa_cons (pe_e1 R_NoRow (hr.mono (by decide)) (pa_cons (pz 0) pa_nil)) (pa_cons (pe_e1 R_NoTopic (hr.mono (by decide)) (pa_cons (pz 0) pa_nil)) (pa_cons (pe_e1 R_NoGroup (hr.mono (by decide)) (pa_cons (pz 0) pa_nil)) (pa_cons (pe_e1 R_NotLeading (hr.mono (by decide)) (pa_cons (pz 0) pa_nil)) (pa_cons (pe_e1 R_Fallen (hr.mono (by decide)) (pa_cons (pz 0) pa_nil)) pa_nil)))))))))))))), ?_⟩
  have q := h
  refine fun a0 H1 s1 f1 e1 => ?_
  have t1 : Same H H1 := s1
  have l1 : Alls K H1 a_thing_here 0 [a0] := .cons ⟨_, _, rfl, T.a_InvalidAct, e1⟩ .nil
  refine fun a1 H2 s2 f2 e2 => ?_
  have t2 : Same H H2 := t1.trans s2
  have l2 : Alls K H2 a_thing_here 0 [a0, a1] := (l1.same s2).app (k := 1) rfl ⟨_, _, rfl, T.a_InvalidActs, e2⟩
  refine fun a2 H3 s3 f3 e3 => ?_
  have t3 : Same H H3 := t2.trans s3
  have l3 : Alls K H3 a_thing_here 0 [a0, a1, a2] := (l2.same s3).app (k := 2) rfl ⟨_, _, rfl, T.a_InvalidBrokers, e3⟩
  refine fun a3 H4 s4 f4 e4 => ?_
  have t4 : Same H H4 := t3.trans s4
  have l4 : Alls K H4 a_thing_here 0 [a0, a1, a2, a3] := (l3.same s4).app (k := 3) rfl ⟨_, _, rfl, T.a_InvalidCommand, e4⟩
  refine ⟨by show 4 ≤ sizeLine; decide, fun p5 H5 n5 => ?_⟩
  have t5 : Same H H5 := t4.trans n5.same
  have l5 := l4.same n5.same
  have c5 := n5.here
  refine fun a4 H6 s6 f6 e6 => ?_
  have t6 : Same H H6 := t5.trans s6
  have l6 : Alls K H6 a_thing_here 0 [a0, a1, a2, a3, a4] := (l5.same s6).app (k := 4) rfl ⟨_, _, rfl, T.a_InvalidCommands, e6⟩
  have c6 := s6 _ _ c5
  refine fun a5 H7 s7 f7 e7 => ?_
  have t7 : Same H H7 := t6.trans s7
  have l7 : Alls K H7 a_thing_here 0 [a0, a1, a2, a3, a4, a5] := (l6.same s7).app (k := 5) rfl ⟨_, _, rfl, T.a_InvalidCount, e7⟩
  have c7 := s7 _ _ c6
  refine fun a6 H8 s8 f8 e8 => ?_
  have t8 : Same H H8 := t7.trans s8
  have l8 : Alls K H8 a_thing_here 0 [a0, a1, a2, a3, a4, a5, a6] := (l7.same s8).app (k := 6) rfl ⟨_, _, rfl, T.a_InvalidDisk, e8⟩
  have c8 := s8 _ _ c7
  refine fun a7 H9 s9 f9 e9 => ?_
  have t9 : Same H H9 := t8.trans s9
  have l9 : Alls K H9 a_thing_here 0 [a0, a1, a2, a3, a4, a5, a6, a7] := (l8.same s9).app (k := 7) rfl ⟨_, _, rfl, T.a_InvalidItems, e9⟩
  have c9 := s9 _ _ c8
  refine ⟨by show 4 ≤ sizeLine; decide, fun p10 H10 n10 => ?_⟩
  have t10 : Same H H10 := t9.trans n10.same
  have l10 := l9.same n10.same
  have c10 := n10.keep c9
  refine .inl ⟨_, _, c10, n10.here, by show 4 + 4 ≤ sizeLine; decide, fun p11 H11 n11 => ?_⟩
  have t11 : Same H H11 := t10.trans n11.same
  have l11 := l10.same n11.same
  have c11 := n11.here
  refine fun a8 H12 s12 f12 e12 => ?_
  have t12 : Same H H12 := t11.trans s12
  have l12 : Alls K H12 a_thing_here 0 [a0, a1, a2, a3, a4, a5, a6, a7, a8] := (l11.same s12).app (k := 8) rfl ⟨_, _, rfl, T.a_InvalidKeeps, e12⟩
  have c12 := s12 _ _ c11
  refine fun a9 H13 s13 f13 e13 => ?_
  have t13 : Same H H13 := t12.trans s13
  have l13 : Alls K H13 a_thing_here 0 [a0, a1, a2, a3, a4, a5, a6, a7, a8, a9] := (l12.same s13).app (k := 9) rfl ⟨_, _, rfl, T.a_InvalidLetter, e13⟩
  have c13 := s13 _ _ c12
  refine fun a10 H14 s14 f14 e14 => ?_
  have t14 : Same H H14 := t13.trans s14
  have l14 : Alls K H14 a_thing_here 0 [a0, a1, a2, a3, a4, a5, a6, a7, a8, a9, a10] := (l13.same s14).app (k := 10) rfl ⟨_, _, rfl, T.a_InvalidLine, e14⟩
  have c14 := s14 _ _ c13
  refine fun a11 H15 s15 f15 e15 => ?_
  have t15 : Same H H15 := t14.trans s15
  have l15 : Alls K H15 a_thing_here 0 [a0, a1, a2, a3, a4, a5, a6, a7, a8, a9, a10, a11] := (l14.same s15).app (k := 11) rfl ⟨_, _, rfl, T.a_InvalidName, e15⟩
  have c15 := s15 _ _ c14
  refine ⟨by show 4 ≤ sizeLine; decide, fun p16 H16 n16 => ?_⟩
  have t16 : Same H H16 := t15.trans n16.same
  have l16 := l15.same n16.same
  have c16 := n16.keep c15
  refine .inl ⟨_, _, c16, n16.here, by show 8 + 4 ≤ sizeLine; decide, fun p17 H17 n17 => ?_⟩
  have t17 : Same H H17 := t16.trans n17.same
  have l17 := l16.same n17.same
  have c17 := n17.here
  refine fun a12 H18 s18 f18 e18 => ?_
  have t18 : Same H H18 := t17.trans s18
  have l18 : Alls K H18 a_thing_here 0 [a0, a1, a2, a3, a4, a5, a6, a7, a8, a9, a10, a11, a12] := (l17.same s18).app (k := 12) rfl ⟨_, _, rfl, T.a_InvalidNumber, e18⟩
  have c18 := s18 _ _ c17
  refine fun a13 H19 s19 f19 e19 => ?_
  have t19 : Same H H19 := t18.trans s19
  have l19 : Alls K H19 a_thing_here 0 [a0, a1, a2, a3, a4, a5, a6, a7, a8, a9, a10, a11, a12, a13] := (l18.same s19).app (k := 13) rfl ⟨_, _, rfl, T.a_InvalidPicture, e19⟩
  have c19 := s19 _ _ c18
  refine fun a14 H20 s20 f20 e20 => ?_
  have t20 : Same H H20 := t19.trans s20
  have l20 : Alls K H20 a_thing_here 0 [a0, a1, a2, a3, a4, a5, a6, a7, a8, a9, a10, a11, a12, a13, a14] := (l19.same s20).app (k := 14) rfl ⟨_, _, rfl, T.a_InvalidState, e20⟩
  have c20 := s20 _ _ c19
  refine fun a15 H21 s21 f21 e21 => ?_
  have t21 : Same H H21 := t20.trans s21
  have l21 : Alls K H21 a_thing_here 0 [a0, a1, a2, a3, a4, a5, a6, a7, a8, a9, a10, a11, a12, a13, a14, a15] := (l20.same s21).app (k := 15) rfl ⟨_, _, rfl, T.a_InvalidTerm, e21⟩
  have c21 := s21 _ _ c20
  refine ⟨by show 4 ≤ sizeLine; decide, fun p22 H22 n22 => ?_⟩
  have t22 : Same H H22 := t21.trans n22.same
  have l22 := l21.same n22.same
  have c22 := n22.keep c21
  refine .inl ⟨_, _, c22, n22.here, by show 12 + 4 ≤ sizeLine; decide, fun p23 H23 n23 => ?_⟩
  have t23 : Same H H23 := t22.trans n23.same
  have l23 := l22.same n23.same
  have c23 := n23.here
  refine fun a16 H24 s24 f24 e24 => ?_
  have t24 : Same H H24 := t23.trans s24
  have l24 : Alls K H24 a_thing_here 0 [a0, a1, a2, a3, a4, a5, a6, a7, a8, a9, a10, a11, a12, a13, a14, a15, a16] := (l23.same s24).app (k := 16) rfl ⟨_, _, rfl, T.a_InvalidText, e24⟩
  have c24 := s24 _ _ c23
  refine fun a17 H25 s25 f25 e25 => ?_
  have t25 : Same H H25 := t24.trans s25
  have l25 : Alls K H25 a_thing_here 0 [a0, a1, a2, a3, a4, a5, a6, a7, a8, a9, a10, a11, a12, a13, a14, a15, a16, a17] := (l24.same s25).app (k := 17) rfl ⟨_, _, rfl, T.a_InvalidValue, e25⟩
  have c25 := s25 _ _ c24
  refine fun a18 H26 s26 f26 e26 => ?_
  have t26 : Same H H26 := t25.trans s26
  have l26 : Alls K H26 a_thing_here 0 [a0, a1, a2, a3, a4, a5, a6, a7, a8, a9, a10, a11, a12, a13, a14, a15, a16, a17, a18] := (l25.same s26).app (k := 18) rfl ⟨_, _, rfl, T.a_InvalidWorld, e26⟩
  have c26 := s26 _ _ c25
  refine fun a19 H27 s27 f27 e27 => ?_
  have t27 : Same H H27 := t26.trans s27
  have l27 : Alls K H27 a_thing_here 0 [a0, a1, a2, a3, a4, a5, a6, a7, a8, a9, a10, a11, a12, a13, a14, a15, a16, a17, a18, a19] := (l26.same s27).app (k := 19) rfl ⟨_, _, rfl, T.a_TooLong, e27⟩
  have c27 := s27 _ _ c26
  refine fun a20 H28 s28 f28 e28 => ?_
  have t28 : Same H H28 := t27.trans s28
  have l28 : Alls K H28 a_thing_here 0 [a0, a1, a2, a3, a4, a5, a6, a7, a8, a9, a10, a11, a12, a13, a14, a15, a16, a17, a18, a19, a20] := (l27.same s28).app (k := 20) rfl ⟨_, _, rfl, T.a_NoFile, e28⟩
  have c28 := s28 _ _ c27
  refine ⟨by show 5 ≤ sizeLine; decide, fun p29 H29 n29 => ?_⟩
  have t29 : Same H H29 := t28.trans n29.same
  have l29 := l28.same n29.same
  have c29 := n29.keep c28
  refine .inl ⟨_, _, c29, n29.here, by show 16 + 5 ≤ sizeLine; decide, fun p30 H30 n30 => ?_⟩
  have t30 : Same H H30 := t29.trans n30.same
  have l30 := l29.same n30.same
  have c30 := n30.here
  refine fun a21 H31 s31 f31 e31 => ?_
  have t31 : Same H H31 := t30.trans s31
  have l31 : Alls K H31 a_thing_here 0 [a0, a1, a2, a3, a4, a5, a6, a7, a8, a9, a10, a11, a12, a13, a14, a15, a16, a17, a18, a19, a20, a21] := (l30.same s31).app (k := 21) rfl ⟨_, _, rfl, T.a_NoRow, e31⟩
  have c31 := s31 _ _ c30
  refine fun a22 H32 s32 f32 e32 => ?_
  have t32 : Same H H32 := t31.trans s32
  have l32 : Alls K H32 a_thing_here 0 [a0, a1, a2, a3, a4, a5, a6, a7, a8, a9, a10, a11, a12, a13, a14, a15, a16, a17, a18, a19, a20, a21, a22] := (l31.same s32).app (k := 22) rfl ⟨_, _, rfl, T.a_NoTopic, e32⟩
  have c32 := s32 _ _ c31
  refine fun a23 H33 s33 f33 e33 => ?_
  have t33 : Same H H33 := t32.trans s33
  have l33 : Alls K H33 a_thing_here 0 [a0, a1, a2, a3, a4, a5, a6, a7, a8, a9, a10, a11, a12, a13, a14, a15, a16, a17, a18, a19, a20, a21, a22, a23] := (l32.same s33).app (k := 23) rfl ⟨_, _, rfl, T.a_NoGroup, e33⟩
  have c33 := s33 _ _ c32
  refine fun a24 H34 s34 f34 e34 => ?_
  have t34 : Same H H34 := t33.trans s34
  have l34 : Alls K H34 a_thing_here 0 [a0, a1, a2, a3, a4, a5, a6, a7, a8, a9, a10, a11, a12, a13, a14, a15, a16, a17, a18, a19, a20, a21, a22, a23, a24] := (l33.same s34).app (k := 24) rfl ⟨_, _, rfl, T.a_NotLeading, e34⟩
  have c34 := s34 _ _ c33
  refine fun a25 H35 s35 f35 e35 => ?_
  have t35 : Same H H35 := t34.trans s35
  have l35 : Alls K H35 a_thing_here 0 [a0, a1, a2, a3, a4, a5, a6, a7, a8, a9, a10, a11, a12, a13, a14, a15, a16, a17, a18, a19, a20, a21, a22, a23, a24, a25] := (l34.same s35).app (k := 25) rfl ⟨_, _, rfl, T.a_Fallen, e35⟩
  have c35 := s35 _ _ c34
  refine ⟨by show 5 ≤ sizeLine; decide, fun p36 H36 n36 => ?_⟩
  have t36 : Same H H36 := t35.trans n36.same
  have l36 := l35.same n36.same
  have c36 := n36.keep c35
  refine .inl ⟨_, _, c36, n36.here, by show 21 + 5 ≤ sizeLine; decide, fun p37 H37 n37 => ?_⟩
  have t37 : Same H H37 := t36.trans n37.same
  have l37 := l36.same n37.same
  have c37 := n37.here
  exact q p37 [a0, a1, a2, a3, a4, a5, a6, a7, a8, a9, a10, a11, a12, a13, a14, a15, a16, a17, a18, a19, a20, a21, a22, a23, a24, a25] H37 t37 (t36.free n37.fresh) n37.here l37 rfl

/-! ### _law_by_name(_law_thing_here), level 3 -/
abbrev s__law_by_name : Stmt := top 35
abbrev N__law_by_name : List Str := ["_law_thing_here", "_law_found"]
theorem sc__law_by_name : FnScope N__law_by_name ["_law_thing_here"] (defScope s__law_by_name) := ⟨rfl, rfl, rfl, by decide +kernel, rfl, by decide +kernel, by decide +kernel⟩
theorem ok__law_by_name (T : Txt K mg e_InvalidAct e_InvalidActs e_InvalidBrokers e_InvalidCommand e_InvalidCommands e_InvalidCount e_InvalidDisk e_InvalidItems e_InvalidKeeps e_InvalidLetter e_InvalidLine e_InvalidName e_InvalidNumber e_InvalidPicture e_InvalidState e_InvalidTerm e_InvalidText e_InvalidValue e_InvalidWorld e_TooLong e_NoFile e_NoRow e_NoTopic e_NoGroup e_NotLeading e_Fallen e_Held e_PowerCut e_QueueError) (RK_InvalidBrokers_given : ErK P w K mg base 1 "InvalidBrokers" ["given"] (fun l => l) e_InvalidBrokers (spIni e_InvalidBrokers "given")) (RK_InvalidActs_given : ErK P w K mg base 1 "InvalidActs" ["given"] (fun l => l) e_InvalidActs (spIni e_InvalidActs "given")) (RK_InvalidAct_given : ErK P w K mg base 1 "InvalidAct" ["given"] (fun l => l) e_InvalidAct (spIni e_InvalidAct "given")) (RK_InvalidCount_given : ErK P w K mg base 1 "InvalidCount" ["given"] (fun l => l) e_InvalidCount (spIni e_InvalidCount "given")) (RK_InvalidCommands_given : ErK P w K mg base 1 "InvalidCommands" ["given"] (fun l => l) e_InvalidCommands (spIni e_InvalidCommands "given")) (RK_InvalidCommand_given : ErK P w K mg base 1 "InvalidCommand" ["given"] (fun l => l) e_InvalidCommand (spIni e_InvalidCommand "given")) (RK_InvalidKeeps_given : ErK P w K mg base 1 "InvalidKeeps" ["given"] (fun l => l) e_InvalidKeeps (spIni e_InvalidKeeps "given")) (RK_InvalidItems_given : ErK P w K mg base 1 "InvalidItems" ["given"] (fun l => l) e_InvalidItems (spIni e_InvalidItems "given")) (RK_InvalidDisk_given : ErK P w K mg base 1 "InvalidDisk" ["given"] (fun l => l) e_InvalidDisk (spIni e_InvalidDisk "given")) (RK_InvalidName_given : ErK P w K mg base 1 "InvalidName" ["given"] (fun l => l) e_InvalidName (spIni e_InvalidName "given")) (RK_InvalidLine_given : ErK P w K mg base 1 "InvalidLine" ["given"] (fun l => l) e_InvalidLine (spIni e_InvalidLine "given")) (RK_InvalidLetter_given : ErK P w K mg base 1 "InvalidLetter" ["given"] (fun l => l) e_InvalidLetter (spIni e_InvalidLetter "given")) (RK_InvalidState_given : ErK P w K mg base 1 "InvalidState" ["given"] (fun l => l) e_InvalidState (spIni e_InvalidState "given")) (RK_InvalidPicture_given : ErK P w K mg base 1 "InvalidPicture" ["given"] (fun l => l) e_InvalidPicture (spIni e_InvalidPicture "given")) (RK_InvalidNumber_given : ErK P w K mg base 1 "InvalidNumber" ["given"] (fun l => l) e_InvalidNumber (spIni e_InvalidNumber "given")) (RK_InvalidValue_given : ErK P w K mg base 1 "InvalidValue" ["given"] (fun l => l) e_InvalidValue (spIni e_InvalidValue "given")) (RK_InvalidText_given : ErK P w K mg base 1 "InvalidText" ["given"] (fun l => l) e_InvalidText (spIni e_InvalidText "given")) (RK_InvalidTerm_given : ErK P w K mg base 1 "InvalidTerm" ["given"] (fun l => l) e_InvalidTerm (spIni e_InvalidTerm "given")) (RK_NoRow_index : ErK P w K mg base 1 "NoRow" ["index"] (fun l => l) e_NoRow (spIni e_NoRow "index")) (RK_NoFile_name : ErK P w K mg base 1 "NoFile" ["name"] (fun l => l) e_NoFile (spIni e_NoFile "name")) (RK_TooLong_signs : ErK P w K mg base 1 "TooLong" ["signs"] (fun l => l) e_TooLong (spIni e_TooLong "signs")) (RK_InvalidWorld_given : ErK P w K mg base 1 "InvalidWorld" ["given"] (fun l => l) e_InvalidWorld (spIni e_InvalidWorld "given")) (RK_Fallen_who : ErK P w K mg base 1 "Fallen" ["who"] (fun l => l) e_Fallen (spIni e_Fallen "who")) (RK_NotLeading_leader : ErK P w K mg base 1 "NotLeading" ["leader"] (fun l => l) e_NotLeading (spIni e_NotLeading "leader")) (RK_NoGroup_group : ErK P w K mg base 1 "NoGroup" ["group"] (fun l => l) e_NoGroup (spIni e_NoGroup "group")) (RK_NoTopic_topic : ErK P w K mg base 1 "NoTopic" ["topic"] (fun l => l) e_NoTopic (spIni e_NoTopic "topic")) (D : Df K mg "_law_by_name" s__law_by_name ["_law_thing_here"]) : Ct P w K mg base CX0 3 "_law_by_name" ["_law_thing_here"] (sp__law_by_name K) := by
  refine ct1 D sc__law_by_name fun f cdv A outer s H a_thing_here Q E hr h => ⟨_, (pss_cons (ps_set (i := 1) sc__law_by_name.nd rfl (Or.inl rfl) (pe_lz (pa_cons (pe_e1K RK_InvalidAct_given (hr.mono (by decide)) (pk_cons (pz 0) pk_nil)) (pa_cons (pe_e1K RK_InvalidActs_given (hr.mono (by decide)) (pk_cons (pz 0) pk_nil)) (pa_cons (pe_e1K RK_InvalidBrokers_given (hr.mono (by decide)) (pk_cons (pz 0) pk_nil)) pa_nil)))))
    (pss_cons (ps_set (i := 1) sc__law_by_name.nd rfl (Or.inl rfl) (pe_op (k_add K) (pz 1) (pe_lz (pa_cons (pe_e1K RK_InvalidCommand_given (hr.mono (by decide)) (pk_cons (pz 0) pk_nil)) (pa_cons (pe_e1K RK_InvalidCommands_given (hr.mono (by decide)) (pk_cons (pz 0) pk_nil)) (pa_cons (pe_e1K RK_InvalidCount_given (hr.mono (by decide)) (pk_cons (pz 0) pk_nil)) pa_nil))))))
    (pss_cons (ps_set (i := 1) sc__law_by_name.nd rfl (Or.inl rfl) (pe_op (k_add K) (pz 1) (pe_lz (pa_cons (pe_e1K RK_InvalidDisk_given (hr.mono (by decide)) (pk_cons (pz 0) pk_nil)) (pa_cons (pe_e1K RK_InvalidItems_given (hr.mono (by decide)) (pk_cons (pz 0) pk_nil)) (pa_cons (pe_e1K RK_InvalidKeeps_given (hr.mono (by decide)) (pk_cons (pz 0) pk_nil)) pa_nil))))))
    (pss_cons (ps_set (i := 1) sc__law_by_name.nd rfl (Or.inl rfl) (pe_op (k_add K) (pz 1) (pe_lz (pa_cons (pe_e1K RK_InvalidLetter_given (hr.mono (by decide)) (pk_cons (pz 0) pk_nil)) (pa_cons (pe_e1K RK_InvalidLine_given (hr.mono (by decide)) (pk_cons (pz 0) pk_nil)) (pa_cons (pe_e1K RK_InvalidName_given (hr.mono (by decide)) (pk_cons (pz 0) pk_nil)) pa_nil))))))
    (pss_cons (ps_set (i := 1) sc__law_by_name.nd rfl (Or.inl rfl) (pe_op (k_add K) (pz 1) (pe_lz (pa_cons (pe_e1K RK_InvalidNumber_given (hr.mono (by decide)) (pk_cons (pz 0) pk_nil)) (pa_cons (pe_e1K RK_InvalidPicture_given (hr.mono (by decide)) (pk_cons (pz 0) pk_nil)) (pa_cons (pe_e1K RK_InvalidState_given (hr.mono (by decide)) (pk_cons (pz 0) pk_nil)) pa_nil))))))
    (pss_cons (ps_set (i := 1) sc__law_by_name.nd rfl (Or.inl rfl) (pe_op (k_add K) (pz 1) (pe_lz (pa_cons (pe_e1K RK_InvalidTerm_given (hr.mono (by decide)) (pk_cons (pz 0) pk_nil)) (pa_cons (pe_e1K RK_InvalidText_given (hr.mono (by decide)) (pk_cons (pz 0) pk_nil)) (pa_cons (pe_e1K RK_InvalidValue_given (hr.mono (by decide)) (pk_cons (pz 0) pk_nil)) pa_nil))))))
    (pss_cons (ps_set (i := 1) sc__law_by_name.nd rfl (Or.inl rfl) (pe_op (k_add K) (pz 1) (pe_lz (pa_cons (pe_e1K RK_InvalidWorld_given (hr.mono (by decide)) (pk_cons (pz 0) pk_nil)) (pa_cons (pe_e1K RK_TooLong_signs (hr.mono (by decide)) (pk_cons (pz 0) pk_nil)) (pa_cons (pe_e1K RK_NoFile_name (hr.mono (by decide)) (pk_cons (pz 0) pk_nil)) (pa_cons (pe_e1K RK_NoRow_index (hr.mono (by decide)) (pk_cons (pz 0) pk_nil)) pa_nil)))))))
    (pss_one (ps_ret (pe_op (k_add K) (pz 1) (pe_lz (pa_cons (pe_e1K RK_NoTopic_topic (hr.mono (by decide)) (pk_cons (pz 0) pk_nil)) (pa_cons (pe_e1K RK_NoGroup_group (hr.mono (by decide)) (pk_cons (pz 0) pk_nil)) (pa_cons (pe_e1K RK_NotLeading_leader (hr.mono (by decide)) (pk_cons (pz 0) pk_nil)) (pa_cons (pe_e1K RK_Fallen_who (hr.mono (by decide)) (pk_cons (pz 0) pk_nil)) pa_nil))))))))))))))), ?_⟩
  have q := h
  refine fun a0 H1 s1 f1 e1 => ?_
  have t1 : Same H H1 := s1
  have l1 : Alls K H1 a_thing_here 0 [a0] := .cons ⟨_, _, rfl, T.a_InvalidAct, e1⟩ .nil
  refine fun a1 H2 s2 f2 e2 => ?_
  have t2 : Same H H2 := t1.trans s2
  have l2 : Alls K H2 a_thing_here 0 [a0, a1] := (l1.same s2).app (k := 1) rfl ⟨_, _, rfl, T.a_InvalidActs, e2⟩
  refine fun a2 H3 s3 f3 e3 => ?_
  have t3 : Same H H3 := t2.trans s3
  have l3 : Alls K H3 a_thing_here 0 [a0, a1, a2] := (l2.same s3).app (k := 2) rfl ⟨_, _, rfl, T.a_InvalidBrokers, e3⟩
  refine ⟨by show 3 ≤ sizeLine; decide, fun p4 H4 n4 => ?_⟩
  have t4 : Same H H4 := t3.trans n4.same
  have l4 := l3.same n4.same
  have c4 := n4.here
  refine fun a3 H5 s5 f5 e5 => ?_
  have t5 : Same H H5 := t4.trans s5
  have l5 : Alls K H5 a_thing_here 0 [a0, a1, a2, a3] := (l4.same s5).app (k := 3) rfl ⟨_, _, rfl, T.a_InvalidCommand, e5⟩
  have c5 := s5 _ _ c4
  refine fun a4 H6 s6 f6 e6 => ?_
  have t6 : Same H H6 := t5.trans s6
  have l6 : Alls K H6 a_thing_here 0 [a0, a1, a2, a3, a4] := (l5.same s6).app (k := 4) rfl ⟨_, _, rfl, T.a_InvalidCommands, e6⟩
  have c6 := s6 _ _ c5
  refine fun a5 H7 s7 f7 e7 => ?_
  have t7 : Same H H7 := t6.trans s7
  have l7 : Alls K H7 a_thing_here 0 [a0, a1, a2, a3, a4, a5] := (l6.same s7).app (k := 5) rfl ⟨_, _, rfl, T.a_InvalidCount, e7⟩
  have c7 := s7 _ _ c6
  refine ⟨by show 3 ≤ sizeLine; decide, fun p8 H8 n8 => ?_⟩
  have t8 : Same H H8 := t7.trans n8.same
  have l8 := l7.same n8.same
  have c8 := n8.keep c7
  refine .inl ⟨_, _, c8, n8.here, by show 3 + 3 ≤ sizeLine; decide, fun p9 H9 n9 => ?_⟩
  have t9 : Same H H9 := t8.trans n9.same
  have l9 := l8.same n9.same
  have c9 := n9.here
  refine fun a6 H10 s10 f10 e10 => ?_
  have t10 : Same H H10 := t9.trans s10
  have l10 : Alls K H10 a_thing_here 0 [a0, a1, a2, a3, a4, a5, a6] := (l9.same s10).app (k := 6) rfl ⟨_, _, rfl, T.a_InvalidDisk, e10⟩
  have c10 := s10 _ _ c9
  refine fun a7 H11 s11 f11 e11 => ?_
  have t11 : Same H H11 := t10.trans s11
  have l11 : Alls K H11 a_thing_here 0 [a0, a1, a2, a3, a4, a5, a6, a7] := (l10.same s11).app (k := 7) rfl ⟨_, _, rfl, T.a_InvalidItems, e11⟩
  have c11 := s11 _ _ c10
  refine fun a8 H12 s12 f12 e12 => ?_
  have t12 : Same H H12 := t11.trans s12
  have l12 : Alls K H12 a_thing_here 0 [a0, a1, a2, a3, a4, a5, a6, a7, a8] := (l11.same s12).app (k := 8) rfl ⟨_, _, rfl, T.a_InvalidKeeps, e12⟩
  have c12 := s12 _ _ c11
  refine ⟨by show 3 ≤ sizeLine; decide, fun p13 H13 n13 => ?_⟩
  have t13 : Same H H13 := t12.trans n13.same
  have l13 := l12.same n13.same
  have c13 := n13.keep c12
  refine .inl ⟨_, _, c13, n13.here, by show 6 + 3 ≤ sizeLine; decide, fun p14 H14 n14 => ?_⟩
  have t14 : Same H H14 := t13.trans n14.same
  have l14 := l13.same n14.same
  have c14 := n14.here
  refine fun a9 H15 s15 f15 e15 => ?_
  have t15 : Same H H15 := t14.trans s15
  have l15 : Alls K H15 a_thing_here 0 [a0, a1, a2, a3, a4, a5, a6, a7, a8, a9] := (l14.same s15).app (k := 9) rfl ⟨_, _, rfl, T.a_InvalidLetter, e15⟩
  have c15 := s15 _ _ c14
  refine fun a10 H16 s16 f16 e16 => ?_
  have t16 : Same H H16 := t15.trans s16
  have l16 : Alls K H16 a_thing_here 0 [a0, a1, a2, a3, a4, a5, a6, a7, a8, a9, a10] := (l15.same s16).app (k := 10) rfl ⟨_, _, rfl, T.a_InvalidLine, e16⟩
  have c16 := s16 _ _ c15
  refine fun a11 H17 s17 f17 e17 => ?_
  have t17 : Same H H17 := t16.trans s17
  have l17 : Alls K H17 a_thing_here 0 [a0, a1, a2, a3, a4, a5, a6, a7, a8, a9, a10, a11] := (l16.same s17).app (k := 11) rfl ⟨_, _, rfl, T.a_InvalidName, e17⟩
  have c17 := s17 _ _ c16
  refine ⟨by show 3 ≤ sizeLine; decide, fun p18 H18 n18 => ?_⟩
  have t18 : Same H H18 := t17.trans n18.same
  have l18 := l17.same n18.same
  have c18 := n18.keep c17
  refine .inl ⟨_, _, c18, n18.here, by show 9 + 3 ≤ sizeLine; decide, fun p19 H19 n19 => ?_⟩
  have t19 : Same H H19 := t18.trans n19.same
  have l19 := l18.same n19.same
  have c19 := n19.here
  refine fun a12 H20 s20 f20 e20 => ?_
  have t20 : Same H H20 := t19.trans s20
  have l20 : Alls K H20 a_thing_here 0 [a0, a1, a2, a3, a4, a5, a6, a7, a8, a9, a10, a11, a12] := (l19.same s20).app (k := 12) rfl ⟨_, _, rfl, T.a_InvalidNumber, e20⟩
  have c20 := s20 _ _ c19
  refine fun a13 H21 s21 f21 e21 => ?_
  have t21 : Same H H21 := t20.trans s21
  have l21 : Alls K H21 a_thing_here 0 [a0, a1, a2, a3, a4, a5, a6, a7, a8, a9, a10, a11, a12, a13] := (l20.same s21).app (k := 13) rfl ⟨_, _, rfl, T.a_InvalidPicture, e21⟩
  have c21 := s21 _ _ c20
  refine fun a14 H22 s22 f22 e22 => ?_
  have t22 : Same H H22 := t21.trans s22
  have l22 : Alls K H22 a_thing_here 0 [a0, a1, a2, a3, a4, a5, a6, a7, a8, a9, a10, a11, a12, a13, a14] := (l21.same s22).app (k := 14) rfl ⟨_, _, rfl, T.a_InvalidState, e22⟩
  have c22 := s22 _ _ c21
  refine ⟨by show 3 ≤ sizeLine; decide, fun p23 H23 n23 => ?_⟩
  have t23 : Same H H23 := t22.trans n23.same
  have l23 := l22.same n23.same
  have c23 := n23.keep c22
  refine .inl ⟨_, _, c23, n23.here, by show 12 + 3 ≤ sizeLine; decide, fun p24 H24 n24 => ?_⟩
  have t24 : Same H H24 := t23.trans n24.same
  have l24 := l23.same n24.same
  have c24 := n24.here
  refine fun a15 H25 s25 f25 e25 => ?_
  have t25 : Same H H25 := t24.trans s25
  have l25 : Alls K H25 a_thing_here 0 [a0, a1, a2, a3, a4, a5, a6, a7, a8, a9, a10, a11, a12, a13, a14, a15] := (l24.same s25).app (k := 15) rfl ⟨_, _, rfl, T.a_InvalidTerm, e25⟩
  have c25 := s25 _ _ c24
  refine fun a16 H26 s26 f26 e26 => ?_
  have t26 : Same H H26 := t25.trans s26
  have l26 : Alls K H26 a_thing_here 0 [a0, a1, a2, a3, a4, a5, a6, a7, a8, a9, a10, a11, a12, a13, a14, a15, a16] := (l25.same s26).app (k := 16) rfl ⟨_, _, rfl, T.a_InvalidText, e26⟩
  have c26 := s26 _ _ c25
  refine fun a17 H27 s27 f27 e27 => ?_
  have t27 : Same H H27 := t26.trans s27
  have l27 : Alls K H27 a_thing_here 0 [a0, a1, a2, a3, a4, a5, a6, a7, a8, a9, a10, a11, a12, a13, a14, a15, a16, a17] := (l26.same s27).app (k := 17) rfl ⟨_, _, rfl, T.a_InvalidValue, e27⟩
  have c27 := s27 _ _ c26
  refine ⟨by show 3 ≤ sizeLine; decide, fun p28 H28 n28 => ?_⟩
  have t28 : Same H H28 := t27.trans n28.same
  have l28 := l27.same n28.same
  have c28 := n28.keep c27
  refine .inl ⟨_, _, c28, n28.here, by show 15 + 3 ≤ sizeLine; decide, fun p29 H29 n29 => ?_⟩
  have t29 : Same H H29 := t28.trans n29.same
  have l29 := l28.same n29.same
  have c29 := n29.here
  refine fun a18 H30 s30 f30 e30 => ?_
  have t30 : Same H H30 := t29.trans s30
  have l30 : Alls K H30 a_thing_here 0 [a0, a1, a2, a3, a4, a5, a6, a7, a8, a9, a10, a11, a12, a13, a14, a15, a16, a17, a18] := (l29.same s30).app (k := 18) rfl ⟨_, _, rfl, T.a_InvalidWorld, e30⟩
  have c30 := s30 _ _ c29
  refine fun a19 H31 s31 f31 e31 => ?_
  have t31 : Same H H31 := t30.trans s31
  have l31 : Alls K H31 a_thing_here 0 [a0, a1, a2, a3, a4, a5, a6, a7, a8, a9, a10, a11, a12, a13, a14, a15, a16, a17, a18, a19] := (l30.same s31).app (k := 19) rfl ⟨_, _, rfl, T.a_TooLong, e31⟩
  have c31 := s31 _ _ c30
  refine fun a20 H32 s32 f32 e32 => ?_
  have t32 : Same H H32 := t31.trans s32
  have l32 : Alls K H32 a_thing_here 0 [a0, a1, a2, a3, a4, a5, a6, a7, a8, a9, a10, a11, a12, a13, a14, a15, a16, a17, a18, a19, a20] := (l31.same s32).app (k := 20) rfl ⟨_, _, rfl, T.a_NoFile, e32⟩
  have c32 := s32 _ _ c31
  refine fun a21 H33 s33 f33 e33 => ?_
  have t33 : Same H H33 := t32.trans s33
  have l33 : Alls K H33 a_thing_here 0 [a0, a1, a2, a3, a4, a5, a6, a7, a8, a9, a10, a11, a12, a13, a14, a15, a16, a17, a18, a19, a20, a21] := (l32.same s33).app (k := 21) rfl ⟨_, _, rfl, T.a_NoRow, e33⟩
  have c33 := s33 _ _ c32
  refine ⟨by show 4 ≤ sizeLine; decide, fun p34 H34 n34 => ?_⟩
  have t34 : Same H H34 := t33.trans n34.same
  have l34 := l33.same n34.same
  have c34 := n34.keep c33
  refine .inl ⟨_, _, c34, n34.here, by show 18 + 4 ≤ sizeLine; decide, fun p35 H35 n35 => ?_⟩
  have t35 : Same H H35 := t34.trans n35.same
  have l35 := l34.same n35.same
  have c35 := n35.here
  refine fun a22 H36 s36 f36 e36 => ?_
  have t36 : Same H H36 := t35.trans s36
  have l36 : Alls K H36 a_thing_here 0 [a0, a1, a2, a3, a4, a5, a6, a7, a8, a9, a10, a11, a12, a13, a14, a15, a16, a17, a18, a19, a20, a21, a22] := (l35.same s36).app (k := 22) rfl ⟨_, _, rfl, T.a_NoTopic, e36⟩
  have c36 := s36 _ _ c35
  refine fun a23 H37 s37 f37 e37 => ?_
  have t37 : Same H H37 := t36.trans s37
  have l37 : Alls K H37 a_thing_here 0 [a0, a1, a2, a3, a4, a5, a6, a7, a8, a9, a10, a11, a12, a13, a14, a15, a16, a17, a18, a19, a20, a21, a22, a23] := (l36.same s37).app (k := 23) rfl ⟨_, _, rfl, T.a_NoGroup, e37⟩
  have c37 := s37 _ _ c36
  refine fun a24 H38 s38 f38 e38 => ?_
  have t38 : Same H H38 := t37.trans s38
  have l38 : Alls K H38 a_thing_here 0 [a0, a1, a2, a3, a4, a5, a6, a7, a8, a9, a10, a11, a12, a13, a14, a15, a16, a17, a18, a19, a20, a21, a22, a23, a24] := (l37.same s38).app (k := 24) rfl ⟨_, _, rfl, T.a_NotLeading, e38⟩
  have c38 := s38 _ _ c37
  refine fun a25 H39 s39 f39 e39 => ?_
  have t39 : Same H H39 := t38.trans s39
  have l39 : Alls K H39 a_thing_here 0 [a0, a1, a2, a3, a4, a5, a6, a7, a8, a9, a10, a11, a12, a13, a14, a15, a16, a17, a18, a19, a20, a21, a22, a23, a24, a25] := (l38.same s39).app (k := 25) rfl ⟨_, _, rfl, T.a_Fallen, e39⟩
  have c39 := s39 _ _ c38
  refine ⟨by show 4 ≤ sizeLine; decide, fun p40 H40 n40 => ?_⟩
  have t40 : Same H H40 := t39.trans n40.same
  have l40 := l39.same n40.same
  have c40 := n40.keep c39
  refine .inl ⟨_, _, c40, n40.here, by show 22 + 4 ≤ sizeLine; decide, fun p41 H41 n41 => ?_⟩
  have t41 : Same H H41 := t40.trans n41.same
  have l41 := l40.same n41.same
  have c41 := n41.here
  exact q p41 [a0, a1, a2, a3, a4, a5, a6, a7, a8, a9, a10, a11, a12, a13, a14, a15, a16, a17, a18, a19, a20, a21, a22, a23, a24, a25] H41 t41 (t40.free n41.fresh) n41.here l41 rfl

/-! ### _law_kept(_law_e), level 1 -/
abbrev s__law_kept : Stmt := top 38
abbrev N__law_kept : List Str := ["_law_e"]
theorem sc__law_kept : FnScope N__law_kept ["_law_e"] (defScope s__law_kept) := ⟨rfl, rfl, rfl, by decide +kernel, rfl, by decide +kernel, by decide +kernel⟩
theorem ok__law_kept (T : Txt K mg e_InvalidAct e_InvalidActs e_InvalidBrokers e_InvalidCommand e_InvalidCommands e_InvalidCount e_InvalidDisk e_InvalidItems e_InvalidKeeps e_InvalidLetter e_InvalidLine e_InvalidName e_InvalidNumber e_InvalidPicture e_InvalidState e_InvalidTerm e_InvalidText e_InvalidValue e_InvalidWorld e_TooLong e_NoFile e_NoRow e_NoTopic e_NoGroup e_NotLeading e_Fallen e_Held e_PowerCut e_QueueError) (D : Df K mg "_law_kept" s__law_kept ["_law_e"]) : Cw P w K mg base 1 "_law_kept" ["_law_e"] (sp__law_kept K) := by
  refine cw1 D sc__law_kept fun f cdv A outer s H a_e Q E pp hr wm h => ⟨_, (pss_cons (ps_if (pt_trK K (pe_callB (k_isE K) (by rfl) T.n_isinstance bt_isinstance (pa_cons (pz 0) (pa_cons (pe_glob (v := .ref e_TooLong) (by rfl) T.g_TooLong rfl) pa_nil)))) 
      (pss_one (ps_ret (pe_xgK K (pz 0)))) pss_nil)
    (pss_cons (ps_if (pt_trK K (pe_callB (k_isE K) (by rfl) T.n_isinstance bt_isinstance (pa_cons (pz 0) (pa_cons (pe_glob (v := .ref e_NoFile) (by rfl) T.g_NoFile rfl) pa_nil)))) 
      (pss_one (ps_ret (pe_xgK K (pz 0)))) pss_nil)
    (pss_cons (ps_if (pt_trK K (pe_callB (k_isE K) (by rfl) T.n_isinstance bt_isinstance (pa_cons (pz 0) (pa_cons (pe_glob (v := .ref e_NoRow) (by rfl) T.g_NoRow rfl) pa_nil)))) 
      (pss_one (ps_ret (pe_xgK K (pz 0)))) pss_nil)
    (pss_cons (ps_if (pt_trK K (pe_callB (k_isE K) (by rfl) T.n_isinstance bt_isinstance (pa_cons (pz 0) (pa_cons (pe_glob (v := .ref e_NoTopic) (by rfl) T.g_NoTopic rfl) pa_nil)))) 
      (pss_one (ps_ret (pe_xgK K (pz 0)))) pss_nil)
    (pss_cons (ps_if (pt_trK K (pe_callB (k_isE K) (by rfl) T.n_isinstance bt_isinstance (pa_cons (pz 0) (pa_cons (pe_glob (v := .ref e_NoGroup) (by rfl) T.g_NoGroup rfl) pa_nil)))) 
      (pss_one (ps_ret (pe_xgK K (pz 0)))) pss_nil)
    (pss_cons (ps_if (pt_trK K (pe_callB (k_isE K) (by rfl) T.n_isinstance bt_isinstance (pa_cons (pz 0) (pa_cons (pe_glob (v := .ref e_NotLeading) (by rfl) T.g_NotLeading rfl) pa_nil)))) 
      (pss_one (ps_ret (pe_xgK K (pz 0)))) pss_nil)
    (pss_cons (ps_if (pt_trK K (pe_callB (k_isE K) (by rfl) T.n_isinstance bt_isinstance (pa_cons (pz 0) (pa_cons (pe_glob (v := .ref e_Fallen) (by rfl) T.g_Fallen rfl) pa_nil)))) 
      (pss_one (ps_ret (pe_xgK K (pz 0)))) pss_nil)
    (pss_one (ps_ret (pe_xgK K (pz 0))))))))))), ?_⟩
  obtain ⟨a, i, v, rfl, i26, he, q⟩ := h
  obtain ⟨nm, C, e1, e2, er⟩ := he
  have R := rows T
  obtain ⟨hi, S, EC⟩ := R.at e1 e2
  have nd : ([e_InvalidAct, e_InvalidActs, e_InvalidBrokers, e_InvalidCommand, e_InvalidCommands, e_InvalidCount, e_InvalidDisk, e_InvalidItems, e_InvalidKeeps, e_InvalidLetter, e_InvalidLine, e_InvalidName, e_InvalidNumber, e_InvalidPicture, e_InvalidState, e_InvalidTerm, e_InvalidText, e_InvalidValue, e_InvalidWorld, e_TooLong, e_NoFile, e_NoRow, e_NoTopic, e_NoGroup, e_NotLeading, e_Fallen, e_Held, e_PowerCut] ++ [e_QueueError]).Nodup := T.nd
  have own : PySem.W.findIn K (.ref C) (fldN i) = some none := by
    have h26 : ([e_InvalidAct, e_InvalidActs, e_InvalidBrokers, e_InvalidCommand, e_InvalidCommands, e_InvalidCount, e_InvalidDisk, e_InvalidItems, e_InvalidKeeps, e_InvalidLetter, e_InvalidLine, e_InvalidName, e_InvalidNumber, e_InvalidPicture, e_InvalidState, e_InvalidTerm, e_InvalidText, e_InvalidValue, e_InvalidWorld, e_TooLong, e_NoFile, e_NoRow, e_NoTopic, e_NoGroup, e_NotLeading, e_Fallen, e_Held, e_PowerCut].take 26)[i]? = some C := by rw [List.getElem?_take_of_lt i26]; exact hi
    have := (owns T).at h26
    rwa [Nat.zero_add] at this
  have look : ([(fldN i, v)] : List (Str × V)).lookup (fldN i) = some v := by simp [List.lookup]
  refine ⟨C, [(fldN i, v)], decide (19 = i), er, S, R.kit nd (j := 19) hi rfl EC T.s_TooLong, ?_⟩
  by_cases z19 : 19 = i
  · refine iteY (c := decide (19 = i)) (decide_eq_true z19) ?_
    have ef : fldN i = "signs" := by rw [← z19]; rfl
    rw [ef] at own look er
    exact ⟨a, C, _, v, rfl, er, S.xf, own, look, q⟩
  refine iteN (c := decide (19 = i)) (decide_eq_false z19) ?_
  refine ⟨C, [(fldN i, v)], decide (20 = i), er, S, R.kit nd (j := 20) hi rfl EC T.s_NoFile, ?_⟩
  by_cases z20 : 20 = i
  · refine iteY (c := decide (20 = i)) (decide_eq_true z20) ?_
    have ef : fldN i = "name" := by rw [← z20]; rfl
    rw [ef] at own look er
    exact ⟨a, C, _, v, rfl, er, S.xf, own, look, q⟩
  refine iteN (c := decide (20 = i)) (decide_eq_false z20) ?_
  refine ⟨C, [(fldN i, v)], decide (21 = i), er, S, R.kit nd (j := 21) hi rfl EC T.s_NoRow, ?_⟩
  by_cases z21 : 21 = i
  · refine iteY (c := decide (21 = i)) (decide_eq_true z21) ?_
    have ef : fldN i = "index" := by rw [← z21]; rfl
    rw [ef] at own look er
    exact ⟨a, C, _, v, rfl, er, S.xf, own, look, q⟩
  refine iteN (c := decide (21 = i)) (decide_eq_false z21) ?_
  refine ⟨C, [(fldN i, v)], decide (22 = i), er, S, R.kit nd (j := 22) hi rfl EC T.s_NoTopic, ?_⟩
  by_cases z22 : 22 = i
  · refine iteY (c := decide (22 = i)) (decide_eq_true z22) ?_
    have ef : fldN i = "topic" := by rw [← z22]; rfl
    rw [ef] at own look er
    exact ⟨a, C, _, v, rfl, er, S.xf, own, look, q⟩
  refine iteN (c := decide (22 = i)) (decide_eq_false z22) ?_
  refine ⟨C, [(fldN i, v)], decide (23 = i), er, S, R.kit nd (j := 23) hi rfl EC T.s_NoGroup, ?_⟩
  by_cases z23 : 23 = i
  · refine iteY (c := decide (23 = i)) (decide_eq_true z23) ?_
    have ef : fldN i = "group" := by rw [← z23]; rfl
    rw [ef] at own look er
    exact ⟨a, C, _, v, rfl, er, S.xf, own, look, q⟩
  refine iteN (c := decide (23 = i)) (decide_eq_false z23) ?_
  refine ⟨C, [(fldN i, v)], decide (24 = i), er, S, R.kit nd (j := 24) hi rfl EC T.s_NotLeading, ?_⟩
  by_cases z24 : 24 = i
  · refine iteY (c := decide (24 = i)) (decide_eq_true z24) ?_
    have ef : fldN i = "leader" := by rw [← z24]; rfl
    rw [ef] at own look er
    exact ⟨a, C, _, v, rfl, er, S.xf, own, look, q⟩
  refine iteN (c := decide (24 = i)) (decide_eq_false z24) ?_
  refine ⟨C, [(fldN i, v)], decide (25 = i), er, S, R.kit nd (j := 25) hi rfl EC T.s_Fallen, ?_⟩
  by_cases z25 : 25 = i
  · refine iteY (c := decide (25 = i)) (decide_eq_true z25) ?_
    have ef : fldN i = "who" := by rw [← z25]; rfl
    rw [ef] at own look er
    exact ⟨a, C, _, v, rfl, er, S.xf, own, look, q⟩
  refine iteN (c := decide (25 = i)) (decide_eq_false z25) ?_
  have ef : fldN i = "given" := by
    unfold fldN
    rw [if_neg (fun e => z19 e.symm), if_neg (fun e => z20 e.symm), if_neg (fun e => z21 e.symm), if_neg (fun e => z22 e.symm), if_neg (fun e => z23 e.symm), if_neg (fun e => z24 e.symm), if_neg (fun e => z25 e.symm)]
  rw [ef] at own look er
  exact ⟨a, C, _, v, rfl, er, S.xf, own, look, q⟩

/-! ### _law_pairs(_law_first, _law_last), level 3 -/
abbrev s__law_pairs : Stmt := top 41
abbrev N__law_pairs : List Str := ["_law_first", "_law_last", "_law_e", "_law_both"]
theorem sc__law_pairs : FnScope N__law_pairs ["_law_first", "_law_last"] (defScope s__law_pairs) := ⟨rfl, rfl, rfl, by decide +kernel, rfl, by decide +kernel, by decide +kernel⟩
theorem ok__law_pairs (T : Txt K mg e_InvalidAct e_InvalidActs e_InvalidBrokers e_InvalidCommand e_InvalidCommands e_InvalidCount e_InvalidDisk e_InvalidItems e_InvalidKeeps e_InvalidLetter e_InvalidLine e_InvalidName e_InvalidNumber e_InvalidPicture e_InvalidState e_InvalidTerm e_InvalidText e_InvalidValue e_InvalidWorld e_TooLong e_NoFile e_NoRow e_NoTopic e_NoGroup e_NotLeading e_Fallen e_Held e_PowerCut e_QueueError) (RK_Held_number_group : ErK P w K mg base 1 "Held" ["number", "group"] perm_1_0 e_Held (spIni2 e_Held "group" "number")) (RK_Held_group_number : ErK P w K mg base 1 "Held" ["group", "number"] perm_0_1 e_Held (spIni2 e_Held "group" "number")) (R_Held : Er2 P w K mg base 1 "Held" "group" "number" e_Held) (C__law_is : Cw P w K mg base 2 "_law_is" ["_law_e", "_law_spot"] (sp__law_is K)) (D : Df K mg "_law_pairs" s__law_pairs ["_law_first", "_law_last"]) : Cg P w K mg base CX0 3 "_law_pairs" ["_law_first", "_law_last"] (sp__law_pairs K) := by
  refine cg2 D sc__law_pairs fun f cdv A outer s H a_first a_last Q E hr h => ⟨_, (pss_cons (ps_for PassesOwn.never rfl (pi_lzK K (pe_lzS (pa_cons (pe_e2 R_Held (hr.room.mono (by decide)) (pa_cons (pz 0) (pa_cons (pz 1) pa_nil))) (pa_cons (pe_e2K RK_Held_group_number (hr.room.mono (by decide)) (pk_cons (pz 0) (pk_cons (pz 1) pk_nil))) (pa_cons (pe_e2K RK_Held_number_group (hr.room.mono (by decide)) (pk_cons (pz 1) (pk_cons (pz 0) pk_nil))) pa_nil))))) (pg_name (i := 2) sc__law_pairs.nd rfl (Or.inl rfl)) 
      (pss_one (ps_if (PW.pt (pw_or (pt_not (pt_trK K (pe_cg (Cw.g C__law_is) (hr.mono (by decide)) pass0 (pa_cons (pz 2) (pa_cons pe_int pa_nil))))) (pw_or1 (pt_cmpZ (k_ne K hr.room.units) (pe_callB (c_repr hr) (by rfl) T.n_repr bt_repr (pa_cons (pe_lzS (pa_cons (pe_xgK K (pz 2)) (pa_cons (pe_xgK K (pz 2)) pa_nil))) pa_nil)) (pe_callB (c_repr hr) (by rfl) T.n_repr bt_repr (pa_cons (pe_lzS (pa_cons (pz 0) (pa_cons (pz 1) pa_nil))) pa_nil)) (nomark _))))) 
        (pss_one (ps_ret pe_bl)) pss_nil)))
    (pss_cons (ps_set (i := 3) sc__law_pairs.nd rfl (Or.inl rfl) (pe_lzS (pa_cons (pe_e2 R_Held (hr.room.mono (by decide)) (pa_cons (pz 0) (pa_cons (pz 1) pa_nil))) (pa_cons (pe_e2 R_Held (hr.room.mono (by decide)) (pa_cons (pz 1) (pa_cons (pz 0) pa_nil))) pa_nil))))
    (pss_one (ps_ret (pe_cmpR (k_eq K hr.room.units) (pe_callB (c_repr hr) (by rfl) T.n_repr bt_repr (pa_cons (pe_lzS (pa_cons (pe_xgK K (pe_ix (k_ix K) (pz 3) pe_int (fun _ _ => rfl))) (pa_cons (pe_xgK K (pe_ix (k_ix K) (pz 3) pe_int (fun _ _ => rfl))) (pa_cons (pe_xgK K (pe_ix (k_ix K) (pz 3) pe_int (fun _ _ => rfl))) pa_nil)))) pa_nil)) (pe_callB (c_repr hr) (by rfl) T.n_repr bt_repr (pa_cons (pe_lzS (pa_cons (pz 0) (pa_cons (pz 1) (pa_cons (pz 1) pa_nil)))) pa_nil)) (nomark _)))))), ?_⟩
  obtain ⟨⟨du, zu, wu, _⟩, ⟨dv, zv, wv, _⟩, q⟩ := h
  refine fun a1 H1 s1 f1 e1 => ?_
  refine fun a2 H2 s2 f2 e2 => ?_
  refine fun a3 H3 s3 f3 e3 => ?_
  refine ⟨by show 3 ≤ sizeLine; decide, fun p H4 n4 m4 => ?_⟩
  have s34 : Same H3 H4 := n4.same
  have s24 := s3.trans s34
  have s14 := s2.trans s24
  have s04 := s1.trans s14
  have each : ∀ x ∈ [V.ref a1, .ref a2, .ref a3], ∃ a, x = .ref a ∧ Ert H4 a e_Held [("number", a_last), ("group", a_first)] := by
    intro x hx
    simp only [List.mem_cons, List.not_mem_nil, or_false] at hx
    rcases hx with rfl | rfl | rfl
    · exact ⟨a1, rfl, e1.same s14⟩
    · exact ⟨a2, rfl, e2.same s24⟩
    · exact ⟨a3, rfl, e3.same s34⟩
  have sw := sw2 wu wv
  refine ⟨⟨_, SqL.of n4.here⟩, for_w (wk_list [V.ref a1, .ref a2, .ref a3]) (fun i σ H' => Same H4 H' ∧ ∃ w, σ = [some a_first, some a_last, w, none]) ⟨Same.refl _, none, rfl⟩ (fun i σ H' z => SqL.of (z.1 _ _ n4.here)) ?_ ?_⟩
  · rintro i x σ H' hx ⟨s', w, rfl⟩
    obtain ⟨a, rfl, he⟩ := each x (List.mem_of_getElem? hx)
    refine ⟨a, 26, _, rfl, rfl, ⟨"Held", e_Held, rfl, T.a_Held, he.same s'⟩, fun H5 s5 => ?_⟩
    refine ⟨a, e_Held, _, a_first, rfl, he.same (s'.trans s5), T.s_Held.xf, T.n_Held, rfl, ?_⟩
    refine ⟨a, e_Held, _, a_last, rfl, he.same (s'.trans s5), T.s_Held.xf, T.m_Held, rfl, ?_⟩
    refine ⟨by show 2 ≤ sizeLine; decide, fun p6 H6 n6 m6 => ?_⟩
    have s6 := ((s04.trans s').trans s5).trans n6.same
    refine ⟨true, .list [du, dv], .lst n6.here (fun _ => m6) (.cons (zu.same s6) (.cons (zv.same s6) .nil)), fun _ => rfl, sw.sh, Nat.le_trans sw.dp (by decide), sz (Nat.le_trans sw.ln (by decide)), ?_⟩
    refine ⟨by show 2 ≤ sizeLine; decide, fun p7 H7 n7 m7 => ?_⟩
    have s7 := s6.trans n7.same
    refine ⟨true, .list [du, dv], .lst n7.here (fun _ => m7) (.cons (zu.same s7) (.cons (zv.same s7) .nil)), fun _ => rfl, sw.sh, Nat.le_trans sw.dp (by decide), sz (Nat.le_trans sw.ln (by decide)), ?_⟩
    refine iteN (nself _) ?_
    exact ⟨((s'.trans s5).trans n6.same).trans n7.same, _, rfl⟩
  · rintro σ H5 ⟨s5, w, rfl⟩
    have s05 := s04.trans s5
    refine fun b1 H6 s6 f6 g6 => ?_
    refine fun b2 H7 s7 f7 g7 => ?_
    refine ⟨by show 2 ≤ sizeLine; decide, fun p8 H8 n8 m8 => ?_⟩
    have hl : H8 p8 = some (.lst [.ref b1, .ref b2]) := n8.here
    have h1 := (g6.same s7).same n8.same
    have h2 := g7.same n8.same
    refine ⟨_, V.ref b1, .inl (SqL.of hl), rfl, ?_⟩
    refine ⟨b1, e_Held, _, a_first, rfl, h1, T.s_Held.xf, T.n_Held, rfl, ?_⟩
    refine ⟨_, V.ref b2, .inl (SqL.of hl), rfl, ?_⟩
    refine ⟨b2, e_Held, _, a_last, rfl, h2, T.s_Held.xf, T.n_Held, rfl, ?_⟩
    refine ⟨_, V.ref b1, .inl (SqL.of hl), rfl, ?_⟩
    refine ⟨b1, e_Held, _, a_last, rfl, h1, T.s_Held.xf, T.m_Held, rfl, ?_⟩
    have sw := sw3 wu wv wv
    have s58 := (s6.trans s7).trans n8.same
    refine ⟨by show 3 ≤ sizeLine; decide, fun p9 H9 n9 m9 => ?_⟩
    have s9 := (s05.trans s58).trans n9.same
    refine ⟨true, .list [du, dv, dv], .lst n9.here (fun _ => m9) (.cons (zu.same s9) (.cons (zv.same s9) (.cons (zv.same s9) .nil))), fun _ => rfl, sw.sh, Nat.le_trans sw.dp (by decide), sz (Nat.le_trans sw.ln (by decide)), ?_⟩
    refine ⟨by show 3 ≤ sizeLine; decide, fun p10 H10 n10 m10 => ?_⟩
    have s10 := s9.trans n10.same
    refine ⟨true, .list [du, dv, dv], .lst n10.here (fun _ => m10) (.cons (zu.same s10) (.cons (zv.same s10) (.cons (zv.same s10) .nil))), fun _ => rfl, sw.sh, Nat.le_trans sw.dp (by decide), sz (Nat.le_trans sw.ln (by decide)), ?_⟩
    show Q (.bl (false ^^ decide (V.str (PyData.list [du, dv, dv]).shown = V.str (PyData.list [du, dv, dv]).shown))) H10
    rw [eself]
    exact q H10 s10

/-! ### _law_caught(_law_way, _law_thing_here, _law_other), level 3 -/
abbrev s__law_caught : Stmt := top 40
abbrev N__law_caught : List Str := ["_law_way", "_law_thing_here", "_law_other", "_law_e"]
theorem sc__law_caught : FnScope N__law_caught ["_law_way", "_law_thing_here", "_law_other"] (defScope s__law_caught) := ⟨rfl, rfl, rfl, by decide +kernel, rfl, by decide +kernel, by decide +kernel⟩
theorem ok__law_caught (T : Txt K mg e_InvalidAct e_InvalidActs e_InvalidBrokers e_InvalidCommand e_InvalidCommands e_InvalidCount e_InvalidDisk e_InvalidItems e_InvalidKeeps e_InvalidLetter e_InvalidLine e_InvalidName e_InvalidNumber e_InvalidPicture e_InvalidState e_InvalidTerm e_InvalidText e_InvalidValue e_InvalidWorld e_TooLong e_NoFile e_NoRow e_NoTopic e_NoGroup e_NotLeading e_Fallen e_Held e_PowerCut e_QueueError) (R_NoRow : Er P w K mg base 1 "NoRow" "index" e_NoRow) (RK_InvalidLetter_given : ErK P w K mg base 1 "InvalidLetter" ["given"] (fun l => l) e_InvalidLetter (spIni e_InvalidLetter "given")) (RK_Held_number_group : ErK P w K mg base 1 "Held" ["number", "group"] perm_1_0 e_Held (spIni2 e_Held "group" "number")) (R_PowerCut : Er0 K mg "PowerCut" e_PowerCut) (C__law_is : Cw P w K mg base 2 "_law_is" ["_law_e", "_law_spot"] (sp__law_is K)) (C__law_kept : Cw P w K mg base 1 "_law_kept" ["_law_e"] (sp__law_kept K)) (D : Df K mg "_law_caught" s__law_caught ["_law_way", "_law_thing_here", "_law_other"]) : Cg P w K mg base CX0 3 "_law_caught" ["_law_way", "_law_thing_here", "_law_other"] (sp__law_caught K) := by
  refine cg3 D sc__law_caught fun f cdv A outer s H a_way a_thing_here a_other Q E hr h => ⟨_, (pss_one (ps_tryE (i := 3) rfl rfl sc__law_caught.nd rfl rfl ⟨rfl, by decide, .inl T.g_QueueError⟩ takesN (fun W pn xe tk ps => 
        (pss_cons (ps_if (pt_cmpZ (k_eq K hr.room.units) (pz 0) pe_int (nomark _)) 
          (pss_one (ps_rN rfl tk (pmk1 R_NoRow (hr.room.mono (by decide)) (pa_cons (pz 1) pa_nil)))) pss_nil)
        (pss_cons (ps_if (pt_cmpZ (k_eq K hr.room.units) (pz 0) pe_int (nomark _)) 
          (pss_one (ps_rN rfl tk (pmk1K RK_InvalidLetter_given (hr.room.mono (by decide)) (pk_cons (pz 1) pk_nil)))) pss_nil)
        (pss_cons (ps_if (pt_cmpZ (k_eq K hr.room.units) (pz 0) pe_int (nomark _)) 
          (pss_one (ps_rN rfl tk (pmk2K RK_Held_number_group (hr.room.mono (by decide)) (pk_cons (pz 1) (pk_cons (pz 2) pk_nil))))) pss_nil)
        (pss_one (ps_rN rfl tk (pmk0 R_PowerCut))))))) (fun a C d pn => 
        (pss_cons (ps_if (pt_not (pt_trK K (pe_cwA ((A.deeper (envOfC "_law_caught" (defScope s__law_caught) s.heap.objs.size f cdv)).mark (some (.ref a))) C__law_is ((hr.wm _).mono (by decide)) (pa_cons (pz 3) (pa_cons (pe_ix (k_ix K) (pe_lzS (pa_cons pe_int (pa_cons pe_int (pa_cons pe_int (pa_cons pe_int pa_nil))))) (pz 0) (fun _ _ => rfl)) pa_nil))))) 
          (pss_one (ps_ret pe_bl)) pss_nil)
        (pss_cons (ps_if (pt_cmpZ (k_eq K hr.room.units) (pz 0) pe_int (nomark _)) 
          (pss_one (ps_ret pe_bl)) pss_nil)
        (pss_cons (ps_if (pt_cmpZ (k_eq K hr.room.units) (pz 0) pe_int (nomark _)) 
          (pss_one (ps_ret (pe_cmpR (k_eq K hr.room.units) (pe_callB (c_reprW (k := 1) ((hr.wm _).mono (by decide))) (by rfl) T.n_repr bt_repr (pa_cons (pe_lzS (pa_cons (pe_xgK K (pz 3)) (pa_cons (pe_xgK K (pz 3)) pa_nil))) pa_nil)) (pe_callB (c_reprW (k := 1) ((hr.wm _).mono (by decide))) (by rfl) T.n_repr bt_repr (pa_cons (pe_lzS (pa_cons (pz 2) (pa_cons (pz 1) pa_nil))) pa_nil)) (nomark _)))) pss_nil)
        (pss_one (ps_ret (pe_cmpR (k_eq K hr.room.units) (pe_callB (c_reprW (k := 1) ((hr.wm _).mono (by decide))) (by rfl) T.n_repr bt_repr (pa_cons (pe_cwA ((A.deeper (envOfC "_law_caught" (defScope s__law_caught) s.heap.objs.size f cdv)).mark (some (.ref a))) C__law_kept ((hr.wm _).mono (by decide)) (pa_cons (pz 3) pa_nil)) pa_nil)) (pe_callB (c_reprW (k := 1) ((hr.wm _).mono (by decide))) (by rfl) T.n_repr bt_repr (pa_cons (pz 1) pa_nil)) (nomark _)))))))))), ?_⟩
  obtain ⟨w, rfl, hw, ⟨du, zu, wu, _⟩, ⟨dv, zv, wv, _⟩, q⟩ := h
  have four : w = 0 ∨ w = 1 ∨ w = 2 ∨ w = 3 := by omega
  rcases four with rfl | rfl | rfl | rfl
  · refine fun d H1 n1 => ?_
    refine ⟨true, exm_base T.ec_NoRow T.xQ T.hQ T.tQ, fun _ => ⟨e_NoRow, rfl, fun a na => ?_⟩, fun z => by cases z⟩
    have n2 := nw (o := errH a e_NoRow (some d)) na
    have ea : ErA (upd H1 a (errH a e_NoRow (some d))) a e_NoRow (some d) := ⟨_, upd_same, fun _ z => z⟩
    have er : Ert (upd H1 a (errH a e_NoRow (some d))) a e_NoRow [("index", a_thing_here)] := .inr ⟨d, ea, .inr (n2.keep n1.here)⟩
    have s02 : Same H (upd H1 a (errH a e_NoRow (some d))) := n1.same.trans n2.same
    generalize upd H1 a (errH a e_NoRow (some d)) = H2 at n2 ea er s02 ⊢
    refine ⟨by decide, fun p3 H3 n3 m3 => ?_⟩
    refine ⟨_, V.int 21, .inl (SqL.of n3.here), rfl, ?_⟩
    refine ⟨.inr ⟨a, _, _, rfl, ea.same n3.same⟩, a, 21, [("index", a_thing_here)], rfl, rfl, ⟨"NoRow", e_NoRow, rfl, T.a_NoRow, er.same n3.same⟩, fun H4 s4 => ?_⟩
    have s24 := n3.same.trans s4
    have s04 := s02.trans s24
    refine ⟨.inr ⟨a, _, _, rfl, ea.same s24⟩, a, 21, a_thing_here, rfl, by decide, ⟨"NoRow", e_NoRow, rfl, T.a_NoRow, er.same s24⟩, ?_⟩
    refine ⟨true, du, zu.same s04, fun _ => rfl, wu.sh, Nat.le_trans wu.dp (by decide), sz (Nat.le_trans wu.ln (by decide)), ?_⟩
    refine ⟨true, du, zu.same s04, fun _ => rfl, wu.sh, Nat.le_trans wu.dp (by decide), sz (Nat.le_trans wu.ln (by decide)), ?_⟩
    show Q (.bl (false ^^ decide (V.str du.shown = V.str du.shown))) H4
    rw [eself]
    exact q H4 s04
  · refine fun d H1 n1 => ?_
    refine ⟨true, exm_base T.ec_InvalidLetter T.xQ T.hQ T.tQ, fun _ => ⟨e_InvalidLetter, rfl, fun a na => ?_⟩, fun z => by cases z⟩
    have n2 := nw (o := errH a e_InvalidLetter (some d)) na
    have ea : ErA (upd H1 a (errH a e_InvalidLetter (some d))) a e_InvalidLetter (some d) := ⟨_, upd_same, fun _ z => z⟩
    have er : Ert (upd H1 a (errH a e_InvalidLetter (some d))) a e_InvalidLetter [("given", a_thing_here)] := .inr ⟨d, ea, .inr (n2.keep n1.here)⟩
    have s02 : Same H (upd H1 a (errH a e_InvalidLetter (some d))) := n1.same.trans n2.same
    generalize upd H1 a (errH a e_InvalidLetter (some d)) = H2 at n2 ea er s02 ⊢
    refine ⟨by decide, fun p3 H3 n3 m3 => ?_⟩
    refine ⟨_, V.int 9, .inl (SqL.of n3.here), rfl, ?_⟩
    refine ⟨.inr ⟨a, _, _, rfl, ea.same n3.same⟩, a, 9, [("given", a_thing_here)], rfl, rfl, ⟨"InvalidLetter", e_InvalidLetter, rfl, T.a_InvalidLetter, er.same n3.same⟩, fun H4 s4 => ?_⟩
    have s24 := n3.same.trans s4
    have s04 := s02.trans s24
    refine ⟨.inr ⟨a, _, _, rfl, ea.same s24⟩, a, 9, a_thing_here, rfl, by decide, ⟨"InvalidLetter", e_InvalidLetter, rfl, T.a_InvalidLetter, er.same s24⟩, ?_⟩
    refine ⟨true, du, zu.same s04, fun _ => rfl, wu.sh, Nat.le_trans wu.dp (by decide), sz (Nat.le_trans wu.ln (by decide)), ?_⟩
    refine ⟨true, du, zu.same s04, fun _ => rfl, wu.sh, Nat.le_trans wu.dp (by decide), sz (Nat.le_trans wu.ln (by decide)), ?_⟩
    show Q (.bl (false ^^ decide (V.str du.shown = V.str du.shown))) H4
    rw [eself]
    exact q H4 s04
  · refine fun d H1 n1 => ?_
    refine ⟨true, exm_base T.ec_Held T.xQ T.hQ T.tQ, fun _ => ⟨e_Held, rfl, fun a na => ?_⟩, fun z => by cases z⟩
    have n2 := nw (o := errH a e_Held (some d)) na
    have ea : ErA (upd H1 a (errH a e_Held (some d))) a e_Held (some d) := ⟨_, upd_same, fun _ z => z⟩
    have er : Ert (upd H1 a (errH a e_Held (some d))) a e_Held [("number", a_thing_here), ("group", a_other)] := .inr ⟨d, ea, .inr (n2.keep n1.here)⟩
    have s02 : Same H (upd H1 a (errH a e_Held (some d))) := n1.same.trans n2.same
    generalize upd H1 a (errH a e_Held (some d)) = H2 at n2 ea er s02 ⊢
    refine ⟨by decide, fun p3 H3 n3 m3 => ?_⟩
    refine ⟨_, V.int 26, .inl (SqL.of n3.here), rfl, ?_⟩
    refine ⟨.inr ⟨a, _, _, rfl, ea.same n3.same⟩, a, 26, [("number", a_thing_here), ("group", a_other)], rfl, rfl, ⟨"Held", e_Held, rfl, T.a_Held, er.same n3.same⟩, fun H4 s4 => ?_⟩
    have s24 := n3.same.trans s4
    have s04 := s02.trans s24
    refine ⟨a, e_Held, _, a_other, rfl, er.same s24, T.s_Held.xf, T.n_Held, rfl, ?_⟩
    refine ⟨a, e_Held, _, a_thing_here, rfl, er.same s24, T.s_Held.xf, T.m_Held, rfl, ?_⟩
    have sw := sw2 wv wu
    refine ⟨by show 2 ≤ sizeLine; decide, fun p5 H5 n5 m5 => ?_⟩
    have s5 := s04.trans n5.same
    refine ⟨true, .list [dv, du], .lst n5.here (fun _ => m5) (.cons (zv.same s5) (.cons (zu.same s5) .nil)), fun _ => rfl, sw.sh, Nat.le_trans sw.dp (by decide), sz (Nat.le_trans sw.ln (by decide)), ?_⟩
    refine ⟨by show 2 ≤ sizeLine; decide, fun p6 H6 n6 m6 => ?_⟩
    have s6 := s5.trans n6.same
    refine ⟨true, .list [dv, du], .lst n6.here (fun _ => m6) (.cons (zv.same s6) (.cons (zu.same s6) .nil)), fun _ => rfl, sw.sh, Nat.le_trans sw.dp (by decide), sz (Nat.le_trans sw.ln (by decide)), ?_⟩
    show Q (.bl (false ^^ decide (V.str (PyData.list [dv, du]).shown = V.str (PyData.list [dv, du]).shown))) H6
    rw [eself]
    exact q H6 s6
  · refine ⟨true, exm_base T.ec_PowerCut T.xQ T.hQ T.tQ, fun _ => ⟨e_PowerCut, rfl, fun a na => ?_⟩, fun z => by cases z⟩
    have n2 := nw (o := errH a e_PowerCut none) na
    have ea : ErA (upd H a (errH a e_PowerCut none)) a e_PowerCut none := ⟨_, upd_same, fun _ z => z⟩
    have er : Ert (upd H a (errH a e_PowerCut none)) a e_PowerCut [] := .inl ⟨rfl, ea⟩
    have s02 : Same H (upd H a (errH a e_PowerCut none)) := n2.same
    generalize upd H a (errH a e_PowerCut none) = H2 at n2 ea er s02 ⊢
    refine ⟨by decide, fun p3 H3 n3 m3 => ?_⟩
    refine ⟨_, V.int 27, .inl (SqL.of n3.here), rfl, ?_⟩
    refine ⟨.inr ⟨a, _, _, rfl, ea.same n3.same⟩, a, 27, [], rfl, rfl, ⟨"PowerCut", e_PowerCut, rfl, T.a_PowerCut, er.same n3.same⟩, fun H4 s4 => ?_⟩
    have s24 := n3.same.trans s4
    have s04 := s02.trans s24
    exact q H4 s04

/-! ### law(_law_script), level 4 -/
abbrev s_law : Stmt := top 42
abbrev N_law : List Str := ["_law_script", "_law_k", "_law_box_here", "_law_first", "_law_last", "_law_lists", "_law_turn", "_law_spot", "_law_e", "_law_grown", "_law_errors", "_law_kept_here", "_law_thing_here", "_law_way"]
theorem sc_law : FnScope N_law ["_law_script"] (defScope s_law) := ⟨rfl, rfl, rfl, by decide +kernel, rfl, by decide +kernel, by decide +kernel⟩
theorem ok_law (T : Txt K mg e_InvalidAct e_InvalidActs e_InvalidBrokers e_InvalidCommand e_InvalidCommands e_InvalidCount e_InvalidDisk e_InvalidItems e_InvalidKeeps e_InvalidLetter e_InvalidLine e_InvalidName e_InvalidNumber e_InvalidPicture e_InvalidState e_InvalidTerm e_InvalidText e_InvalidValue e_InvalidWorld e_TooLong e_NoFile e_NoRow e_NoTopic e_NoGroup e_NotLeading e_Fallen e_Held e_PowerCut e_QueueError) (R_PowerCut : Er0 K mg "PowerCut" e_PowerCut) (RK_Held_number_group : ErK P w K mg base 1 "Held" ["number", "group"] perm_1_0 e_Held (spIni2 e_Held "group" "number")) (R_Held : Er2 P w K mg base 1 "Held" "group" "number" e_Held) (C__law_is : Cw P w K mg base 2 "_law_is" ["_law_e", "_law_spot"] (sp__law_is K)) (C__law_box : Ct P w K mg base CX0 1 "_law_box" ["_law_great"] (sp__law_box K)) (C__law_cell : Ct P w K mg base CX0 1 "_law_cell" ["_law_script", "_law_k"] (sp__law_cell K)) (C__law_thing : Ct P w K mg base CX0 2 "_law_thing" ["_law_box_here"] (sp__law_thing K)) (C__law_by_place : Ct P w K mg base CX0 3 "_law_by_place" ["_law_thing_here"] (sp__law_by_place K)) (C__law_by_name : Ct P w K mg base CX0 3 "_law_by_name" ["_law_thing_here"] (sp__law_by_name K)) (C__law_kept : Cw P w K mg base 1 "_law_kept" ["_law_e"] (sp__law_kept K)) (C__law_pairs : Cg P w K mg base CX0 3 "_law_pairs" ["_law_first", "_law_last"] (sp__law_pairs K)) (C__law_caught : Cg P w K mg base CX0 3 "_law_caught" ["_law_way", "_law_thing_here", "_law_other"] (sp__law_caught K)) (D : Df K mg "law" s_law ["_law_script"]) : Cg P w K mg base CX0 4 "law" ["_law_script"] (sp_law K) := by
  refine cg1 D sc_law fun f cdv A outer s H a_script Q E hr h => ⟨_, (pss_cons (ps_if (pt_not (pt_trK K (pe_cg (Cw.g C__law_is) (hr.mono (by decide)) pass0 (pa_cons (pe_e0 R_PowerCut) (pa_cons pe_int pa_nil))))) 
      (pss_one (ps_ret pe_bl)) pss_nil)
    (pss_cons (ps_for PassesOwn.never rfl (pi_rngZ (by rfl) T.n_range (pa_cons (pe_callB (c_max rfl) (by rfl) T.n_max bt_max (pa_cons pe_int (pa_cons (pe_callB (c_min rfl) (by rfl) T.n_min bt_min (pa_cons pe_int (pa_cons (pe_callB (k_len K) (by rfl) T.n_len bt_len (pa_cons (pz 0) pa_nil)) pa_nil))) pa_nil))) pa_nil)) (pg_name (i := 1) sc_law.nd rfl (Or.inl rfl)) 
      (pss_cons (ps_set (i := 2) sc_law.nd rfl (Or.inl rfl) (pe_cl C__law_box (hr.room.mono (by decide)) pass0 (pa_cons (pe_cl C__law_cell (hr.room.mono (by decide)) pass0 (pa_cons (pz 0) (pa_cons (pz 1) pa_nil))) pa_nil)))
      (pss_cons (ps_asg (pe_tz (pa_cons (pe_cl C__law_thing (hr.room.mono (by decide)) pass0 (pa_cons (pz 2) pa_nil)) (pa_cons (pe_cl C__law_thing (hr.room.mono (by decide)) pass0 (pa_cons (pz 2) pa_nil)) pa_nil))) (pg_tzK K (by rfl) (pgs_cz (pg_name (i := 3) sc_law.nd rfl (Or.inr rfl)) (pgs_cz (pg_name (i := 4) sc_law.nd rfl (Or.inr rfl)) pgs_nz))))
      (pss_cons (ps_set (i := 5) sc_law.nd rfl (Or.inl rfl) (pe_lz (pa_cons (pe_cl C__law_by_place (hr.room.mono (by decide)) pass0 (pa_cons (pz 3) pa_nil)) (pa_cons (pe_cl C__law_by_name (hr.room.mono (by decide)) pass0 (pa_cons (pz 4) pa_nil)) (pa_cons (pe_cl C__law_by_name (hr.room.mono (by decide)) pass0 (pa_cons (pz 3) pa_nil)) (pa_cons (pe_cl C__law_by_place (hr.room.mono (by decide)) pass0 (pa_cons (pz 4) pa_nil)) pa_nil))))))
      (pss_cons (ps_for PassesOwn.never rfl (pi_rngZ (by rfl) T.n_range (pa_cons pe_int pa_nil)) (pg_name (i := 6) sc_law.nd rfl (Or.inl rfl)) 
        (pss_one (ps_for PassesOwn.never rfl (pi_rngZ (by rfl) T.n_range (pa_cons pe_int pa_nil)) (pg_name (i := 7) sc_law.nd rfl (Or.inl rfl)) 
          (pss_cons (ps_set (i := 8) sc_law.nd rfl (Or.inl rfl) (pe_ix (k_ix K) (pe_ix (k_ix K) (pz 5) (pz 6) (fun _ _ => rfl)) (pz 7) (fun _ _ => rfl)))
          (pss_one (ps_if (PW.pt (pw_or (pt_not (pt_trK K (pe_cg (Cw.g C__law_is) (hr.mono (by decide)) pass0 (pa_cons (pz 8) (pa_cons (pz 7) pa_nil))))) (pw_or1 (pt_cmpZ (k_ne K hr.room.units) (pe_callB (c_repr hr) (by rfl) T.n_repr bt_repr (pa_cons (pe_cg (Cw.g C__law_kept) (hr.mono (by decide)) pass0 (pa_cons (pz 8) pa_nil)) pa_nil)) (pe_callB (c_repr hr) (by rfl) T.n_repr bt_repr (pa_cons (pe_ix (k_ix K) (pe_lz (pa_cons (pz 3) (pa_cons (pz 4) pa_nil))) (pe_op o_mod (pz 6) pe_int) (fun _ _ => rfl)) pa_nil)) (nomark _))))) 
            (pss_one (ps_ret pe_bl)) pss_nil))))))
      (pss_cons (ps_if (PW.pt (pw_or (pt_not (pt_trK K (pe_cg C__law_pairs (hr.mono (by decide)) pass0 (pa_cons (pz 3) (pa_cons (pz 4) pa_nil))))) (pw_or1 (pt_not (pt_trK K (pe_cg C__law_pairs (hr.mono (by decide)) pass0 (pa_cons (pz 4) (pa_cons (pz 3) pa_nil)))))))) 
        (pss_one (ps_ret pe_bl)) pss_nil)
      (pss_one (ps_if (pt_cmpZ (k_ne K hr.room.units) (pe_lcz (own := [("_law_way", 13)]) (by rfl) sc_law.nd (pi_rngZ (by rfl) T.n_range (pa_cons pe_int pa_nil)) (blkOk_by (own := [("_law_way", 13)]) (N := N_law) (sc := defScope s_law) (by decide +kernel)) (fun _ _ _ _ _ => (pg_name (i := 13) sc_law.nd rfl (Or.inl rfl))) (fun _ _ _ _ _ => (pts_one (pt_not (pt_trK K (pe_cg C__law_caught (hr.mono (by decide)) pass0 (pa_cons (pz 13) (pa_cons (pz 3) (pa_cons (pz 4) pa_nil)))))))) (fun _ _ _ _ _ => (pz 13))) (pe_lz pa_nil) (nomark _)) 
        (pss_one (ps_ret pe_bl)) pss_nil))))))))
    (pss_cons (ps_set (i := 9) sc_law.nd rfl (Or.inl rfl) (pe_lz (pa_cons pe_int pa_nil)))
    (pss_cons (ps_set (i := 10) sc_law.nd rfl (Or.inl rfl) (pe_op (k_add K) (pe_cl C__law_by_place (hr.room.mono (by decide)) pass0 (pa_cons (pz 9) pa_nil)) (pe_cl C__law_by_name (hr.room.mono (by decide)) pass0 (pa_cons (pz 9) pa_nil))))
    (pss_cons (ps_set (i := 11) sc_law.nd rfl (Or.inl rfl) (pe_op (k_add K) (pe_lcz (own := [("_law_e", 8)]) (by rfl) sc_law.nd (pi_lzK K (pz 10)) (blkOk_by (own := [("_law_e", 8)]) (N := N_law) (sc := defScope s_law) (by decide +kernel)) (fun _ _ _ _ _ => (pg_name (i := 8) sc_law.nd rfl (Or.inl rfl))) (fun _ _ _ _ _ => pts_nil) (fun _ _ _ _ _ => (pe_cg (Cw.g C__law_kept) (hr.mono (by decide)) pass0 (pa_cons (pz 8) pa_nil)))) (pe_lz (pa_cons (pe_xgK K (pe_e2 R_Held (hr.room.mono (by decide)) (pa_cons (pz 9) (pa_cons pe_int pa_nil)))) (pa_cons (pe_xgK K (pe_e2K RK_Held_number_group (hr.room.mono (by decide)) (pk_cons (pz 9) (pk_cons pe_int pk_nil)))) pa_nil)))))
    (pss_cons (ps_expr (pe_mlK K PySem.F.slot_list_append PySem.F.type_list_append m_append (pz 9) (pa_cons pe_str pa_nil)))
    (pss_one (ps_ret (pe_cmpR (k_eq K hr.room.units) (pe_lcz (own := [("_law_thing_here", 12)]) (by rfl) sc_law.nd (pi_lzK K (pz 11)) (blkOk_by (own := [("_law_thing_here", 12)]) (N := N_law) (sc := defScope s_law) (by decide +kernel)) (fun _ _ _ _ _ => (pg_name (i := 12) sc_law.nd rfl (Or.inl rfl))) (fun _ _ _ _ _ => (pts_one (pt_cmpZ (k_ne K hr.room.units) (pz 12) (pe_lz (pa_cons pe_int (pa_cons pe_str pa_nil))) (nomark _)))) (fun _ _ _ _ _ => (pz 12))) (pe_lz pa_nil) (nomark _)))))))))), ?_⟩
  obtain ⟨a, ns, rfl, hS, hl, k⟩ := h
  refine fun a0 H1 s1 f1 e1 => ?_
  refine ⟨a0, 27, [], rfl, rfl, ⟨"PowerCut", e_PowerCut, rfl, T.a_PowerCut, e1⟩, fun H2 s2 => ?_⟩
  have hS := sqL_same (s1.trans s2) hS
  refine .inl ⟨_, .inl hS, ?_⟩
  rw [List.length_map]
  have rb : ∀ z : Int, (if (if (ns.length : Int) < 4 then (ns.length : Int) else 4) > 2 then (if (ns.length : Int) < 4 then (ns.length : Int) else 4) else 2) = z → 2 ≤ z ∧ z ≤ 4 := fun z e => by
    subst e
    split <;> split <;> omega
  generalize hz : (if (if (ns.length : Int) < 4 then (ns.length : Int) else 4) > 2 then (if (ns.length : Int) < 4 then (ns.length : Int) else 4) else 2) = z
  obtain ⟨z2, z4⟩ := rb z hz
  refine ⟨by omega, by omega, for_w (wk_rng 0 _) (fun i σ H' => Same H2 H' ∧ ∃ v1 v2 v3 v4 v5 v6 v7 v8 v9 v10 v11 v12 v13 : Option V, σ = [some (.ref a), v1, v2, v3, v4, v5, v6, v7, v8, v9, v10, v11, v12, v13]) ⟨Same.refl H2, _, _, _, _, _, _, _, _, _, _, _, _, _, rfl⟩ (fun _ _ _ _ => trivial) ?_ ?_⟩
  · rintro i x σ Hb hx ⟨s0, v1, v2, v3, v4, v5, v6, v7, v8, v9, v10, v11, v12, v13, rfl⟩
    obtain ⟨hi, rfl⟩ := rngV_at hx
    refine ⟨a, _, ns, rfl, rfl, by omega, by omega, sqL_same s0 hS, hl, fun g H3 s3 => ?_⟩
    refine ⟨g, rfl, fun b H4 fb s4 B4 => ?_⟩
    refine ⟨b, 0, rfl, B4, by decide, fun u H5 t5 B5 du => ?_⟩
    refine ⟨b, 1, rfl, B5, by decide, fun v H6 t6 B6 dv => ?_⟩
    have du := du.but B5 t6
    refine ⟨by show 2 ≤ sizeLine; decide, fun q H7 n7 => ?_⟩
    refine ⟨_, SqT.of n7.here, rfl, ?_⟩
    have s37 : Same H3 H7 := fun p o e => n7.keep (t6.at (ne_of_none e fb) (t5.at (ne_of_none e fb) (s4 p o e)))
    have sb7 : Same Hb H7 := s3.trans s37
    have du := du.same n7.same
    have dv := dv.same n7.same
    refine fun p1 as1 H8 s8 f8 c8 l8 m8 => ?_
    refine fun p2 as2 H9 s9 f9 c9 l9 m9 => ?_
    refine fun p3 as3 H10 s10 f10 c10 l10 m10 => ?_
    refine fun p4 as4 H11 s11 f11 c11 l11 m11 => ?_
    refine ⟨by show 4 ≤ sizeLine; decide, fun L H12 n12 => ?_⟩
    have t12 : Same H11 H12 := n12.same
    have t11 := s11.trans t12
    have t10 := s10.trans t11
    have t9 := s9.trans t10
    have t8 := s8.trans t9
    have sb12 := sb7.trans t8
    have du := du.same t8
    have dv := dv.same t8
    have four : ∀ t : Nat, t < 4 → ∃ p as w, [V.ref p1, .ref p2, .ref p3, .ref p4][t]? = some (.ref p) ∧ H12 p = some (.lst (as.map V.ref)) ∧ Alls K H12 w 0 as ∧ as.length = 26 ∧ [u, v][t % 2]? = some w ∧ DD H12 w := by
      intro t ht
      have : t = 0 ∨ t = 1 ∨ t = 2 ∨ t = 3 := by omega
      rcases this with rfl | rfl | rfl | rfl
      · exact ⟨p1, as1, u, rfl, t9 _ _ c8, l8.same t9, m8, rfl, du⟩
      · exact ⟨p2, as2, v, rfl, t10 _ _ c9, l9.same t10, m9, rfl, dv⟩
      · exact ⟨p3, as3, u, rfl, t11 _ _ c10, l10.same t11, m10, rfl, du⟩
      · exact ⟨p4, as4, v, rfl, t12 _ _ c11, l11.same t12, m11, rfl, dv⟩
    refine ⟨by decide, by decide, for_w (wk_rng 0 _) (fun t σ H' => Same H12 H' ∧ ∃ v6 v7 v8 : Option V, σ = [some (.ref a), some (.int (0 + (i : Nat))), some (.ref b), some u, some v, some (.ref L), v6, v7, v8, v9, v10, v11, v12, v13]) ⟨Same.refl H12, _, _, _, rfl⟩ (fun _ _ _ _ => trivial) ?_ ?_⟩
    · rintro t x σ G0 hx ⟨g0, v6, v7, v8, rfl⟩
      obtain ⟨ht, rfl⟩ := rngV_at hx
      have ht : t < 4 := ht
      obtain ⟨p, as, w, i1, i2, i3, i4, i5, dw⟩ := four t ht
      refine ⟨by decide, by decide, for_w (wk_rng 0 _) (fun j σ H' => Same H12 H' ∧ ∃ v7 v8 : Option V, σ = [some (.ref a), some (.int (0 + (i : Nat))), some (.ref b), some u, some v, some (.ref L), some (.int (0 + (t : Nat))), v7, v8, v9, v10, v11, v12, v13]) ⟨g0, _, _, rfl⟩ (fun _ _ _ _ => trivial) ?_ ?_⟩
      · rintro j x σ G1 hx ⟨g1, v7, v8, rfl⟩
        obtain ⟨hj, rfl⟩ := rngV_at hx
        have hj : j < 26 := hj
        obtain ⟨e, he⟩ : ∃ e, as[j]? = some e := ⟨as[j]'(by omega), List.getElem?_eq_getElem (by omega)⟩
        have hE := i3.at he
        rw [Nat.zero_add] at hE
        refine ⟨_, V.ref p, .inl (SqL.of (g1 _ _ n12.here)), (by rw [Int.zero_add]; exact atI_nat i1), ?_⟩
        refine ⟨_, V.ref e, .inl (SqL.of (g1 _ _ i2)), (by rw [Int.zero_add]; exact atI_nat (by rw [List.getElem?_map, he]; rfl)), ?_⟩
        refine ⟨e, j, _, rfl, (by rw [Int.zero_add]), hE.same g1, fun G2 s2' => ?_⟩
        have g2 := g1.trans s2'
        refine ⟨e, j, w, rfl, hj, hE.same g2, ?_⟩
        obtain ⟨d, z, sw, _⟩ := dw
        refine ⟨true, d, z.same g2, fun _ => rfl, sw.sh, Nat.le_trans sw.dp (by decide), sz (Nat.le_trans sw.ln (by decide)), ?_⟩
        refine ⟨by show 2 ≤ sizeLine; decide, fun p5 G3 n3 => ?_⟩
        have g3 := g2.trans n3.same
        refine ⟨(show (0 : Int) < 2 by decide), ?_⟩
        refine ⟨_, w, .inl (SqL.of n3.here), (by rw [Int.zero_add]; exact atI_nat (j := t % 2) i5), ?_⟩
        refine ⟨true, d, z.same g3, fun _ => rfl, sw.sh, Nat.le_trans sw.dp (by decide), sz (Nat.le_trans sw.ln (by decide)), ?_⟩
        refine iteN (nself _) ?_
        exact ⟨g3, _, _, rfl⟩
      · rintro σ G1 ⟨g1, v7, v8, rfl⟩
        exact ⟨g1, _, _, _, rfl⟩
    · rintro σ G0 ⟨g0, v6, v7, v8, rfl⟩
      refine ⟨du.same g0, dv.same g0, fun G1 s1' => ?_⟩
      have g1 := g0.trans s1'
      refine ⟨dv.same g1, du.same g1, fun G2 s2' => ?_⟩
      have g2 := g1.trans s2'
      refine ⟨by decide, by decide, fun D hD => lc_w (wk_rng 0 _) (by show 4 ≤ 1000000; decide) (fun i acc H' => Same G2 H' ∧ acc = []) (fun H' n' => ⟨n'.same, rfl⟩) (fun _ _ _ _ => trivial) (fun i acc H' z => by rw [z.2]; exact Nat.zero_le _) ?_ ?_⟩
      · rintro t x acc G3 hx hDa ⟨g3, rfl⟩
        obtain ⟨ht, rfl⟩ := rngV_at hx
        have ht : t < 4 := ht
        refine ⟨rfl, ?_⟩
        refine ⟨t, (by rw [Int.zero_add]), ht, du.same (g2.trans g3), dv.same (g2.trans g3), fun G4 s4' => ?_⟩
        exact ⟨s4' _ _ hDa, g3.trans s4', rfl⟩
      · rintro acc G3 _ hDa ⟨g3, rfl⟩
        refine ⟨by show 0 ≤ sizeLine; decide, fun p5 G4 n4 => ?_⟩
        refine ⟨.list [], .list [], .lst (SqL.of (n4.keep hDa)) .nil, .lst (SqL.of n4.here) .nil, rfl, rfl, ?_⟩
        exact ⟨s0.trans ((((sb12.trans g2).trans g3).trans n4.same)), _, _, _, _, _, _, _, _, _, _, _, _, _, rfl⟩
  · rintro σ H3 ⟨s3, v1, v2, v3, v4, v5, v6, v7, v8, v9, v10, v11, v12, v13, rfl⟩
    refine ⟨by show 1 ≤ sizeLine; decide, fun g H4 n4 => ?_⟩
    refine fun p1 as1 H5 s5 f5 c5 l5 m5 => ?_
    refine fun p2 as2 H6 s6 f6 c6 l6 m6 => ?_
    refine .inl ⟨_, _, s6 _ _ c5, c6, by rw [List.length_map, List.length_map, m5, m6]; decide, fun p3 H7 n7 => ?_⟩
    have l5 := (l5.same s6).same n7.same
    have l6 := l6.same n7.same
    have h3 : H7 p3 = some (.lst ((as1 ++ as2).map V.ref)) := by rw [List.map_append]; exact n7.here
    have hg : H7 g = some (.lst [.int 1]) := n7.keep (s6 _ _ (s5 _ _ n4.here))
    have each : ∀ (j : Nat) (x : V), ((as1 ++ as2).map V.ref)[j]? = some x → ∃ e i, x = .ref e ∧ i < 26 ∧ EOf K H7 e i [(fldN i, .ref g)] := by
      intro j x hx
      rw [List.getElem?_map] at hx
      cases he : (as1 ++ as2)[j]? with
      | none => rw [he] at hx; cases hx
      | some e =>
        rw [he] at hx
        obtain rfl := Option.some.inj hx
        rcases Nat.lt_or_ge j as1.length with hj | hj
        · rw [List.getElem?_append_left hj] at he
          have := l5.at he
          rw [Nat.zero_add] at this
          exact ⟨e, j, rfl, by omega, this⟩
        · rw [List.getElem?_append_right hj] at he
          have := l6.at he
          rw [Nat.zero_add] at this
          have lt := (List.getElem?_eq_some_iff.mp he).1
          exact ⟨e, j - as1.length, rfl, by omega, this⟩
    have ln : ((as1 ++ as2).map V.ref).length = 52 := by rw [List.length_map, List.length_append, m5, m6]
    refine ⟨⟨_, SqL.of h3⟩, fun D hD => lc_w (wk_list ((as1 ++ as2).map V.ref)) (by rw [ln]; decide) (fun i acc H' => Same H7 H' ∧ acc = List.replicate i (.ref g)) (fun H' n' => ⟨n'.same, rfl⟩) (fun i acc H' z => SqL.of (z.1 _ _ h3))
      (fun i acc H' z => by rw [z.2, List.length_replicate]; omega) ?_ ?_⟩
    · rintro j x acc G1 hx hDa ⟨g1, rfl⟩
      obtain ⟨e, i, rfl, hi, hE⟩ := each j x hx
      refine ⟨rfl, ?_⟩
      refine ⟨e, i, .ref g, rfl, hi, hE.same g1, ?_⟩
      refine ⟨hDa, fun H5 w5 => ⟨g1.wr hD w5, ?_⟩⟩
      rw [List.replicate_succ']
    · rintro acc H8 _ hDa ⟨s8, rfl⟩
      rw [ln] at hDa
      refine fun b1 H9 s9 f9 e9 => ?_
      refine ⟨b1, e_Held, _, .ref g, rfl, e9, T.s_Held.xf, T.n_Held, rfl, ?_⟩
      refine fun b2 H10 s10 f10 e10 => ?_
      refine ⟨b2, e_Held, _, .ref g, rfl, e10, T.s_Held.xf, T.m_Held, rfl, ?_⟩
      refine ⟨by show 2 ≤ sizeLine; decide, fun p4 H11 n11 => ?_⟩
      refine .inl ⟨_, _, n11.keep (s10 _ _ (s9 _ _ hDa)), n11.here, by rw [List.length_replicate]; show 52 + 2 ≤ sizeLine; decide, fun p5 H12 n12 => ?_⟩
      have s812 : Same H8 H12 := (((s9.trans s10).trans n11.same).trans n12.same)
      have hg : H12 g = some (.lst [.int 1]) := s812 _ _ (s8 _ _ hg)
      have hp5 : H12 p5 = some (.lst (List.replicate 54 (.ref g))) := n12.here
      have ne : p5 ≠ g := by
        intro z
        rw [z, hg] at hp5
        have := HO.lst.inj (Option.some.inj hp5)
        cases this
      refine ⟨⟨_, SqL.of hg⟩, _, hg, by decide, fun H13 w13 => ?_⟩
      have hp5 := w13.keep ne hp5
      refine ⟨⟨_, SqL.of hp5⟩, fun D hD => lc_w (wk_list (List.replicate 54 (V.ref g))) (by rw [List.length_replicate]; decide) (fun i acc H' => Same H13 H' ∧ acc = []) (fun H' n' => ⟨n'.same, rfl⟩) (fun i acc H' z => SqL.of (z.1 _ _ hp5))
        (fun i acc H' z => by rw [z.2]; exact Nat.zero_le _) ?_ ?_⟩
      · rintro j x acc G1 hx hDa ⟨g1, rfl⟩
        obtain rfl : x = .ref g := List.eq_of_mem_replicate (List.mem_of_getElem? hx)
        refine ⟨rfl, ?_⟩
        refine ⟨by show 2 ≤ sizeLine; decide, fun p6 G2 n2 => ?_⟩
        have sh : SeqAt.shaped (.list [.int 1, .str "more"]) = true := by decide +kernel
        refine ⟨.list [.int 1, .str "more"], .list [.int 1, .str "more"], .lst (SqL.of (n2.keep (g1 _ _ w13.here))) (.cons (.int _) (.cons (.str _) .nil)), .lst (SqL.of n2.here) (.cons (.int _) (.cons (.str _) .nil)), sh, sh, ?_⟩
        rw [eqv_self sh]
        exact ⟨n2.keep hDa, g1.trans n2.same, rfl⟩
      · rintro acc G1 _ hDa ⟨g1, rfl⟩
        refine ⟨by show 0 ≤ sizeLine; decide, fun p6 G2 n2 => ?_⟩
        refine ⟨.list [], .list [], .lst (SqL.of (n2.keep hDa)) .nil, .lst (SqL.of n2.here) .nil, rfl, rfl, ?_⟩
        exact k G2


end
theorem law_asks {K : PySem.W.Frag} {H : Hp} {E : XK} (a : Addr) (ns : List Int) (hl : ns.length ≤ 63) (hS : SqL K H a (ns.map V.int)) : sp_law K [.ref a] H (fun v _ => v = .bl true) E := ⟨a, ns, rfl, hS, hl, fun _ => rfl⟩
theorem all_mk {l : PySem.W.OpenLaw} {w : World} {K : PySem.W.Frag} {h : Heap} {mg : Str → Option Value} {fa : Addr} (X : K.In h) (G : h.Ns mainGlobals mg) (hfa : mg "law" = some (.ref fa))
    {f36 : Addr} {od36 an36 : Option Addr} {sl36 : Array (Option Value)} {oc36 kV36 dc36 pm36 cd36 ct36 : Value}
    (a36 : PySem.W.nsIn K mainGlobals "_law_sorts" = some (some (.ref f36))) (l36 : K.lookup f36 = some ⟨oc36, od36, .func (PySem.W.fnOf "_law_sorts" "_law_sorts" (defArgs s__law_sorts) (defBody s__law_sorts) (defScope s__law_sorts) .none kV36 dc36 pm36 an36 cd36 ct36), sl36⟩) (c36 : PySem.W.codeIn K cd36 "_law_sorts" = true) (k36 : PySem.W.keepIn K (.ref f36) = true)
    {f37 : Addr} {od37 an37 : Option Addr} {sl37 : Array (Option Value)} {oc37 kV37 dc37 pm37 cd37 ct37 : Value}
    (a37 : PySem.W.nsIn K mainGlobals "_law_is" = some (some (.ref f37))) (l37 : K.lookup f37 = some ⟨oc37, od37, .func (PySem.W.fnOf "_law_is" "_law_is" (defArgs s__law_is) (defBody s__law_is) (defScope s__law_is) .none kV37 dc37 pm37 an37 cd37 ct37), sl37⟩) (c37 : PySem.W.codeIn K cd37 "_law_is" = true) (k37 : PySem.W.keepIn K (.ref f37) = true)
    {f32 : Addr} {od32 an32 : Option Addr} {sl32 : Array (Option Value)} {oc32 kV32 dc32 pm32 cd32 ct32 : Value}
    (a32 : PySem.W.nsIn K mainGlobals "_law_box" = some (some (.ref f32))) (l32 : K.lookup f32 = some ⟨oc32, od32, .func (PySem.W.fnOf "_law_box" "_law_box" (defArgs s__law_box) (defBody s__law_box) (defScope s__law_box) .none kV32 dc32 pm32 an32 cd32 ct32), sl32⟩) (c32 : PySem.W.codeIn K cd32 "_law_box" = true) (k32 : PySem.W.keepIn K (.ref f32) = true)
    {f31 : Addr} {od31 an31 : Option Addr} {sl31 : Array (Option Value)} {oc31 kV31 dc31 pm31 cd31 ct31 : Value}
    (a31 : PySem.W.nsIn K mainGlobals "_law_cell" = some (some (.ref f31))) (l31 : K.lookup f31 = some ⟨oc31, od31, .func (PySem.W.fnOf "_law_cell" "_law_cell" (defArgs s__law_cell) (defBody s__law_cell) (defScope s__law_cell) .none kV31 dc31 pm31 an31 cd31 ct31), sl31⟩) (c31 : PySem.W.codeIn K cd31 "_law_cell" = true) (k31 : PySem.W.keepIn K (.ref f31) = true)
    {f33 : Addr} {od33 an33 : Option Addr} {sl33 : Array (Option Value)} {oc33 kV33 dc33 pm33 cd33 ct33 : Value}
    (a33 : PySem.W.nsIn K mainGlobals "_law_take" = some (some (.ref f33))) (l33 : K.lookup f33 = some ⟨oc33, od33, .func (PySem.W.fnOf "_law_take" "_law_take" (defArgs s__law_take) (defBody s__law_take) (defScope s__law_take) .none kV33 dc33 pm33 an33 cd33 ct33), sl33⟩) (c33 : PySem.W.codeIn K cd33 "_law_take" = true) (k33 : PySem.W.keepIn K (.ref f33) = true)
    {f39 : Addr} {od39 an39 : Option Addr} {sl39 : Array (Option Value)} {oc39 kV39 dc39 pm39 cd39 ct39 : Value}
    (a39 : PySem.W.nsIn K mainGlobals "_law_thing" = some (some (.ref f39))) (l39 : K.lookup f39 = some ⟨oc39, od39, .func (PySem.W.fnOf "_law_thing" "_law_thing" (defArgs s__law_thing) (defBody s__law_thing) (defScope s__law_thing) .none kV39 dc39 pm39 an39 cd39 ct39), sl39⟩) (c39 : PySem.W.codeIn K cd39 "_law_thing" = true) (k39 : PySem.W.keepIn K (.ref f39) = true)
    {f34 : Addr} {od34 an34 : Option Addr} {sl34 : Array (Option Value)} {oc34 kV34 dc34 pm34 cd34 ct34 : Value}
    (a34 : PySem.W.nsIn K mainGlobals "_law_by_place" = some (some (.ref f34))) (l34 : K.lookup f34 = some ⟨oc34, od34, .func (PySem.W.fnOf "_law_by_place" "_law_by_place" (defArgs s__law_by_place) (defBody s__law_by_place) (defScope s__law_by_place) .none kV34 dc34 pm34 an34 cd34 ct34), sl34⟩) (c34 : PySem.W.codeIn K cd34 "_law_by_place" = true) (k34 : PySem.W.keepIn K (.ref f34) = true)
    {f35 : Addr} {od35 an35 : Option Addr} {sl35 : Array (Option Value)} {oc35 kV35 dc35 pm35 cd35 ct35 : Value}
    (a35 : PySem.W.nsIn K mainGlobals "_law_by_name" = some (some (.ref f35))) (l35 : K.lookup f35 = some ⟨oc35, od35, .func (PySem.W.fnOf "_law_by_name" "_law_by_name" (defArgs s__law_by_name) (defBody s__law_by_name) (defScope s__law_by_name) .none kV35 dc35 pm35 an35 cd35 ct35), sl35⟩) (c35 : PySem.W.codeIn K cd35 "_law_by_name" = true) (k35 : PySem.W.keepIn K (.ref f35) = true)
    {f38 : Addr} {od38 an38 : Option Addr} {sl38 : Array (Option Value)} {oc38 kV38 dc38 pm38 cd38 ct38 : Value}
    (a38 : PySem.W.nsIn K mainGlobals "_law_kept" = some (some (.ref f38))) (l38 : K.lookup f38 = some ⟨oc38, od38, .func (PySem.W.fnOf "_law_kept" "_law_kept" (defArgs s__law_kept) (defBody s__law_kept) (defScope s__law_kept) .none kV38 dc38 pm38 an38 cd38 ct38), sl38⟩) (c38 : PySem.W.codeIn K cd38 "_law_kept" = true) (k38 : PySem.W.keepIn K (.ref f38) = true)
    {f41 : Addr} {od41 an41 : Option Addr} {sl41 : Array (Option Value)} {oc41 kV41 dc41 pm41 cd41 ct41 : Value}
    (a41 : PySem.W.nsIn K mainGlobals "_law_pairs" = some (some (.ref f41))) (l41 : K.lookup f41 = some ⟨oc41, od41, .func (PySem.W.fnOf "_law_pairs" "_law_pairs" (defArgs s__law_pairs) (defBody s__law_pairs) (defScope s__law_pairs) .none kV41 dc41 pm41 an41 cd41 ct41), sl41⟩) (c41 : PySem.W.codeIn K cd41 "_law_pairs" = true) (k41 : PySem.W.keepIn K (.ref f41) = true)
    {f40 : Addr} {od40 an40 : Option Addr} {sl40 : Array (Option Value)} {oc40 kV40 dc40 pm40 cd40 ct40 : Value}
    (a40 : PySem.W.nsIn K mainGlobals "_law_caught" = some (some (.ref f40))) (l40 : K.lookup f40 = some ⟨oc40, od40, .func (PySem.W.fnOf "_law_caught" "_law_caught" (defArgs s__law_caught) (defBody s__law_caught) (defScope s__law_caught) .none kV40 dc40 pm40 an40 cd40 ct40), sl40⟩) (c40 : PySem.W.codeIn K cd40 "_law_caught" = true) (k40 : PySem.W.keepIn K (.ref f40) = true)
    {f42 : Addr} {od42 an42 : Option Addr} {sl42 : Array (Option Value)} {oc42 kV42 dc42 pm42 cd42 ct42 : Value}
    (a42 : PySem.W.nsIn K mainGlobals "law" = some (some (.ref f42))) (l42 : K.lookup f42 = some ⟨oc42, od42, .func (PySem.W.fnOf "law" "law" (defArgs s_law) (defBody s_law) (defScope s_law) .none kV42 dc42 pm42 an42 cd42 ct42), sl42⟩) (c42 : PySem.W.codeIn K cd42 "law" = true) (k42 : PySem.W.keepIn K (.ref f42) = true)
    (zhn : PySem.W.specialIn K (.builtin "object.__class__") "__get__" = some (some (.builtin "getset_descriptor.__get__"))) (zht : PySem.W.takesIn K (.builtin "object.__class__") = some true)
    {e_InvalidAct : Addr} (ga_InvalidAct : PySem.W.nsIn K mainGlobals "InvalidAct" = some (some (.ref e_InvalidAct)))
    {e_InvalidActs : Addr} (ga_InvalidActs : PySem.W.nsIn K mainGlobals "InvalidActs" = some (some (.ref e_InvalidActs)))
    {e_InvalidBrokers : Addr} (ga_InvalidBrokers : PySem.W.nsIn K mainGlobals "InvalidBrokers" = some (some (.ref e_InvalidBrokers)))
    {e_InvalidCommand : Addr} (ga_InvalidCommand : PySem.W.nsIn K mainGlobals "InvalidCommand" = some (some (.ref e_InvalidCommand)))
    {e_InvalidCommands : Addr} (ga_InvalidCommands : PySem.W.nsIn K mainGlobals "InvalidCommands" = some (some (.ref e_InvalidCommands)))
    {e_InvalidCount : Addr} (ga_InvalidCount : PySem.W.nsIn K mainGlobals "InvalidCount" = some (some (.ref e_InvalidCount)))
    {e_InvalidDisk : Addr} (ga_InvalidDisk : PySem.W.nsIn K mainGlobals "InvalidDisk" = some (some (.ref e_InvalidDisk)))
    {e_InvalidItems : Addr} (ga_InvalidItems : PySem.W.nsIn K mainGlobals "InvalidItems" = some (some (.ref e_InvalidItems)))
    {e_InvalidKeeps : Addr} (ga_InvalidKeeps : PySem.W.nsIn K mainGlobals "InvalidKeeps" = some (some (.ref e_InvalidKeeps)))
    {e_InvalidLetter : Addr} (ga_InvalidLetter : PySem.W.nsIn K mainGlobals "InvalidLetter" = some (some (.ref e_InvalidLetter)))
    {e_InvalidLine : Addr} (ga_InvalidLine : PySem.W.nsIn K mainGlobals "InvalidLine" = some (some (.ref e_InvalidLine)))
    {e_InvalidName : Addr} (ga_InvalidName : PySem.W.nsIn K mainGlobals "InvalidName" = some (some (.ref e_InvalidName)))
    {e_InvalidNumber : Addr} (ga_InvalidNumber : PySem.W.nsIn K mainGlobals "InvalidNumber" = some (some (.ref e_InvalidNumber)))
    {e_InvalidPicture : Addr} (ga_InvalidPicture : PySem.W.nsIn K mainGlobals "InvalidPicture" = some (some (.ref e_InvalidPicture)))
    {e_InvalidState : Addr} (ga_InvalidState : PySem.W.nsIn K mainGlobals "InvalidState" = some (some (.ref e_InvalidState)))
    {e_InvalidTerm : Addr} (ga_InvalidTerm : PySem.W.nsIn K mainGlobals "InvalidTerm" = some (some (.ref e_InvalidTerm)))
    {e_InvalidText : Addr} (ga_InvalidText : PySem.W.nsIn K mainGlobals "InvalidText" = some (some (.ref e_InvalidText)))
    {e_InvalidValue : Addr} (ga_InvalidValue : PySem.W.nsIn K mainGlobals "InvalidValue" = some (some (.ref e_InvalidValue)))
    {e_InvalidWorld : Addr} (ga_InvalidWorld : PySem.W.nsIn K mainGlobals "InvalidWorld" = some (some (.ref e_InvalidWorld)))
    {e_TooLong : Addr} (ga_TooLong : PySem.W.nsIn K mainGlobals "TooLong" = some (some (.ref e_TooLong)))
    {e_NoFile : Addr} (ga_NoFile : PySem.W.nsIn K mainGlobals "NoFile" = some (some (.ref e_NoFile)))
    {e_NoRow : Addr} (ga_NoRow : PySem.W.nsIn K mainGlobals "NoRow" = some (some (.ref e_NoRow)))
    {e_NoTopic : Addr} (ga_NoTopic : PySem.W.nsIn K mainGlobals "NoTopic" = some (some (.ref e_NoTopic)))
    {e_NoGroup : Addr} (ga_NoGroup : PySem.W.nsIn K mainGlobals "NoGroup" = some (some (.ref e_NoGroup)))
    {e_NotLeading : Addr} (ga_NotLeading : PySem.W.nsIn K mainGlobals "NotLeading" = some (some (.ref e_NotLeading)))
    {e_Fallen : Addr} (ga_Fallen : PySem.W.nsIn K mainGlobals "Fallen" = some (some (.ref e_Fallen)))
    {e_Held : Addr} (ga_Held : PySem.W.nsIn K mainGlobals "Held" = some (some (.ref e_Held)))
    {e_PowerCut : Addr} (ga_PowerCut : PySem.W.nsIn K mainGlobals "PowerCut" = some (some (.ref e_PowerCut)))
    {e_QueueError : Addr} (ga_QueueError : PySem.W.nsIn K mainGlobals "QueueError" = some (some (.ref e_QueueError)))
    (xd_QueueError : PySem.W.hasDictIn K e_QueueError = true) (ty_QueueError : PySem.W.typeIn K (.ref e_QueueError) = some (.type "type")) (ex_QueueError : PySem.W.subIn K (.ref e_QueueError) (.type "BaseException") = some true)
    (qa_QueueError : PySem.W.specialIn K (.ref e_QueueError) "__getattribute__" = some (some (.builtin "type.__getattribute__"))) (qb_QueueError : PySem.W.readsIn K e_QueueError (.type "type") = true) (qc_QueueError : PySem.W.findCls K (.ref e_QueueError) (.type "type") "__init__" = some (.val (.builtin "Exception.__init__")))
    {nm_InvalidAct q_InvalidAct : Str} {N_InvalidAct : Addr} {bs_InvalidAct sub_InvalidAct : List Value} {sn_InvalidAct : List Str} {ab_InvalidAct : Bool} {col_InvalidAct : Option Bool} {dd_InvalidAct : Option Addr} {k0_InvalidAct k1_InvalidAct k2_InvalidAct k3_InvalidAct k5_InvalidAct : Option Value} (cl_InvalidAct : K.lookup e_InvalidAct = some (excClassObj nm_InvalidAct q_InvalidAct e_InvalidAct N_InvalidAct bs_InvalidAct (.ref e_QueueError :: tailE) true sn_InvalidAct sub_InvalidAct ab_InvalidAct col_InvalidAct dd_InvalidAct k0_InvalidAct k1_InvalidAct k2_InvalidAct k3_InvalidAct k5_InvalidAct "Exception.__new__"))
    (sa_InvalidAct : PySem.W.findIn K (.ref e_InvalidAct) "__setattr__" = some (some (.builtin "object.__setattr__"))) (ex_InvalidAct : PySem.W.subIn K (.ref e_InvalidAct) (.type "BaseException") = some true) (ty_InvalidAct : PySem.W.typeIn K (.ref e_InvalidAct) = some (.type "type")) (kc_InvalidAct : PySem.W.keepIn K (.ref e_InvalidAct) = true)
    (xa_InvalidAct : PySem.W.findIn K (.ref e_InvalidAct) "__getattribute__" = some (some (.builtin "BaseException.__getattribute__"))) (xb_InvalidAct : PySem.W.findIn K (.ref e_InvalidAct) "__getattr__" = some none) (xd_InvalidAct : PySem.W.hasDictIn K e_InvalidAct = true) (xe_InvalidAct : PySem.W.findIn K (.ref e_InvalidAct) "__class__" = some (some (.builtin "object.__class__"))) (xm_InvalidAct : PySem.W.mroIn K e_InvalidAct (.type "object") = some true)
    (no_InvalidAct : PySem.W.findIn K (.ref e_InvalidAct) "given" = some none)
    {fI_InvalidAct : Addr} {od_InvalidAct an_InvalidAct : Option Addr} {sl_InvalidAct : Array (Option Value)} {oc_InvalidAct kV_InvalidAct dc_InvalidAct pm_InvalidAct cd_InvalidAct ct_InvalidAct : Value} (ia_InvalidAct : PySem.W.findIn K (.ref e_InvalidAct) "__init__" = some (some (.ref fI_InvalidAct))) (it_InvalidAct : PySem.W.typeIn K (.ref fI_InvalidAct) = some (.type "function"))
    (il_InvalidAct : K.lookup fI_InvalidAct = some ⟨oc_InvalidAct, od_InvalidAct, .func (PySem.W.fnOf "__init__" "InvalidAct.__init__" (defArgs si_InvalidAct) (defBody si_InvalidAct) (defScope si_InvalidAct) .none kV_InvalidAct dc_InvalidAct pm_InvalidAct an_InvalidAct cd_InvalidAct ct_InvalidAct), sl_InvalidAct⟩) (ic_InvalidAct : PySem.W.codeIn K cd_InvalidAct "InvalidAct.__init__" = true) (ik_InvalidAct : PySem.W.keepIn K (.ref fI_InvalidAct) = true)
    {nm_InvalidActs q_InvalidActs : Str} {N_InvalidActs : Addr} {bs_InvalidActs sub_InvalidActs : List Value} {sn_InvalidActs : List Str} {ab_InvalidActs : Bool} {col_InvalidActs : Option Bool} {dd_InvalidActs : Option Addr} {k0_InvalidActs k1_InvalidActs k2_InvalidActs k3_InvalidActs k5_InvalidActs : Option Value} (cl_InvalidActs : K.lookup e_InvalidActs = some (excClassObj nm_InvalidActs q_InvalidActs e_InvalidActs N_InvalidActs bs_InvalidActs (.ref e_QueueError :: tailE) true sn_InvalidActs sub_InvalidActs ab_InvalidActs col_InvalidActs dd_InvalidActs k0_InvalidActs k1_InvalidActs k2_InvalidActs k3_InvalidActs k5_InvalidActs "Exception.__new__"))
    (sa_InvalidActs : PySem.W.findIn K (.ref e_InvalidActs) "__setattr__" = some (some (.builtin "object.__setattr__"))) (ex_InvalidActs : PySem.W.subIn K (.ref e_InvalidActs) (.type "BaseException") = some true) (ty_InvalidActs : PySem.W.typeIn K (.ref e_InvalidActs) = some (.type "type")) (kc_InvalidActs : PySem.W.keepIn K (.ref e_InvalidActs) = true)
    (xa_InvalidActs : PySem.W.findIn K (.ref e_InvalidActs) "__getattribute__" = some (some (.builtin "BaseException.__getattribute__"))) (xb_InvalidActs : PySem.W.findIn K (.ref e_InvalidActs) "__getattr__" = some none) (xd_InvalidActs : PySem.W.hasDictIn K e_InvalidActs = true) (xe_InvalidActs : PySem.W.findIn K (.ref e_InvalidActs) "__class__" = some (some (.builtin "object.__class__"))) (xm_InvalidActs : PySem.W.mroIn K e_InvalidActs (.type "object") = some true)
    (no_InvalidActs : PySem.W.findIn K (.ref e_InvalidActs) "given" = some none)
    {fI_InvalidActs : Addr} {od_InvalidActs an_InvalidActs : Option Addr} {sl_InvalidActs : Array (Option Value)} {oc_InvalidActs kV_InvalidActs dc_InvalidActs pm_InvalidActs cd_InvalidActs ct_InvalidActs : Value} (ia_InvalidActs : PySem.W.findIn K (.ref e_InvalidActs) "__init__" = some (some (.ref fI_InvalidActs))) (it_InvalidActs : PySem.W.typeIn K (.ref fI_InvalidActs) = some (.type "function"))
    (il_InvalidActs : K.lookup fI_InvalidActs = some ⟨oc_InvalidActs, od_InvalidActs, .func (PySem.W.fnOf "__init__" "InvalidActs.__init__" (defArgs si_InvalidActs) (defBody si_InvalidActs) (defScope si_InvalidActs) .none kV_InvalidActs dc_InvalidActs pm_InvalidActs an_InvalidActs cd_InvalidActs ct_InvalidActs), sl_InvalidActs⟩) (ic_InvalidActs : PySem.W.codeIn K cd_InvalidActs "InvalidActs.__init__" = true) (ik_InvalidActs : PySem.W.keepIn K (.ref fI_InvalidActs) = true)
    {nm_InvalidBrokers q_InvalidBrokers : Str} {N_InvalidBrokers : Addr} {bs_InvalidBrokers sub_InvalidBrokers : List Value} {sn_InvalidBrokers : List Str} {ab_InvalidBrokers : Bool} {col_InvalidBrokers : Option Bool} {dd_InvalidBrokers : Option Addr} {k0_InvalidBrokers k1_InvalidBrokers k2_InvalidBrokers k3_InvalidBrokers k5_InvalidBrokers : Option Value} (cl_InvalidBrokers : K.lookup e_InvalidBrokers = some (excClassObj nm_InvalidBrokers q_InvalidBrokers e_InvalidBrokers N_InvalidBrokers bs_InvalidBrokers (.ref e_QueueError :: tailE) true sn_InvalidBrokers sub_InvalidBrokers ab_InvalidBrokers col_InvalidBrokers dd_InvalidBrokers k0_InvalidBrokers k1_InvalidBrokers k2_InvalidBrokers k3_InvalidBrokers k5_InvalidBrokers "Exception.__new__"))
    (sa_InvalidBrokers : PySem.W.findIn K (.ref e_InvalidBrokers) "__setattr__" = some (some (.builtin "object.__setattr__"))) (ex_InvalidBrokers : PySem.W.subIn K (.ref e_InvalidBrokers) (.type "BaseException") = some true) (ty_InvalidBrokers : PySem.W.typeIn K (.ref e_InvalidBrokers) = some (.type "type")) (kc_InvalidBrokers : PySem.W.keepIn K (.ref e_InvalidBrokers) = true)
    (xa_InvalidBrokers : PySem.W.findIn K (.ref e_InvalidBrokers) "__getattribute__" = some (some (.builtin "BaseException.__getattribute__"))) (xb_InvalidBrokers : PySem.W.findIn K (.ref e_InvalidBrokers) "__getattr__" = some none) (xd_InvalidBrokers : PySem.W.hasDictIn K e_InvalidBrokers = true) (xe_InvalidBrokers : PySem.W.findIn K (.ref e_InvalidBrokers) "__class__" = some (some (.builtin "object.__class__"))) (xm_InvalidBrokers : PySem.W.mroIn K e_InvalidBrokers (.type "object") = some true)
    (no_InvalidBrokers : PySem.W.findIn K (.ref e_InvalidBrokers) "given" = some none)
    {fI_InvalidBrokers : Addr} {od_InvalidBrokers an_InvalidBrokers : Option Addr} {sl_InvalidBrokers : Array (Option Value)} {oc_InvalidBrokers kV_InvalidBrokers dc_InvalidBrokers pm_InvalidBrokers cd_InvalidBrokers ct_InvalidBrokers : Value} (ia_InvalidBrokers : PySem.W.findIn K (.ref e_InvalidBrokers) "__init__" = some (some (.ref fI_InvalidBrokers))) (it_InvalidBrokers : PySem.W.typeIn K (.ref fI_InvalidBrokers) = some (.type "function"))
    (il_InvalidBrokers : K.lookup fI_InvalidBrokers = some ⟨oc_InvalidBrokers, od_InvalidBrokers, .func (PySem.W.fnOf "__init__" "InvalidBrokers.__init__" (defArgs si_InvalidBrokers) (defBody si_InvalidBrokers) (defScope si_InvalidBrokers) .none kV_InvalidBrokers dc_InvalidBrokers pm_InvalidBrokers an_InvalidBrokers cd_InvalidBrokers ct_InvalidBrokers), sl_InvalidBrokers⟩) (ic_InvalidBrokers : PySem.W.codeIn K cd_InvalidBrokers "InvalidBrokers.__init__" = true) (ik_InvalidBrokers : PySem.W.keepIn K (.ref fI_InvalidBrokers) = true)
    {nm_InvalidCommand q_InvalidCommand : Str} {N_InvalidCommand : Addr} {bs_InvalidCommand sub_InvalidCommand : List Value} {sn_InvalidCommand : List Str} {ab_InvalidCommand : Bool} {col_InvalidCommand : Option Bool} {dd_InvalidCommand : Option Addr} {k0_InvalidCommand k1_InvalidCommand k2_InvalidCommand k3_InvalidCommand k5_InvalidCommand : Option Value} (cl_InvalidCommand : K.lookup e_InvalidCommand = some (excClassObj nm_InvalidCommand q_InvalidCommand e_InvalidCommand N_InvalidCommand bs_InvalidCommand (.ref e_QueueError :: tailE) true sn_InvalidCommand sub_InvalidCommand ab_InvalidCommand col_InvalidCommand dd_InvalidCommand k0_InvalidCommand k1_InvalidCommand k2_InvalidCommand k3_InvalidCommand k5_InvalidCommand "Exception.__new__"))
    (sa_InvalidCommand : PySem.W.findIn K (.ref e_InvalidCommand) "__setattr__" = some (some (.builtin "object.__setattr__"))) (ex_InvalidCommand : PySem.W.subIn K (.ref e_InvalidCommand) (.type "BaseException") = some true) (ty_InvalidCommand : PySem.W.typeIn K (.ref e_InvalidCommand) = some (.type "type")) (kc_InvalidCommand : PySem.W.keepIn K (.ref e_InvalidCommand) = true)
    (xa_InvalidCommand : PySem.W.findIn K (.ref e_InvalidCommand) "__getattribute__" = some (some (.builtin "BaseException.__getattribute__"))) (xb_InvalidCommand : PySem.W.findIn K (.ref e_InvalidCommand) "__getattr__" = some none) (xd_InvalidCommand : PySem.W.hasDictIn K e_InvalidCommand = true) (xe_InvalidCommand : PySem.W.findIn K (.ref e_InvalidCommand) "__class__" = some (some (.builtin "object.__class__"))) (xm_InvalidCommand : PySem.W.mroIn K e_InvalidCommand (.type "object") = some true)
    (no_InvalidCommand : PySem.W.findIn K (.ref e_InvalidCommand) "given" = some none)
    {fI_InvalidCommand : Addr} {od_InvalidCommand an_InvalidCommand : Option Addr} {sl_InvalidCommand : Array (Option Value)} {oc_InvalidCommand kV_InvalidCommand dc_InvalidCommand pm_InvalidCommand cd_InvalidCommand ct_InvalidCommand : Value} (ia_InvalidCommand : PySem.W.findIn K (.ref e_InvalidCommand) "__init__" = some (some (.ref fI_InvalidCommand))) (it_InvalidCommand : PySem.W.typeIn K (.ref fI_InvalidCommand) = some (.type "function"))
    (il_InvalidCommand : K.lookup fI_InvalidCommand = some ⟨oc_InvalidCommand, od_InvalidCommand, .func (PySem.W.fnOf "__init__" "InvalidCommand.__init__" (defArgs si_InvalidCommand) (defBody si_InvalidCommand) (defScope si_InvalidCommand) .none kV_InvalidCommand dc_InvalidCommand pm_InvalidCommand an_InvalidCommand cd_InvalidCommand ct_InvalidCommand), sl_InvalidCommand⟩) (ic_InvalidCommand : PySem.W.codeIn K cd_InvalidCommand "InvalidCommand.__init__" = true) (ik_InvalidCommand : PySem.W.keepIn K (.ref fI_InvalidCommand) = true)
    {nm_InvalidCommands q_InvalidCommands : Str} {N_InvalidCommands : Addr} {bs_InvalidCommands sub_InvalidCommands : List Value} {sn_InvalidCommands : List Str} {ab_InvalidCommands : Bool} {col_InvalidCommands : Option Bool} {dd_InvalidCommands : Option Addr} {k0_InvalidCommands k1_InvalidCommands k2_InvalidCommands k3_InvalidCommands k5_InvalidCommands : Option Value} (cl_InvalidCommands : K.lookup e_InvalidCommands = some (excClassObj nm_InvalidCommands q_InvalidCommands e_InvalidCommands N_InvalidCommands bs_InvalidCommands (.ref e_QueueError :: tailE) true sn_InvalidCommands sub_InvalidCommands ab_InvalidCommands col_InvalidCommands dd_InvalidCommands k0_InvalidCommands k1_InvalidCommands k2_InvalidCommands k3_InvalidCommands k5_InvalidCommands "Exception.__new__"))
    (sa_InvalidCommands : PySem.W.findIn K (.ref e_InvalidCommands) "__setattr__" = some (some (.builtin "object.__setattr__"))) (ex_InvalidCommands : PySem.W.subIn K (.ref e_InvalidCommands) (.type "BaseException") = some true) (ty_InvalidCommands : PySem.W.typeIn K (.ref e_InvalidCommands) = some (.type "type")) (kc_InvalidCommands : PySem.W.keepIn K (.ref e_InvalidCommands) = true)
    (xa_InvalidCommands : PySem.W.findIn K (.ref e_InvalidCommands) "__getattribute__" = some (some (.builtin "BaseException.__getattribute__"))) (xb_InvalidCommands : PySem.W.findIn K (.ref e_InvalidCommands) "__getattr__" = some none) (xd_InvalidCommands : PySem.W.hasDictIn K e_InvalidCommands = true) (xe_InvalidCommands : PySem.W.findIn K (.ref e_InvalidCommands) "__class__" = some (some (.builtin "object.__class__"))) (xm_InvalidCommands : PySem.W.mroIn K e_InvalidCommands (.type "object") = some true)
    (no_InvalidCommands : PySem.W.findIn K (.ref e_InvalidCommands) "given" = some none)
    {fI_InvalidCommands : Addr} {od_InvalidCommands an_InvalidCommands : Option Addr} {sl_InvalidCommands : Array (Option Value)} {oc_InvalidCommands kV_InvalidCommands dc_InvalidCommands pm_InvalidCommands cd_InvalidCommands ct_InvalidCommands : Value} (ia_InvalidCommands : PySem.W.findIn K (.ref e_InvalidCommands) "__init__" = some (some (.ref fI_InvalidCommands))) (it_InvalidCommands : PySem.W.typeIn K (.ref fI_InvalidCommands) = some (.type "function"))
    (il_InvalidCommands : K.lookup fI_InvalidCommands = some ⟨oc_InvalidCommands, od_InvalidCommands, .func (PySem.W.fnOf "__init__" "InvalidCommands.__init__" (defArgs si_InvalidCommands) (defBody si_InvalidCommands) (defScope si_InvalidCommands) .none kV_InvalidCommands dc_InvalidCommands pm_InvalidCommands an_InvalidCommands cd_InvalidCommands ct_InvalidCommands), sl_InvalidCommands⟩) (ic_InvalidCommands : PySem.W.codeIn K cd_InvalidCommands "InvalidCommands.__init__" = true) (ik_InvalidCommands : PySem.W.keepIn K (.ref fI_InvalidCommands) = true)
    {nm_InvalidCount q_InvalidCount : Str} {N_InvalidCount : Addr} {bs_InvalidCount sub_InvalidCount : List Value} {sn_InvalidCount : List Str} {ab_InvalidCount : Bool} {col_InvalidCount : Option Bool} {dd_InvalidCount : Option Addr} {k0_InvalidCount k1_InvalidCount k2_InvalidCount k3_InvalidCount k5_InvalidCount : Option Value} (cl_InvalidCount : K.lookup e_InvalidCount = some (excClassObj nm_InvalidCount q_InvalidCount e_InvalidCount N_InvalidCount bs_InvalidCount (.ref e_QueueError :: tailE) true sn_InvalidCount sub_InvalidCount ab_InvalidCount col_InvalidCount dd_InvalidCount k0_InvalidCount k1_InvalidCount k2_InvalidCount k3_InvalidCount k5_InvalidCount "Exception.__new__"))
    (sa_InvalidCount : PySem.W.findIn K (.ref e_InvalidCount) "__setattr__" = some (some (.builtin "object.__setattr__"))) (ex_InvalidCount : PySem.W.subIn K (.ref e_InvalidCount) (.type "BaseException") = some true) (ty_InvalidCount : PySem.W.typeIn K (.ref e_InvalidCount) = some (.type "type")) (kc_InvalidCount : PySem.W.keepIn K (.ref e_InvalidCount) = true)
    (xa_InvalidCount : PySem.W.findIn K (.ref e_InvalidCount) "__getattribute__" = some (some (.builtin "BaseException.__getattribute__"))) (xb_InvalidCount : PySem.W.findIn K (.ref e_InvalidCount) "__getattr__" = some none) (xd_InvalidCount : PySem.W.hasDictIn K e_InvalidCount = true) (xe_InvalidCount : PySem.W.findIn K (.ref e_InvalidCount) "__class__" = some (some (.builtin "object.__class__"))) (xm_InvalidCount : PySem.W.mroIn K e_InvalidCount (.type "object") = some true)
    (no_InvalidCount : PySem.W.findIn K (.ref e_InvalidCount) "given" = some none)
    {fI_InvalidCount : Addr} {od_InvalidCount an_InvalidCount : Option Addr} {sl_InvalidCount : Array (Option Value)} {oc_InvalidCount kV_InvalidCount dc_InvalidCount pm_InvalidCount cd_InvalidCount ct_InvalidCount : Value} (ia_InvalidCount : PySem.W.findIn K (.ref e_InvalidCount) "__init__" = some (some (.ref fI_InvalidCount))) (it_InvalidCount : PySem.W.typeIn K (.ref fI_InvalidCount) = some (.type "function"))
    (il_InvalidCount : K.lookup fI_InvalidCount = some ⟨oc_InvalidCount, od_InvalidCount, .func (PySem.W.fnOf "__init__" "InvalidCount.__init__" (defArgs si_InvalidCount) (defBody si_InvalidCount) (defScope si_InvalidCount) .none kV_InvalidCount dc_InvalidCount pm_InvalidCount an_InvalidCount cd_InvalidCount ct_InvalidCount), sl_InvalidCount⟩) (ic_InvalidCount : PySem.W.codeIn K cd_InvalidCount "InvalidCount.__init__" = true) (ik_InvalidCount : PySem.W.keepIn K (.ref fI_InvalidCount) = true)
    {nm_InvalidDisk q_InvalidDisk : Str} {N_InvalidDisk : Addr} {bs_InvalidDisk sub_InvalidDisk : List Value} {sn_InvalidDisk : List Str} {ab_InvalidDisk : Bool} {col_InvalidDisk : Option Bool} {dd_InvalidDisk : Option Addr} {k0_InvalidDisk k1_InvalidDisk k2_InvalidDisk k3_InvalidDisk k5_InvalidDisk : Option Value} (cl_InvalidDisk : K.lookup e_InvalidDisk = some (excClassObj nm_InvalidDisk q_InvalidDisk e_InvalidDisk N_InvalidDisk bs_InvalidDisk (.ref e_QueueError :: tailE) true sn_InvalidDisk sub_InvalidDisk ab_InvalidDisk col_InvalidDisk dd_InvalidDisk k0_InvalidDisk k1_InvalidDisk k2_InvalidDisk k3_InvalidDisk k5_InvalidDisk "Exception.__new__"))
    (sa_InvalidDisk : PySem.W.findIn K (.ref e_InvalidDisk) "__setattr__" = some (some (.builtin "object.__setattr__"))) (ex_InvalidDisk : PySem.W.subIn K (.ref e_InvalidDisk) (.type "BaseException") = some true) (ty_InvalidDisk : PySem.W.typeIn K (.ref e_InvalidDisk) = some (.type "type")) (kc_InvalidDisk : PySem.W.keepIn K (.ref e_InvalidDisk) = true)
    (xa_InvalidDisk : PySem.W.findIn K (.ref e_InvalidDisk) "__getattribute__" = some (some (.builtin "BaseException.__getattribute__"))) (xb_InvalidDisk : PySem.W.findIn K (.ref e_InvalidDisk) "__getattr__" = some none) (xd_InvalidDisk : PySem.W.hasDictIn K e_InvalidDisk = true) (xe_InvalidDisk : PySem.W.findIn K (.ref e_InvalidDisk) "__class__" = some (some (.builtin "object.__class__"))) (xm_InvalidDisk : PySem.W.mroIn K e_InvalidDisk (.type "object") = some true)
    (no_InvalidDisk : PySem.W.findIn K (.ref e_InvalidDisk) "given" = some none)
    {fI_InvalidDisk : Addr} {od_InvalidDisk an_InvalidDisk : Option Addr} {sl_InvalidDisk : Array (Option Value)} {oc_InvalidDisk kV_InvalidDisk dc_InvalidDisk pm_InvalidDisk cd_InvalidDisk ct_InvalidDisk : Value} (ia_InvalidDisk : PySem.W.findIn K (.ref e_InvalidDisk) "__init__" = some (some (.ref fI_InvalidDisk))) (it_InvalidDisk : PySem.W.typeIn K (.ref fI_InvalidDisk) = some (.type "function"))
    (il_InvalidDisk : K.lookup fI_InvalidDisk = some ⟨oc_InvalidDisk, od_InvalidDisk, .func (PySem.W.fnOf "__init__" "InvalidDisk.__init__" (defArgs si_InvalidDisk) (defBody si_InvalidDisk) (defScope si_InvalidDisk) .none kV_InvalidDisk dc_InvalidDisk pm_InvalidDisk an_InvalidDisk cd_InvalidDisk ct_InvalidDisk), sl_InvalidDisk⟩) (ic_InvalidDisk : PySem.W.codeIn K cd_InvalidDisk "InvalidDisk.__init__" = true) (ik_InvalidDisk : PySem.W.keepIn K (.ref fI_InvalidDisk) = true)
    {nm_InvalidItems q_InvalidItems : Str} {N_InvalidItems : Addr} {bs_InvalidItems sub_InvalidItems : List Value} {sn_InvalidItems : List Str} {ab_InvalidItems : Bool} {col_InvalidItems : Option Bool} {dd_InvalidItems : Option Addr} {k0_InvalidItems k1_InvalidItems k2_InvalidItems k3_InvalidItems k5_InvalidItems : Option Value} (cl_InvalidItems : K.lookup e_InvalidItems = some (excClassObj nm_InvalidItems q_InvalidItems e_InvalidItems N_InvalidItems bs_InvalidItems (.ref e_QueueError :: tailE) true sn_InvalidItems sub_InvalidItems ab_InvalidItems col_InvalidItems dd_InvalidItems k0_InvalidItems k1_InvalidItems k2_InvalidItems k3_InvalidItems k5_InvalidItems "Exception.__new__"))
    (sa_InvalidItems : PySem.W.findIn K (.ref e_InvalidItems) "__setattr__" = some (some (.builtin "object.__setattr__"))) (ex_InvalidItems : PySem.W.subIn K (.ref e_InvalidItems) (.type "BaseException") = some true) (ty_InvalidItems : PySem.W.typeIn K (.ref e_InvalidItems) = some (.type "type")) (kc_InvalidItems : PySem.W.keepIn K (.ref e_InvalidItems) = true)
    (xa_InvalidItems : PySem.W.findIn K (.ref e_InvalidItems) "__getattribute__" = some (some (.builtin "BaseException.__getattribute__"))) (xb_InvalidItems : PySem.W.findIn K (.ref e_InvalidItems) "__getattr__" = some none) (xd_InvalidItems : PySem.W.hasDictIn K e_InvalidItems = true) (xe_InvalidItems : PySem.W.findIn K (.ref e_InvalidItems) "__class__" = some (some (.builtin "object.__class__"))) (xm_InvalidItems : PySem.W.mroIn K e_InvalidItems (.type "object") = some true)
    (no_InvalidItems : PySem.W.findIn K (.ref e_InvalidItems) "given" = some none)
    {fI_InvalidItems : Addr} {od_InvalidItems an_InvalidItems : Option Addr} {sl_InvalidItems : Array (Option Value)} {oc_InvalidItems kV_InvalidItems dc_InvalidItems pm_InvalidItems cd_InvalidItems ct_InvalidItems : Value} (ia_InvalidItems : PySem.W.findIn K (.ref e_InvalidItems) "__init__" = some (some (.ref fI_InvalidItems))) (it_InvalidItems : PySem.W.typeIn K (.ref fI_InvalidItems) = some (.type "function"))
    (il_InvalidItems : K.lookup fI_InvalidItems = some ⟨oc_InvalidItems, od_InvalidItems, .func (PySem.W.fnOf "__init__" "InvalidItems.__init__" (defArgs si_InvalidItems) (defBody si_InvalidItems) (defScope si_InvalidItems) .none kV_InvalidItems dc_InvalidItems pm_InvalidItems an_InvalidItems cd_InvalidItems ct_InvalidItems), sl_InvalidItems⟩) (ic_InvalidItems : PySem.W.codeIn K cd_InvalidItems "InvalidItems.__init__" = true) (ik_InvalidItems : PySem.W.keepIn K (.ref fI_InvalidItems) = true)
    {nm_InvalidKeeps q_InvalidKeeps : Str} {N_InvalidKeeps : Addr} {bs_InvalidKeeps sub_InvalidKeeps : List Value} {sn_InvalidKeeps : List Str} {ab_InvalidKeeps : Bool} {col_InvalidKeeps : Option Bool} {dd_InvalidKeeps : Option Addr} {k0_InvalidKeeps k1_InvalidKeeps k2_InvalidKeeps k3_InvalidKeeps k5_InvalidKeeps : Option Value} (cl_InvalidKeeps : K.lookup e_InvalidKeeps = some (excClassObj nm_InvalidKeeps q_InvalidKeeps e_InvalidKeeps N_InvalidKeeps bs_InvalidKeeps (.ref e_QueueError :: tailE) true sn_InvalidKeeps sub_InvalidKeeps ab_InvalidKeeps col_InvalidKeeps dd_InvalidKeeps k0_InvalidKeeps k1_InvalidKeeps k2_InvalidKeeps k3_InvalidKeeps k5_InvalidKeeps "Exception.__new__"))
    (sa_InvalidKeeps : PySem.W.findIn K (.ref e_InvalidKeeps) "__setattr__" = some (some (.builtin "object.__setattr__"))) (ex_InvalidKeeps : PySem.W.subIn K (.ref e_InvalidKeeps) (.type "BaseException") = some true) (ty_InvalidKeeps : PySem.W.typeIn K (.ref e_InvalidKeeps) = some (.type "type")) (kc_InvalidKeeps : PySem.W.keepIn K (.ref e_InvalidKeeps) = true)
    (xa_InvalidKeeps : PySem.W.findIn K (.ref e_InvalidKeeps) "__getattribute__" = some (some (.builtin "BaseException.__getattribute__"))) (xb_InvalidKeeps : PySem.W.findIn K (.ref e_InvalidKeeps) "__getattr__" = some none) (xd_InvalidKeeps : PySem.W.hasDictIn K e_InvalidKeeps = true) (xe_InvalidKeeps : PySem.W.findIn K (.ref e_InvalidKeeps) "__class__" = some (some (.builtin "object.__class__"))) (xm_InvalidKeeps : PySem.W.mroIn K e_InvalidKeeps (.type "object") = some true)
    (no_InvalidKeeps : PySem.W.findIn K (.ref e_InvalidKeeps) "given" = some none)
    {fI_InvalidKeeps : Addr} {od_InvalidKeeps an_InvalidKeeps : Option Addr} {sl_InvalidKeeps : Array (Option Value)} {oc_InvalidKeeps kV_InvalidKeeps dc_InvalidKeeps pm_InvalidKeeps cd_InvalidKeeps ct_InvalidKeeps : Value} (ia_InvalidKeeps : PySem.W.findIn K (.ref e_InvalidKeeps) "__init__" = some (some (.ref fI_InvalidKeeps))) (it_InvalidKeeps : PySem.W.typeIn K (.ref fI_InvalidKeeps) = some (.type "function"))
    (il_InvalidKeeps : K.lookup fI_InvalidKeeps = some ⟨oc_InvalidKeeps, od_InvalidKeeps, .func (PySem.W.fnOf "__init__" "InvalidKeeps.__init__" (defArgs si_InvalidKeeps) (defBody si_InvalidKeeps) (defScope si_InvalidKeeps) .none kV_InvalidKeeps dc_InvalidKeeps pm_InvalidKeeps an_InvalidKeeps cd_InvalidKeeps ct_InvalidKeeps), sl_InvalidKeeps⟩) (ic_InvalidKeeps : PySem.W.codeIn K cd_InvalidKeeps "InvalidKeeps.__init__" = true) (ik_InvalidKeeps : PySem.W.keepIn K (.ref fI_InvalidKeeps) = true)
    {nm_InvalidLetter q_InvalidLetter : Str} {N_InvalidLetter : Addr} {bs_InvalidLetter sub_InvalidLetter : List Value} {sn_InvalidLetter : List Str} {ab_InvalidLetter : Bool} {col_InvalidLetter : Option Bool} {dd_InvalidLetter : Option Addr} {k0_InvalidLetter k1_InvalidLetter k2_InvalidLetter k3_InvalidLetter k5_InvalidLetter : Option Value} (cl_InvalidLetter : K.lookup e_InvalidLetter = some (excClassObj nm_InvalidLetter q_InvalidLetter e_InvalidLetter N_InvalidLetter bs_InvalidLetter (.ref e_QueueError :: tailE) true sn_InvalidLetter sub_InvalidLetter ab_InvalidLetter col_InvalidLetter dd_InvalidLetter k0_InvalidLetter k1_InvalidLetter k2_InvalidLetter k3_InvalidLetter k5_InvalidLetter "Exception.__new__"))
    (sa_InvalidLetter : PySem.W.findIn K (.ref e_InvalidLetter) "__setattr__" = some (some (.builtin "object.__setattr__"))) (ex_InvalidLetter : PySem.W.subIn K (.ref e_InvalidLetter) (.type "BaseException") = some true) (ty_InvalidLetter : PySem.W.typeIn K (.ref e_InvalidLetter) = some (.type "type")) (kc_InvalidLetter : PySem.W.keepIn K (.ref e_InvalidLetter) = true)
    (xa_InvalidLetter : PySem.W.findIn K (.ref e_InvalidLetter) "__getattribute__" = some (some (.builtin "BaseException.__getattribute__"))) (xb_InvalidLetter : PySem.W.findIn K (.ref e_InvalidLetter) "__getattr__" = some none) (xd_InvalidLetter : PySem.W.hasDictIn K e_InvalidLetter = true) (xe_InvalidLetter : PySem.W.findIn K (.ref e_InvalidLetter) "__class__" = some (some (.builtin "object.__class__"))) (xm_InvalidLetter : PySem.W.mroIn K e_InvalidLetter (.type "object") = some true)
    (no_InvalidLetter : PySem.W.findIn K (.ref e_InvalidLetter) "given" = some none)
    {fI_InvalidLetter : Addr} {od_InvalidLetter an_InvalidLetter : Option Addr} {sl_InvalidLetter : Array (Option Value)} {oc_InvalidLetter kV_InvalidLetter dc_InvalidLetter pm_InvalidLetter cd_InvalidLetter ct_InvalidLetter : Value} (ia_InvalidLetter : PySem.W.findIn K (.ref e_InvalidLetter) "__init__" = some (some (.ref fI_InvalidLetter))) (it_InvalidLetter : PySem.W.typeIn K (.ref fI_InvalidLetter) = some (.type "function"))
    (il_InvalidLetter : K.lookup fI_InvalidLetter = some ⟨oc_InvalidLetter, od_InvalidLetter, .func (PySem.W.fnOf "__init__" "InvalidLetter.__init__" (defArgs si_InvalidLetter) (defBody si_InvalidLetter) (defScope si_InvalidLetter) .none kV_InvalidLetter dc_InvalidLetter pm_InvalidLetter an_InvalidLetter cd_InvalidLetter ct_InvalidLetter), sl_InvalidLetter⟩) (ic_InvalidLetter : PySem.W.codeIn K cd_InvalidLetter "InvalidLetter.__init__" = true) (ik_InvalidLetter : PySem.W.keepIn K (.ref fI_InvalidLetter) = true)
    {nm_InvalidLine q_InvalidLine : Str} {N_InvalidLine : Addr} {bs_InvalidLine sub_InvalidLine : List Value} {sn_InvalidLine : List Str} {ab_InvalidLine : Bool} {col_InvalidLine : Option Bool} {dd_InvalidLine : Option Addr} {k0_InvalidLine k1_InvalidLine k2_InvalidLine k3_InvalidLine k5_InvalidLine : Option Value} (cl_InvalidLine : K.lookup e_InvalidLine = some (excClassObj nm_InvalidLine q_InvalidLine e_InvalidLine N_InvalidLine bs_InvalidLine (.ref e_QueueError :: tailE) true sn_InvalidLine sub_InvalidLine ab_InvalidLine col_InvalidLine dd_InvalidLine k0_InvalidLine k1_InvalidLine k2_InvalidLine k3_InvalidLine k5_InvalidLine "Exception.__new__"))
    (sa_InvalidLine : PySem.W.findIn K (.ref e_InvalidLine) "__setattr__" = some (some (.builtin "object.__setattr__"))) (ex_InvalidLine : PySem.W.subIn K (.ref e_InvalidLine) (.type "BaseException") = some true) (ty_InvalidLine : PySem.W.typeIn K (.ref e_InvalidLine) = some (.type "type")) (kc_InvalidLine : PySem.W.keepIn K (.ref e_InvalidLine) = true)
    (xa_InvalidLine : PySem.W.findIn K (.ref e_InvalidLine) "__getattribute__" = some (some (.builtin "BaseException.__getattribute__"))) (xb_InvalidLine : PySem.W.findIn K (.ref e_InvalidLine) "__getattr__" = some none) (xd_InvalidLine : PySem.W.hasDictIn K e_InvalidLine = true) (xe_InvalidLine : PySem.W.findIn K (.ref e_InvalidLine) "__class__" = some (some (.builtin "object.__class__"))) (xm_InvalidLine : PySem.W.mroIn K e_InvalidLine (.type "object") = some true)
    (no_InvalidLine : PySem.W.findIn K (.ref e_InvalidLine) "given" = some none)
    {fI_InvalidLine : Addr} {od_InvalidLine an_InvalidLine : Option Addr} {sl_InvalidLine : Array (Option Value)} {oc_InvalidLine kV_InvalidLine dc_InvalidLine pm_InvalidLine cd_InvalidLine ct_InvalidLine : Value} (ia_InvalidLine : PySem.W.findIn K (.ref e_InvalidLine) "__init__" = some (some (.ref fI_InvalidLine))) (it_InvalidLine : PySem.W.typeIn K (.ref fI_InvalidLine) = some (.type "function"))
    (il_InvalidLine : K.lookup fI_InvalidLine = some ⟨oc_InvalidLine, od_InvalidLine, .func (PySem.W.fnOf "__init__" "InvalidLine.__init__" (defArgs si_InvalidLine) (defBody si_InvalidLine) (defScope si_InvalidLine) .none kV_InvalidLine dc_InvalidLine pm_InvalidLine an_InvalidLine cd_InvalidLine ct_InvalidLine), sl_InvalidLine⟩) (ic_InvalidLine : PySem.W.codeIn K cd_InvalidLine "InvalidLine.__init__" = true) (ik_InvalidLine : PySem.W.keepIn K (.ref fI_InvalidLine) = true)
    {nm_InvalidName q_InvalidName : Str} {N_InvalidName : Addr} {bs_InvalidName sub_InvalidName : List Value} {sn_InvalidName : List Str} {ab_InvalidName : Bool} {col_InvalidName : Option Bool} {dd_InvalidName : Option Addr} {k0_InvalidName k1_InvalidName k2_InvalidName k3_InvalidName k5_InvalidName : Option Value} (cl_InvalidName : K.lookup e_InvalidName = some (excClassObj nm_InvalidName q_InvalidName e_InvalidName N_InvalidName bs_InvalidName (.ref e_QueueError :: tailE) true sn_InvalidName sub_InvalidName ab_InvalidName col_InvalidName dd_InvalidName k0_InvalidName k1_InvalidName k2_InvalidName k3_InvalidName k5_InvalidName "Exception.__new__"))
    (sa_InvalidName : PySem.W.findIn K (.ref e_InvalidName) "__setattr__" = some (some (.builtin "object.__setattr__"))) (ex_InvalidName : PySem.W.subIn K (.ref e_InvalidName) (.type "BaseException") = some true) (ty_InvalidName : PySem.W.typeIn K (.ref e_InvalidName) = some (.type "type")) (kc_InvalidName : PySem.W.keepIn K (.ref e_InvalidName) = true)
    (xa_InvalidName : PySem.W.findIn K (.ref e_InvalidName) "__getattribute__" = some (some (.builtin "BaseException.__getattribute__"))) (xb_InvalidName : PySem.W.findIn K (.ref e_InvalidName) "__getattr__" = some none) (xd_InvalidName : PySem.W.hasDictIn K e_InvalidName = true) (xe_InvalidName : PySem.W.findIn K (.ref e_InvalidName) "__class__" = some (some (.builtin "object.__class__"))) (xm_InvalidName : PySem.W.mroIn K e_InvalidName (.type "object") = some true)
    (no_InvalidName : PySem.W.findIn K (.ref e_InvalidName) "given" = some none)
    {fI_InvalidName : Addr} {od_InvalidName an_InvalidName : Option Addr} {sl_InvalidName : Array (Option Value)} {oc_InvalidName kV_InvalidName dc_InvalidName pm_InvalidName cd_InvalidName ct_InvalidName : Value} (ia_InvalidName : PySem.W.findIn K (.ref e_InvalidName) "__init__" = some (some (.ref fI_InvalidName))) (it_InvalidName : PySem.W.typeIn K (.ref fI_InvalidName) = some (.type "function"))
    (il_InvalidName : K.lookup fI_InvalidName = some ⟨oc_InvalidName, od_InvalidName, .func (PySem.W.fnOf "__init__" "InvalidName.__init__" (defArgs si_InvalidName) (defBody si_InvalidName) (defScope si_InvalidName) .none kV_InvalidName dc_InvalidName pm_InvalidName an_InvalidName cd_InvalidName ct_InvalidName), sl_InvalidName⟩) (ic_InvalidName : PySem.W.codeIn K cd_InvalidName "InvalidName.__init__" = true) (ik_InvalidName : PySem.W.keepIn K (.ref fI_InvalidName) = true)
    {nm_InvalidNumber q_InvalidNumber : Str} {N_InvalidNumber : Addr} {bs_InvalidNumber sub_InvalidNumber : List Value} {sn_InvalidNumber : List Str} {ab_InvalidNumber : Bool} {col_InvalidNumber : Option Bool} {dd_InvalidNumber : Option Addr} {k0_InvalidNumber k1_InvalidNumber k2_InvalidNumber k3_InvalidNumber k5_InvalidNumber : Option Value} (cl_InvalidNumber : K.lookup e_InvalidNumber = some (excClassObj nm_InvalidNumber q_InvalidNumber e_InvalidNumber N_InvalidNumber bs_InvalidNumber (.ref e_QueueError :: tailE) true sn_InvalidNumber sub_InvalidNumber ab_InvalidNumber col_InvalidNumber dd_InvalidNumber k0_InvalidNumber k1_InvalidNumber k2_InvalidNumber k3_InvalidNumber k5_InvalidNumber "Exception.__new__"))
    (sa_InvalidNumber : PySem.W.findIn K (.ref e_InvalidNumber) "__setattr__" = some (some (.builtin "object.__setattr__"))) (ex_InvalidNumber : PySem.W.subIn K (.ref e_InvalidNumber) (.type "BaseException") = some true) (ty_InvalidNumber : PySem.W.typeIn K (.ref e_InvalidNumber) = some (.type "type")) (kc_InvalidNumber : PySem.W.keepIn K (.ref e_InvalidNumber) = true)
    (xa_InvalidNumber : PySem.W.findIn K (.ref e_InvalidNumber) "__getattribute__" = some (some (.builtin "BaseException.__getattribute__"))) (xb_InvalidNumber : PySem.W.findIn K (.ref e_InvalidNumber) "__getattr__" = some none) (xd_InvalidNumber : PySem.W.hasDictIn K e_InvalidNumber = true) (xe_InvalidNumber : PySem.W.findIn K (.ref e_InvalidNumber) "__class__" = some (some (.builtin "object.__class__"))) (xm_InvalidNumber : PySem.W.mroIn K e_InvalidNumber (.type "object") = some true)
    (no_InvalidNumber : PySem.W.findIn K (.ref e_InvalidNumber) "given" = some none)
    {fI_InvalidNumber : Addr} {od_InvalidNumber an_InvalidNumber : Option Addr} {sl_InvalidNumber : Array (Option Value)} {oc_InvalidNumber kV_InvalidNumber dc_InvalidNumber pm_InvalidNumber cd_InvalidNumber ct_InvalidNumber : Value} (ia_InvalidNumber : PySem.W.findIn K (.ref e_InvalidNumber) "__init__" = some (some (.ref fI_InvalidNumber))) (it_InvalidNumber : PySem.W.typeIn K (.ref fI_InvalidNumber) = some (.type "function"))
    (il_InvalidNumber : K.lookup fI_InvalidNumber = some ⟨oc_InvalidNumber, od_InvalidNumber, .func (PySem.W.fnOf "__init__" "InvalidNumber.__init__" (defArgs si_InvalidNumber) (defBody si_InvalidNumber) (defScope si_InvalidNumber) .none kV_InvalidNumber dc_InvalidNumber pm_InvalidNumber an_InvalidNumber cd_InvalidNumber ct_InvalidNumber), sl_InvalidNumber⟩) (ic_InvalidNumber : PySem.W.codeIn K cd_InvalidNumber "InvalidNumber.__init__" = true) (ik_InvalidNumber : PySem.W.keepIn K (.ref fI_InvalidNumber) = true)
    {nm_InvalidPicture q_InvalidPicture : Str} {N_InvalidPicture : Addr} {bs_InvalidPicture sub_InvalidPicture : List Value} {sn_InvalidPicture : List Str} {ab_InvalidPicture : Bool} {col_InvalidPicture : Option Bool} {dd_InvalidPicture : Option Addr} {k0_InvalidPicture k1_InvalidPicture k2_InvalidPicture k3_InvalidPicture k5_InvalidPicture : Option Value} (cl_InvalidPicture : K.lookup e_InvalidPicture = some (excClassObj nm_InvalidPicture q_InvalidPicture e_InvalidPicture N_InvalidPicture bs_InvalidPicture (.ref e_QueueError :: tailE) true sn_InvalidPicture sub_InvalidPicture ab_InvalidPicture col_InvalidPicture dd_InvalidPicture k0_InvalidPicture k1_InvalidPicture k2_InvalidPicture k3_InvalidPicture k5_InvalidPicture "Exception.__new__"))
    (sa_InvalidPicture : PySem.W.findIn K (.ref e_InvalidPicture) "__setattr__" = some (some (.builtin "object.__setattr__"))) (ex_InvalidPicture : PySem.W.subIn K (.ref e_InvalidPicture) (.type "BaseException") = some true) (ty_InvalidPicture : PySem.W.typeIn K (.ref e_InvalidPicture) = some (.type "type")) (kc_InvalidPicture : PySem.W.keepIn K (.ref e_InvalidPicture) = true)
    (xa_InvalidPicture : PySem.W.findIn K (.ref e_InvalidPicture) "__getattribute__" = some (some (.builtin "BaseException.__getattribute__"))) (xb_InvalidPicture : PySem.W.findIn K (.ref e_InvalidPicture) "__getattr__" = some none) (xd_InvalidPicture : PySem.W.hasDictIn K e_InvalidPicture = true) (xe_InvalidPicture : PySem.W.findIn K (.ref e_InvalidPicture) "__class__" = some (some (.builtin "object.__class__"))) (xm_InvalidPicture : PySem.W.mroIn K e_InvalidPicture (.type "object") = some true)
    (no_InvalidPicture : PySem.W.findIn K (.ref e_InvalidPicture) "given" = some none)
    {fI_InvalidPicture : Addr} {od_InvalidPicture an_InvalidPicture : Option Addr} {sl_InvalidPicture : Array (Option Value)} {oc_InvalidPicture kV_InvalidPicture dc_InvalidPicture pm_InvalidPicture cd_InvalidPicture ct_InvalidPicture : Value} (ia_InvalidPicture : PySem.W.findIn K (.ref e_InvalidPicture) "__init__" = some (some (.ref fI_InvalidPicture))) (it_InvalidPicture : PySem.W.typeIn K (.ref fI_InvalidPicture) = some (.type "function"))
    (il_InvalidPicture : K.lookup fI_InvalidPicture = some ⟨oc_InvalidPicture, od_InvalidPicture, .func (PySem.W.fnOf "__init__" "InvalidPicture.__init__" (defArgs si_InvalidPicture) (defBody si_InvalidPicture) (defScope si_InvalidPicture) .none kV_InvalidPicture dc_InvalidPicture pm_InvalidPicture an_InvalidPicture cd_InvalidPicture ct_InvalidPicture), sl_InvalidPicture⟩) (ic_InvalidPicture : PySem.W.codeIn K cd_InvalidPicture "InvalidPicture.__init__" = true) (ik_InvalidPicture : PySem.W.keepIn K (.ref fI_InvalidPicture) = true)
    {nm_InvalidState q_InvalidState : Str} {N_InvalidState : Addr} {bs_InvalidState sub_InvalidState : List Value} {sn_InvalidState : List Str} {ab_InvalidState : Bool} {col_InvalidState : Option Bool} {dd_InvalidState : Option Addr} {k0_InvalidState k1_InvalidState k2_InvalidState k3_InvalidState k5_InvalidState : Option Value} (cl_InvalidState : K.lookup e_InvalidState = some (excClassObj nm_InvalidState q_InvalidState e_InvalidState N_InvalidState bs_InvalidState (.ref e_QueueError :: tailE) true sn_InvalidState sub_InvalidState ab_InvalidState col_InvalidState dd_InvalidState k0_InvalidState k1_InvalidState k2_InvalidState k3_InvalidState k5_InvalidState "Exception.__new__"))
    (sa_InvalidState : PySem.W.findIn K (.ref e_InvalidState) "__setattr__" = some (some (.builtin "object.__setattr__"))) (ex_InvalidState : PySem.W.subIn K (.ref e_InvalidState) (.type "BaseException") = some true) (ty_InvalidState : PySem.W.typeIn K (.ref e_InvalidState) = some (.type "type")) (kc_InvalidState : PySem.W.keepIn K (.ref e_InvalidState) = true)
    (xa_InvalidState : PySem.W.findIn K (.ref e_InvalidState) "__getattribute__" = some (some (.builtin "BaseException.__getattribute__"))) (xb_InvalidState : PySem.W.findIn K (.ref e_InvalidState) "__getattr__" = some none) (xd_InvalidState : PySem.W.hasDictIn K e_InvalidState = true) (xe_InvalidState : PySem.W.findIn K (.ref e_InvalidState) "__class__" = some (some (.builtin "object.__class__"))) (xm_InvalidState : PySem.W.mroIn K e_InvalidState (.type "object") = some true)
    (no_InvalidState : PySem.W.findIn K (.ref e_InvalidState) "given" = some none)
    {fI_InvalidState : Addr} {od_InvalidState an_InvalidState : Option Addr} {sl_InvalidState : Array (Option Value)} {oc_InvalidState kV_InvalidState dc_InvalidState pm_InvalidState cd_InvalidState ct_InvalidState : Value} (ia_InvalidState : PySem.W.findIn K (.ref e_InvalidState) "__init__" = some (some (.ref fI_InvalidState))) (it_InvalidState : PySem.W.typeIn K (.ref fI_InvalidState) = some (.type "function"))
    (il_InvalidState : K.lookup fI_InvalidState = some ⟨oc_InvalidState, od_InvalidState, .func (PySem.W.fnOf "__init__" "InvalidState.__init__" (defArgs si_InvalidState) (defBody si_InvalidState) (defScope si_InvalidState) .none kV_InvalidState dc_InvalidState pm_InvalidState an_InvalidState cd_InvalidState ct_InvalidState), sl_InvalidState⟩) (ic_InvalidState : PySem.W.codeIn K cd_InvalidState "InvalidState.__init__" = true) (ik_InvalidState : PySem.W.keepIn K (.ref fI_InvalidState) = true)
    {nm_InvalidTerm q_InvalidTerm : Str} {N_InvalidTerm : Addr} {bs_InvalidTerm sub_InvalidTerm : List Value} {sn_InvalidTerm : List Str} {ab_InvalidTerm : Bool} {col_InvalidTerm : Option Bool} {dd_InvalidTerm : Option Addr} {k0_InvalidTerm k1_InvalidTerm k2_InvalidTerm k3_InvalidTerm k5_InvalidTerm : Option Value} (cl_InvalidTerm : K.lookup e_InvalidTerm = some (excClassObj nm_InvalidTerm q_InvalidTerm e_InvalidTerm N_InvalidTerm bs_InvalidTerm (.ref e_QueueError :: tailE) true sn_InvalidTerm sub_InvalidTerm ab_InvalidTerm col_InvalidTerm dd_InvalidTerm k0_InvalidTerm k1_InvalidTerm k2_InvalidTerm k3_InvalidTerm k5_InvalidTerm "Exception.__new__"))
    (sa_InvalidTerm : PySem.W.findIn K (.ref e_InvalidTerm) "__setattr__" = some (some (.builtin "object.__setattr__"))) (ex_InvalidTerm : PySem.W.subIn K (.ref e_InvalidTerm) (.type "BaseException") = some true) (ty_InvalidTerm : PySem.W.typeIn K (.ref e_InvalidTerm) = some (.type "type")) (kc_InvalidTerm : PySem.W.keepIn K (.ref e_InvalidTerm) = true)
    (xa_InvalidTerm : PySem.W.findIn K (.ref e_InvalidTerm) "__getattribute__" = some (some (.builtin "BaseException.__getattribute__"))) (xb_InvalidTerm : PySem.W.findIn K (.ref e_InvalidTerm) "__getattr__" = some none) (xd_InvalidTerm : PySem.W.hasDictIn K e_InvalidTerm = true) (xe_InvalidTerm : PySem.W.findIn K (.ref e_InvalidTerm) "__class__" = some (some (.builtin "object.__class__"))) (xm_InvalidTerm : PySem.W.mroIn K e_InvalidTerm (.type "object") = some true)
    (no_InvalidTerm : PySem.W.findIn K (.ref e_InvalidTerm) "given" = some none)
    {fI_InvalidTerm : Addr} {od_InvalidTerm an_InvalidTerm : Option Addr} {sl_InvalidTerm : Array (Option Value)} {oc_InvalidTerm kV_InvalidTerm dc_InvalidTerm pm_InvalidTerm cd_InvalidTerm ct_InvalidTerm : Value} (ia_InvalidTerm : PySem.W.findIn K (.ref e_InvalidTerm) "__init__" = some (some (.ref fI_InvalidTerm))) (it_InvalidTerm : PySem.W.typeIn K (.ref fI_InvalidTerm) = some (.type "function"))
    (il_InvalidTerm : K.lookup fI_InvalidTerm = some ⟨oc_InvalidTerm, od_InvalidTerm, .func (PySem.W.fnOf "__init__" "InvalidTerm.__init__" (defArgs si_InvalidTerm) (defBody si_InvalidTerm) (defScope si_InvalidTerm) .none kV_InvalidTerm dc_InvalidTerm pm_InvalidTerm an_InvalidTerm cd_InvalidTerm ct_InvalidTerm), sl_InvalidTerm⟩) (ic_InvalidTerm : PySem.W.codeIn K cd_InvalidTerm "InvalidTerm.__init__" = true) (ik_InvalidTerm : PySem.W.keepIn K (.ref fI_InvalidTerm) = true)
    {nm_InvalidText q_InvalidText : Str} {N_InvalidText : Addr} {bs_InvalidText sub_InvalidText : List Value} {sn_InvalidText : List Str} {ab_InvalidText : Bool} {col_InvalidText : Option Bool} {dd_InvalidText : Option Addr} {k0_InvalidText k1_InvalidText k2_InvalidText k3_InvalidText k5_InvalidText : Option Value} (cl_InvalidText : K.lookup e_InvalidText = some (excClassObj nm_InvalidText q_InvalidText e_InvalidText N_InvalidText bs_InvalidText (.ref e_QueueError :: tailE) true sn_InvalidText sub_InvalidText ab_InvalidText col_InvalidText dd_InvalidText k0_InvalidText k1_InvalidText k2_InvalidText k3_InvalidText k5_InvalidText "Exception.__new__"))
    (sa_InvalidText : PySem.W.findIn K (.ref e_InvalidText) "__setattr__" = some (some (.builtin "object.__setattr__"))) (ex_InvalidText : PySem.W.subIn K (.ref e_InvalidText) (.type "BaseException") = some true) (ty_InvalidText : PySem.W.typeIn K (.ref e_InvalidText) = some (.type "type")) (kc_InvalidText : PySem.W.keepIn K (.ref e_InvalidText) = true)
    (xa_InvalidText : PySem.W.findIn K (.ref e_InvalidText) "__getattribute__" = some (some (.builtin "BaseException.__getattribute__"))) (xb_InvalidText : PySem.W.findIn K (.ref e_InvalidText) "__getattr__" = some none) (xd_InvalidText : PySem.W.hasDictIn K e_InvalidText = true) (xe_InvalidText : PySem.W.findIn K (.ref e_InvalidText) "__class__" = some (some (.builtin "object.__class__"))) (xm_InvalidText : PySem.W.mroIn K e_InvalidText (.type "object") = some true)
    (no_InvalidText : PySem.W.findIn K (.ref e_InvalidText) "given" = some none)
    {fI_InvalidText : Addr} {od_InvalidText an_InvalidText : Option Addr} {sl_InvalidText : Array (Option Value)} {oc_InvalidText kV_InvalidText dc_InvalidText pm_InvalidText cd_InvalidText ct_InvalidText : Value} (ia_InvalidText : PySem.W.findIn K (.ref e_InvalidText) "__init__" = some (some (.ref fI_InvalidText))) (it_InvalidText : PySem.W.typeIn K (.ref fI_InvalidText) = some (.type "function"))
    (il_InvalidText : K.lookup fI_InvalidText = some ⟨oc_InvalidText, od_InvalidText, .func (PySem.W.fnOf "__init__" "InvalidText.__init__" (defArgs si_InvalidText) (defBody si_InvalidText) (defScope si_InvalidText) .none kV_InvalidText dc_InvalidText pm_InvalidText an_InvalidText cd_InvalidText ct_InvalidText), sl_InvalidText⟩) (ic_InvalidText : PySem.W.codeIn K cd_InvalidText "InvalidText.__init__" = true) (ik_InvalidText : PySem.W.keepIn K (.ref fI_InvalidText) = true)
    {nm_InvalidValue q_InvalidValue : Str} {N_InvalidValue : Addr} {bs_InvalidValue sub_InvalidValue : List Value} {sn_InvalidValue : List Str} {ab_InvalidValue : Bool} {col_InvalidValue : Option Bool} {dd_InvalidValue : Option Addr} {k0_InvalidValue k1_InvalidValue k2_InvalidValue k3_InvalidValue k5_InvalidValue : Option Value} (cl_InvalidValue : K.lookup e_InvalidValue = some (excClassObj nm_InvalidValue q_InvalidValue e_InvalidValue N_InvalidValue bs_InvalidValue (.ref e_QueueError :: tailE) true sn_InvalidValue sub_InvalidValue ab_InvalidValue col_InvalidValue dd_InvalidValue k0_InvalidValue k1_InvalidValue k2_InvalidValue k3_InvalidValue k5_InvalidValue "Exception.__new__"))
    (sa_InvalidValue : PySem.W.findIn K (.ref e_InvalidValue) "__setattr__" = some (some (.builtin "object.__setattr__"))) (ex_InvalidValue : PySem.W.subIn K (.ref e_InvalidValue) (.type "BaseException") = some true) (ty_InvalidValue : PySem.W.typeIn K (.ref e_InvalidValue) = some (.type "type")) (kc_InvalidValue : PySem.W.keepIn K (.ref e_InvalidValue) = true)
    (xa_InvalidValue : PySem.W.findIn K (.ref e_InvalidValue) "__getattribute__" = some (some (.builtin "BaseException.__getattribute__"))) (xb_InvalidValue : PySem.W.findIn K (.ref e_InvalidValue) "__getattr__" = some none) (xd_InvalidValue : PySem.W.hasDictIn K e_InvalidValue = true) (xe_InvalidValue : PySem.W.findIn K (.ref e_InvalidValue) "__class__" = some (some (.builtin "object.__class__"))) (xm_InvalidValue : PySem.W.mroIn K e_InvalidValue (.type "object") = some true)
    (no_InvalidValue : PySem.W.findIn K (.ref e_InvalidValue) "given" = some none)
    {fI_InvalidValue : Addr} {od_InvalidValue an_InvalidValue : Option Addr} {sl_InvalidValue : Array (Option Value)} {oc_InvalidValue kV_InvalidValue dc_InvalidValue pm_InvalidValue cd_InvalidValue ct_InvalidValue : Value} (ia_InvalidValue : PySem.W.findIn K (.ref e_InvalidValue) "__init__" = some (some (.ref fI_InvalidValue))) (it_InvalidValue : PySem.W.typeIn K (.ref fI_InvalidValue) = some (.type "function"))
    (il_InvalidValue : K.lookup fI_InvalidValue = some ⟨oc_InvalidValue, od_InvalidValue, .func (PySem.W.fnOf "__init__" "InvalidValue.__init__" (defArgs si_InvalidValue) (defBody si_InvalidValue) (defScope si_InvalidValue) .none kV_InvalidValue dc_InvalidValue pm_InvalidValue an_InvalidValue cd_InvalidValue ct_InvalidValue), sl_InvalidValue⟩) (ic_InvalidValue : PySem.W.codeIn K cd_InvalidValue "InvalidValue.__init__" = true) (ik_InvalidValue : PySem.W.keepIn K (.ref fI_InvalidValue) = true)
    {nm_InvalidWorld q_InvalidWorld : Str} {N_InvalidWorld : Addr} {bs_InvalidWorld sub_InvalidWorld : List Value} {sn_InvalidWorld : List Str} {ab_InvalidWorld : Bool} {col_InvalidWorld : Option Bool} {dd_InvalidWorld : Option Addr} {k0_InvalidWorld k1_InvalidWorld k2_InvalidWorld k3_InvalidWorld k5_InvalidWorld : Option Value} (cl_InvalidWorld : K.lookup e_InvalidWorld = some (excClassObj nm_InvalidWorld q_InvalidWorld e_InvalidWorld N_InvalidWorld bs_InvalidWorld (.ref e_QueueError :: tailE) true sn_InvalidWorld sub_InvalidWorld ab_InvalidWorld col_InvalidWorld dd_InvalidWorld k0_InvalidWorld k1_InvalidWorld k2_InvalidWorld k3_InvalidWorld k5_InvalidWorld "Exception.__new__"))
    (sa_InvalidWorld : PySem.W.findIn K (.ref e_InvalidWorld) "__setattr__" = some (some (.builtin "object.__setattr__"))) (ex_InvalidWorld : PySem.W.subIn K (.ref e_InvalidWorld) (.type "BaseException") = some true) (ty_InvalidWorld : PySem.W.typeIn K (.ref e_InvalidWorld) = some (.type "type")) (kc_InvalidWorld : PySem.W.keepIn K (.ref e_InvalidWorld) = true)
    (xa_InvalidWorld : PySem.W.findIn K (.ref e_InvalidWorld) "__getattribute__" = some (some (.builtin "BaseException.__getattribute__"))) (xb_InvalidWorld : PySem.W.findIn K (.ref e_InvalidWorld) "__getattr__" = some none) (xd_InvalidWorld : PySem.W.hasDictIn K e_InvalidWorld = true) (xe_InvalidWorld : PySem.W.findIn K (.ref e_InvalidWorld) "__class__" = some (some (.builtin "object.__class__"))) (xm_InvalidWorld : PySem.W.mroIn K e_InvalidWorld (.type "object") = some true)
    (no_InvalidWorld : PySem.W.findIn K (.ref e_InvalidWorld) "given" = some none)
    {fI_InvalidWorld : Addr} {od_InvalidWorld an_InvalidWorld : Option Addr} {sl_InvalidWorld : Array (Option Value)} {oc_InvalidWorld kV_InvalidWorld dc_InvalidWorld pm_InvalidWorld cd_InvalidWorld ct_InvalidWorld : Value} (ia_InvalidWorld : PySem.W.findIn K (.ref e_InvalidWorld) "__init__" = some (some (.ref fI_InvalidWorld))) (it_InvalidWorld : PySem.W.typeIn K (.ref fI_InvalidWorld) = some (.type "function"))
    (il_InvalidWorld : K.lookup fI_InvalidWorld = some ⟨oc_InvalidWorld, od_InvalidWorld, .func (PySem.W.fnOf "__init__" "InvalidWorld.__init__" (defArgs si_InvalidWorld) (defBody si_InvalidWorld) (defScope si_InvalidWorld) .none kV_InvalidWorld dc_InvalidWorld pm_InvalidWorld an_InvalidWorld cd_InvalidWorld ct_InvalidWorld), sl_InvalidWorld⟩) (ic_InvalidWorld : PySem.W.codeIn K cd_InvalidWorld "InvalidWorld.__init__" = true) (ik_InvalidWorld : PySem.W.keepIn K (.ref fI_InvalidWorld) = true)
    {nm_TooLong q_TooLong : Str} {N_TooLong : Addr} {bs_TooLong sub_TooLong : List Value} {sn_TooLong : List Str} {ab_TooLong : Bool} {col_TooLong : Option Bool} {dd_TooLong : Option Addr} {k0_TooLong k1_TooLong k2_TooLong k3_TooLong k5_TooLong : Option Value} (cl_TooLong : K.lookup e_TooLong = some (excClassObj nm_TooLong q_TooLong e_TooLong N_TooLong bs_TooLong (.ref e_QueueError :: tailE) true sn_TooLong sub_TooLong ab_TooLong col_TooLong dd_TooLong k0_TooLong k1_TooLong k2_TooLong k3_TooLong k5_TooLong "Exception.__new__"))
    (sa_TooLong : PySem.W.findIn K (.ref e_TooLong) "__setattr__" = some (some (.builtin "object.__setattr__"))) (ex_TooLong : PySem.W.subIn K (.ref e_TooLong) (.type "BaseException") = some true) (ty_TooLong : PySem.W.typeIn K (.ref e_TooLong) = some (.type "type")) (kc_TooLong : PySem.W.keepIn K (.ref e_TooLong) = true)
    (xa_TooLong : PySem.W.findIn K (.ref e_TooLong) "__getattribute__" = some (some (.builtin "BaseException.__getattribute__"))) (xb_TooLong : PySem.W.findIn K (.ref e_TooLong) "__getattr__" = some none) (xd_TooLong : PySem.W.hasDictIn K e_TooLong = true) (xe_TooLong : PySem.W.findIn K (.ref e_TooLong) "__class__" = some (some (.builtin "object.__class__"))) (xm_TooLong : PySem.W.mroIn K e_TooLong (.type "object") = some true)
    (no_TooLong : PySem.W.findIn K (.ref e_TooLong) "signs" = some none)
    {fI_TooLong : Addr} {od_TooLong an_TooLong : Option Addr} {sl_TooLong : Array (Option Value)} {oc_TooLong kV_TooLong dc_TooLong pm_TooLong cd_TooLong ct_TooLong : Value} (ia_TooLong : PySem.W.findIn K (.ref e_TooLong) "__init__" = some (some (.ref fI_TooLong))) (it_TooLong : PySem.W.typeIn K (.ref fI_TooLong) = some (.type "function"))
    (il_TooLong : K.lookup fI_TooLong = some ⟨oc_TooLong, od_TooLong, .func (PySem.W.fnOf "__init__" "TooLong.__init__" (defArgs si_TooLong) (defBody si_TooLong) (defScope si_TooLong) .none kV_TooLong dc_TooLong pm_TooLong an_TooLong cd_TooLong ct_TooLong), sl_TooLong⟩) (ic_TooLong : PySem.W.codeIn K cd_TooLong "TooLong.__init__" = true) (ik_TooLong : PySem.W.keepIn K (.ref fI_TooLong) = true)
    {nm_NoFile q_NoFile : Str} {N_NoFile : Addr} {bs_NoFile sub_NoFile : List Value} {sn_NoFile : List Str} {ab_NoFile : Bool} {col_NoFile : Option Bool} {dd_NoFile : Option Addr} {k0_NoFile k1_NoFile k2_NoFile k3_NoFile k5_NoFile : Option Value} (cl_NoFile : K.lookup e_NoFile = some (excClassObj nm_NoFile q_NoFile e_NoFile N_NoFile bs_NoFile (.ref e_QueueError :: tailE) true sn_NoFile sub_NoFile ab_NoFile col_NoFile dd_NoFile k0_NoFile k1_NoFile k2_NoFile k3_NoFile k5_NoFile "Exception.__new__"))
    (sa_NoFile : PySem.W.findIn K (.ref e_NoFile) "__setattr__" = some (some (.builtin "object.__setattr__"))) (ex_NoFile : PySem.W.subIn K (.ref e_NoFile) (.type "BaseException") = some true) (ty_NoFile : PySem.W.typeIn K (.ref e_NoFile) = some (.type "type")) (kc_NoFile : PySem.W.keepIn K (.ref e_NoFile) = true)
    (xa_NoFile : PySem.W.findIn K (.ref e_NoFile) "__getattribute__" = some (some (.builtin "BaseException.__getattribute__"))) (xb_NoFile : PySem.W.findIn K (.ref e_NoFile) "__getattr__" = some none) (xd_NoFile : PySem.W.hasDictIn K e_NoFile = true) (xe_NoFile : PySem.W.findIn K (.ref e_NoFile) "__class__" = some (some (.builtin "object.__class__"))) (xm_NoFile : PySem.W.mroIn K e_NoFile (.type "object") = some true)
    (no_NoFile : PySem.W.findIn K (.ref e_NoFile) "name" = some none)
    {fI_NoFile : Addr} {od_NoFile an_NoFile : Option Addr} {sl_NoFile : Array (Option Value)} {oc_NoFile kV_NoFile dc_NoFile pm_NoFile cd_NoFile ct_NoFile : Value} (ia_NoFile : PySem.W.findIn K (.ref e_NoFile) "__init__" = some (some (.ref fI_NoFile))) (it_NoFile : PySem.W.typeIn K (.ref fI_NoFile) = some (.type "function"))
    (il_NoFile : K.lookup fI_NoFile = some ⟨oc_NoFile, od_NoFile, .func (PySem.W.fnOf "__init__" "NoFile.__init__" (defArgs si_NoFile) (defBody si_NoFile) (defScope si_NoFile) .none kV_NoFile dc_NoFile pm_NoFile an_NoFile cd_NoFile ct_NoFile), sl_NoFile⟩) (ic_NoFile : PySem.W.codeIn K cd_NoFile "NoFile.__init__" = true) (ik_NoFile : PySem.W.keepIn K (.ref fI_NoFile) = true)
    {nm_NoRow q_NoRow : Str} {N_NoRow : Addr} {bs_NoRow sub_NoRow : List Value} {sn_NoRow : List Str} {ab_NoRow : Bool} {col_NoRow : Option Bool} {dd_NoRow : Option Addr} {k0_NoRow k1_NoRow k2_NoRow k3_NoRow k5_NoRow : Option Value} (cl_NoRow : K.lookup e_NoRow = some (excClassObj nm_NoRow q_NoRow e_NoRow N_NoRow bs_NoRow (.ref e_QueueError :: tailE) true sn_NoRow sub_NoRow ab_NoRow col_NoRow dd_NoRow k0_NoRow k1_NoRow k2_NoRow k3_NoRow k5_NoRow "Exception.__new__"))
    (sa_NoRow : PySem.W.findIn K (.ref e_NoRow) "__setattr__" = some (some (.builtin "object.__setattr__"))) (ex_NoRow : PySem.W.subIn K (.ref e_NoRow) (.type "BaseException") = some true) (ty_NoRow : PySem.W.typeIn K (.ref e_NoRow) = some (.type "type")) (kc_NoRow : PySem.W.keepIn K (.ref e_NoRow) = true)
    (xa_NoRow : PySem.W.findIn K (.ref e_NoRow) "__getattribute__" = some (some (.builtin "BaseException.__getattribute__"))) (xb_NoRow : PySem.W.findIn K (.ref e_NoRow) "__getattr__" = some none) (xd_NoRow : PySem.W.hasDictIn K e_NoRow = true) (xe_NoRow : PySem.W.findIn K (.ref e_NoRow) "__class__" = some (some (.builtin "object.__class__"))) (xm_NoRow : PySem.W.mroIn K e_NoRow (.type "object") = some true)
    (no_NoRow : PySem.W.findIn K (.ref e_NoRow) "index" = some none)
    {fI_NoRow : Addr} {od_NoRow an_NoRow : Option Addr} {sl_NoRow : Array (Option Value)} {oc_NoRow kV_NoRow dc_NoRow pm_NoRow cd_NoRow ct_NoRow : Value} (ia_NoRow : PySem.W.findIn K (.ref e_NoRow) "__init__" = some (some (.ref fI_NoRow))) (it_NoRow : PySem.W.typeIn K (.ref fI_NoRow) = some (.type "function"))
    (il_NoRow : K.lookup fI_NoRow = some ⟨oc_NoRow, od_NoRow, .func (PySem.W.fnOf "__init__" "NoRow.__init__" (defArgs si_NoRow) (defBody si_NoRow) (defScope si_NoRow) .none kV_NoRow dc_NoRow pm_NoRow an_NoRow cd_NoRow ct_NoRow), sl_NoRow⟩) (ic_NoRow : PySem.W.codeIn K cd_NoRow "NoRow.__init__" = true) (ik_NoRow : PySem.W.keepIn K (.ref fI_NoRow) = true)
    {nm_NoTopic q_NoTopic : Str} {N_NoTopic : Addr} {bs_NoTopic sub_NoTopic : List Value} {sn_NoTopic : List Str} {ab_NoTopic : Bool} {col_NoTopic : Option Bool} {dd_NoTopic : Option Addr} {k0_NoTopic k1_NoTopic k2_NoTopic k3_NoTopic k5_NoTopic : Option Value} (cl_NoTopic : K.lookup e_NoTopic = some (excClassObj nm_NoTopic q_NoTopic e_NoTopic N_NoTopic bs_NoTopic (.ref e_QueueError :: tailE) true sn_NoTopic sub_NoTopic ab_NoTopic col_NoTopic dd_NoTopic k0_NoTopic k1_NoTopic k2_NoTopic k3_NoTopic k5_NoTopic "Exception.__new__"))
    (sa_NoTopic : PySem.W.findIn K (.ref e_NoTopic) "__setattr__" = some (some (.builtin "object.__setattr__"))) (ex_NoTopic : PySem.W.subIn K (.ref e_NoTopic) (.type "BaseException") = some true) (ty_NoTopic : PySem.W.typeIn K (.ref e_NoTopic) = some (.type "type")) (kc_NoTopic : PySem.W.keepIn K (.ref e_NoTopic) = true)
    (xa_NoTopic : PySem.W.findIn K (.ref e_NoTopic) "__getattribute__" = some (some (.builtin "BaseException.__getattribute__"))) (xb_NoTopic : PySem.W.findIn K (.ref e_NoTopic) "__getattr__" = some none) (xd_NoTopic : PySem.W.hasDictIn K e_NoTopic = true) (xe_NoTopic : PySem.W.findIn K (.ref e_NoTopic) "__class__" = some (some (.builtin "object.__class__"))) (xm_NoTopic : PySem.W.mroIn K e_NoTopic (.type "object") = some true)
    (no_NoTopic : PySem.W.findIn K (.ref e_NoTopic) "topic" = some none)
    {fI_NoTopic : Addr} {od_NoTopic an_NoTopic : Option Addr} {sl_NoTopic : Array (Option Value)} {oc_NoTopic kV_NoTopic dc_NoTopic pm_NoTopic cd_NoTopic ct_NoTopic : Value} (ia_NoTopic : PySem.W.findIn K (.ref e_NoTopic) "__init__" = some (some (.ref fI_NoTopic))) (it_NoTopic : PySem.W.typeIn K (.ref fI_NoTopic) = some (.type "function"))
    (il_NoTopic : K.lookup fI_NoTopic = some ⟨oc_NoTopic, od_NoTopic, .func (PySem.W.fnOf "__init__" "NoTopic.__init__" (defArgs si_NoTopic) (defBody si_NoTopic) (defScope si_NoTopic) .none kV_NoTopic dc_NoTopic pm_NoTopic an_NoTopic cd_NoTopic ct_NoTopic), sl_NoTopic⟩) (ic_NoTopic : PySem.W.codeIn K cd_NoTopic "NoTopic.__init__" = true) (ik_NoTopic : PySem.W.keepIn K (.ref fI_NoTopic) = true)
    {nm_NoGroup q_NoGroup : Str} {N_NoGroup : Addr} {bs_NoGroup sub_NoGroup : List Value} {sn_NoGroup : List Str} {ab_NoGroup : Bool} {col_NoGroup : Option Bool} {dd_NoGroup : Option Addr} {k0_NoGroup k1_NoGroup k2_NoGroup k3_NoGroup k5_NoGroup : Option Value} (cl_NoGroup : K.lookup e_NoGroup = some (excClassObj nm_NoGroup q_NoGroup e_NoGroup N_NoGroup bs_NoGroup (.ref e_QueueError :: tailE) true sn_NoGroup sub_NoGroup ab_NoGroup col_NoGroup dd_NoGroup k0_NoGroup k1_NoGroup k2_NoGroup k3_NoGroup k5_NoGroup "Exception.__new__"))
    (sa_NoGroup : PySem.W.findIn K (.ref e_NoGroup) "__setattr__" = some (some (.builtin "object.__setattr__"))) (ex_NoGroup : PySem.W.subIn K (.ref e_NoGroup) (.type "BaseException") = some true) (ty_NoGroup : PySem.W.typeIn K (.ref e_NoGroup) = some (.type "type")) (kc_NoGroup : PySem.W.keepIn K (.ref e_NoGroup) = true)
    (xa_NoGroup : PySem.W.findIn K (.ref e_NoGroup) "__getattribute__" = some (some (.builtin "BaseException.__getattribute__"))) (xb_NoGroup : PySem.W.findIn K (.ref e_NoGroup) "__getattr__" = some none) (xd_NoGroup : PySem.W.hasDictIn K e_NoGroup = true) (xe_NoGroup : PySem.W.findIn K (.ref e_NoGroup) "__class__" = some (some (.builtin "object.__class__"))) (xm_NoGroup : PySem.W.mroIn K e_NoGroup (.type "object") = some true)
    (no_NoGroup : PySem.W.findIn K (.ref e_NoGroup) "group" = some none)
    {fI_NoGroup : Addr} {od_NoGroup an_NoGroup : Option Addr} {sl_NoGroup : Array (Option Value)} {oc_NoGroup kV_NoGroup dc_NoGroup pm_NoGroup cd_NoGroup ct_NoGroup : Value} (ia_NoGroup : PySem.W.findIn K (.ref e_NoGroup) "__init__" = some (some (.ref fI_NoGroup))) (it_NoGroup : PySem.W.typeIn K (.ref fI_NoGroup) = some (.type "function"))
    (il_NoGroup : K.lookup fI_NoGroup = some ⟨oc_NoGroup, od_NoGroup, .func (PySem.W.fnOf "__init__" "NoGroup.__init__" (defArgs si_NoGroup) (defBody si_NoGroup) (defScope si_NoGroup) .none kV_NoGroup dc_NoGroup pm_NoGroup an_NoGroup cd_NoGroup ct_NoGroup), sl_NoGroup⟩) (ic_NoGroup : PySem.W.codeIn K cd_NoGroup "NoGroup.__init__" = true) (ik_NoGroup : PySem.W.keepIn K (.ref fI_NoGroup) = true)
    {nm_NotLeading q_NotLeading : Str} {N_NotLeading : Addr} {bs_NotLeading sub_NotLeading : List Value} {sn_NotLeading : List Str} {ab_NotLeading : Bool} {col_NotLeading : Option Bool} {dd_NotLeading : Option Addr} {k0_NotLeading k1_NotLeading k2_NotLeading k3_NotLeading k5_NotLeading : Option Value} (cl_NotLeading : K.lookup e_NotLeading = some (excClassObj nm_NotLeading q_NotLeading e_NotLeading N_NotLeading bs_NotLeading (.ref e_QueueError :: tailE) true sn_NotLeading sub_NotLeading ab_NotLeading col_NotLeading dd_NotLeading k0_NotLeading k1_NotLeading k2_NotLeading k3_NotLeading k5_NotLeading "Exception.__new__"))
    (sa_NotLeading : PySem.W.findIn K (.ref e_NotLeading) "__setattr__" = some (some (.builtin "object.__setattr__"))) (ex_NotLeading : PySem.W.subIn K (.ref e_NotLeading) (.type "BaseException") = some true) (ty_NotLeading : PySem.W.typeIn K (.ref e_NotLeading) = some (.type "type")) (kc_NotLeading : PySem.W.keepIn K (.ref e_NotLeading) = true)
    (xa_NotLeading : PySem.W.findIn K (.ref e_NotLeading) "__getattribute__" = some (some (.builtin "BaseException.__getattribute__"))) (xb_NotLeading : PySem.W.findIn K (.ref e_NotLeading) "__getattr__" = some none) (xd_NotLeading : PySem.W.hasDictIn K e_NotLeading = true) (xe_NotLeading : PySem.W.findIn K (.ref e_NotLeading) "__class__" = some (some (.builtin "object.__class__"))) (xm_NotLeading : PySem.W.mroIn K e_NotLeading (.type "object") = some true)
    (no_NotLeading : PySem.W.findIn K (.ref e_NotLeading) "leader" = some none)
    {fI_NotLeading : Addr} {od_NotLeading an_NotLeading : Option Addr} {sl_NotLeading : Array (Option Value)} {oc_NotLeading kV_NotLeading dc_NotLeading pm_NotLeading cd_NotLeading ct_NotLeading : Value} (ia_NotLeading : PySem.W.findIn K (.ref e_NotLeading) "__init__" = some (some (.ref fI_NotLeading))) (it_NotLeading : PySem.W.typeIn K (.ref fI_NotLeading) = some (.type "function"))
    (il_NotLeading : K.lookup fI_NotLeading = some ⟨oc_NotLeading, od_NotLeading, .func (PySem.W.fnOf "__init__" "NotLeading.__init__" (defArgs si_NotLeading) (defBody si_NotLeading) (defScope si_NotLeading) .none kV_NotLeading dc_NotLeading pm_NotLeading an_NotLeading cd_NotLeading ct_NotLeading), sl_NotLeading⟩) (ic_NotLeading : PySem.W.codeIn K cd_NotLeading "NotLeading.__init__" = true) (ik_NotLeading : PySem.W.keepIn K (.ref fI_NotLeading) = true)
    {nm_Fallen q_Fallen : Str} {N_Fallen : Addr} {bs_Fallen sub_Fallen : List Value} {sn_Fallen : List Str} {ab_Fallen : Bool} {col_Fallen : Option Bool} {dd_Fallen : Option Addr} {k0_Fallen k1_Fallen k2_Fallen k3_Fallen k5_Fallen : Option Value} (cl_Fallen : K.lookup e_Fallen = some (excClassObj nm_Fallen q_Fallen e_Fallen N_Fallen bs_Fallen (.ref e_QueueError :: tailE) true sn_Fallen sub_Fallen ab_Fallen col_Fallen dd_Fallen k0_Fallen k1_Fallen k2_Fallen k3_Fallen k5_Fallen "Exception.__new__"))
    (sa_Fallen : PySem.W.findIn K (.ref e_Fallen) "__setattr__" = some (some (.builtin "object.__setattr__"))) (ex_Fallen : PySem.W.subIn K (.ref e_Fallen) (.type "BaseException") = some true) (ty_Fallen : PySem.W.typeIn K (.ref e_Fallen) = some (.type "type")) (kc_Fallen : PySem.W.keepIn K (.ref e_Fallen) = true)
    (xa_Fallen : PySem.W.findIn K (.ref e_Fallen) "__getattribute__" = some (some (.builtin "BaseException.__getattribute__"))) (xb_Fallen : PySem.W.findIn K (.ref e_Fallen) "__getattr__" = some none) (xd_Fallen : PySem.W.hasDictIn K e_Fallen = true) (xe_Fallen : PySem.W.findIn K (.ref e_Fallen) "__class__" = some (some (.builtin "object.__class__"))) (xm_Fallen : PySem.W.mroIn K e_Fallen (.type "object") = some true)
    (no_Fallen : PySem.W.findIn K (.ref e_Fallen) "who" = some none)
    {fI_Fallen : Addr} {od_Fallen an_Fallen : Option Addr} {sl_Fallen : Array (Option Value)} {oc_Fallen kV_Fallen dc_Fallen pm_Fallen cd_Fallen ct_Fallen : Value} (ia_Fallen : PySem.W.findIn K (.ref e_Fallen) "__init__" = some (some (.ref fI_Fallen))) (it_Fallen : PySem.W.typeIn K (.ref fI_Fallen) = some (.type "function"))
    (il_Fallen : K.lookup fI_Fallen = some ⟨oc_Fallen, od_Fallen, .func (PySem.W.fnOf "__init__" "Fallen.__init__" (defArgs si_Fallen) (defBody si_Fallen) (defScope si_Fallen) .none kV_Fallen dc_Fallen pm_Fallen an_Fallen cd_Fallen ct_Fallen), sl_Fallen⟩) (ic_Fallen : PySem.W.codeIn K cd_Fallen "Fallen.__init__" = true) (ik_Fallen : PySem.W.keepIn K (.ref fI_Fallen) = true)
    {nm_Held q_Held : Str} {N_Held : Addr} {bs_Held sub_Held : List Value} {sn_Held : List Str} {ab_Held : Bool} {col_Held : Option Bool} {dd_Held : Option Addr} {k0_Held k1_Held k2_Held k3_Held k5_Held : Option Value} (cl_Held : K.lookup e_Held = some (excClassObj nm_Held q_Held e_Held N_Held bs_Held (.ref e_QueueError :: tailE) true sn_Held sub_Held ab_Held col_Held dd_Held k0_Held k1_Held k2_Held k3_Held k5_Held "Exception.__new__"))
    (sa_Held : PySem.W.findIn K (.ref e_Held) "__setattr__" = some (some (.builtin "object.__setattr__"))) (ex_Held : PySem.W.subIn K (.ref e_Held) (.type "BaseException") = some true) (ty_Held : PySem.W.typeIn K (.ref e_Held) = some (.type "type")) (kc_Held : PySem.W.keepIn K (.ref e_Held) = true)
    (xa_Held : PySem.W.findIn K (.ref e_Held) "__getattribute__" = some (some (.builtin "BaseException.__getattribute__"))) (xb_Held : PySem.W.findIn K (.ref e_Held) "__getattr__" = some none) (xd_Held : PySem.W.hasDictIn K e_Held = true) (xe_Held : PySem.W.findIn K (.ref e_Held) "__class__" = some (some (.builtin "object.__class__"))) (xm_Held : PySem.W.mroIn K e_Held (.type "object") = some true)
    (no_Held : PySem.W.findIn K (.ref e_Held) "group" = some none)
    (nt_Held : PySem.W.findIn K (.ref e_Held) "number" = some none)
    {fI_Held : Addr} {od_Held an_Held : Option Addr} {sl_Held : Array (Option Value)} {oc_Held kV_Held dc_Held pm_Held cd_Held ct_Held : Value} (ia_Held : PySem.W.findIn K (.ref e_Held) "__init__" = some (some (.ref fI_Held))) (it_Held : PySem.W.typeIn K (.ref fI_Held) = some (.type "function"))
    (il_Held : K.lookup fI_Held = some ⟨oc_Held, od_Held, .func (PySem.W.fnOf "__init__" "Held.__init__" (defArgs si_Held) (defBody si_Held) (defScope si_Held) .none kV_Held dc_Held pm_Held an_Held cd_Held ct_Held), sl_Held⟩) (ic_Held : PySem.W.codeIn K cd_Held "Held.__init__" = true) (ik_Held : PySem.W.keepIn K (.ref fI_Held) = true)
    {nm_PowerCut q_PowerCut : Str} {N_PowerCut : Addr} {bs_PowerCut sub_PowerCut : List Value} {sn_PowerCut : List Str} {ab_PowerCut : Bool} {col_PowerCut : Option Bool} {dd_PowerCut : Option Addr} {k0_PowerCut k1_PowerCut k2_PowerCut k3_PowerCut k5_PowerCut : Option Value} (cl_PowerCut : K.lookup e_PowerCut = some (excClassObj nm_PowerCut q_PowerCut e_PowerCut N_PowerCut bs_PowerCut (.ref e_QueueError :: tailE) true sn_PowerCut sub_PowerCut ab_PowerCut col_PowerCut dd_PowerCut k0_PowerCut k1_PowerCut k2_PowerCut k3_PowerCut k5_PowerCut "Exception.__new__"))
    (sa_PowerCut : PySem.W.findIn K (.ref e_PowerCut) "__setattr__" = some (some (.builtin "object.__setattr__"))) (ex_PowerCut : PySem.W.subIn K (.ref e_PowerCut) (.type "BaseException") = some true) (ty_PowerCut : PySem.W.typeIn K (.ref e_PowerCut) = some (.type "type")) (kc_PowerCut : PySem.W.keepIn K (.ref e_PowerCut) = true)
    (xa_PowerCut : PySem.W.findIn K (.ref e_PowerCut) "__getattribute__" = some (some (.builtin "BaseException.__getattribute__"))) (xb_PowerCut : PySem.W.findIn K (.ref e_PowerCut) "__getattr__" = some none) (xd_PowerCut : PySem.W.hasDictIn K e_PowerCut = true) (xe_PowerCut : PySem.W.findIn K (.ref e_PowerCut) "__class__" = some (some (.builtin "object.__class__"))) (xm_PowerCut : PySem.W.mroIn K e_PowerCut (.type "object") = some true)
    (zx_PowerCut : PySem.W.excIn K e_PowerCut [.type "Exception", .type "BaseException", .type "object"] "Exception.__new__" = true)
    (znd : ([e_InvalidAct, e_InvalidActs, e_InvalidBrokers, e_InvalidCommand, e_InvalidCommands, e_InvalidCount, e_InvalidDisk, e_InvalidItems, e_InvalidKeeps, e_InvalidLetter, e_InvalidLine, e_InvalidName, e_InvalidNumber, e_InvalidPicture, e_InvalidState, e_InvalidTerm, e_InvalidText, e_InvalidValue, e_InvalidWorld, e_TooLong, e_NoFile, e_NoRow, e_NoTopic, e_NoGroup, e_NotLeading, e_Fallen, e_Held, e_PowerCut, e_QueueError] : List Addr).Nodup)
    (z_isinstance : PySem.W.nsIn K mainGlobals "isinstance" = some none)
    (z_Exception : PySem.W.nsIn K mainGlobals "Exception" = some none)
    (z_range : PySem.W.nsIn K mainGlobals "range" = some none)
    (z_len : PySem.W.nsIn K mainGlobals "len" = some none)
    (z_int : PySem.W.nsIn K mainGlobals "int" = some none)
    (z_abs : PySem.W.nsIn K mainGlobals "abs" = some none)
    (z_sum : PySem.W.nsIn K mainGlobals "sum" = some none)
    (z_dict : PySem.W.nsIn K mainGlobals "dict" = some none)
    (z_repr : PySem.W.nsIn K mainGlobals "repr" = some none)
    (z_max : PySem.W.nsIn K mainGlobals "max" = some none)
    (z_min : PySem.W.nsIn K mainGlobals "min" = some none)
    : ∃ fd : FuncData, (∀ (s : Shared) (v : Value), BindsTo s fd ⟨[v], []⟩ [("_law_script", v)]) ∧ ∀ base : Heap, K.In base → base.Ns mainGlobals mg → FnG l.prog w K mg base CX0 4 fa fd ["_law_script"] (sp_law K) := by
  have hl : PySem.W.nsIn K mainGlobals "law" = some (some (.ref f42)) := a42
  have e := hfa.symm.trans (PySem.W.mg_of X G a42)
  cases e
  have EC_InvalidAct : ErrC K e_InvalidAct e_QueueError := ⟨⟨nm_InvalidAct, q_InvalidAct, N_InvalidAct, bs_InvalidAct, sn_InvalidAct, sub_InvalidAct, ab_InvalidAct, col_InvalidAct, dd_InvalidAct, k0_InvalidAct, k1_InvalidAct, k2_InvalidAct, k3_InvalidAct, k5_InvalidAct, cl_InvalidAct⟩, sa_InvalidAct, ex_InvalidAct, ty_InvalidAct, kc_InvalidAct⟩
  have EC_InvalidActs : ErrC K e_InvalidActs e_QueueError := ⟨⟨nm_InvalidActs, q_InvalidActs, N_InvalidActs, bs_InvalidActs, sn_InvalidActs, sub_InvalidActs, ab_InvalidActs, col_InvalidActs, dd_InvalidActs, k0_InvalidActs, k1_InvalidActs, k2_InvalidActs, k3_InvalidActs, k5_InvalidActs, cl_InvalidActs⟩, sa_InvalidActs, ex_InvalidActs, ty_InvalidActs, kc_InvalidActs⟩
  have EC_InvalidBrokers : ErrC K e_InvalidBrokers e_QueueError := ⟨⟨nm_InvalidBrokers, q_InvalidBrokers, N_InvalidBrokers, bs_InvalidBrokers, sn_InvalidBrokers, sub_InvalidBrokers, ab_InvalidBrokers, col_InvalidBrokers, dd_InvalidBrokers, k0_InvalidBrokers, k1_InvalidBrokers, k2_InvalidBrokers, k3_InvalidBrokers, k5_InvalidBrokers, cl_InvalidBrokers⟩, sa_InvalidBrokers, ex_InvalidBrokers, ty_InvalidBrokers, kc_InvalidBrokers⟩
  have EC_InvalidCommand : ErrC K e_InvalidCommand e_QueueError := ⟨⟨nm_InvalidCommand, q_InvalidCommand, N_InvalidCommand, bs_InvalidCommand, sn_InvalidCommand, sub_InvalidCommand, ab_InvalidCommand, col_InvalidCommand, dd_InvalidCommand, k0_InvalidCommand, k1_InvalidCommand, k2_InvalidCommand, k3_InvalidCommand, k5_InvalidCommand, cl_InvalidCommand⟩, sa_InvalidCommand, ex_InvalidCommand, ty_InvalidCommand, kc_InvalidCommand⟩
  have EC_InvalidCommands : ErrC K e_InvalidCommands e_QueueError := ⟨⟨nm_InvalidCommands, q_InvalidCommands, N_InvalidCommands, bs_InvalidCommands, sn_InvalidCommands, sub_InvalidCommands, ab_InvalidCommands, col_InvalidCommands, dd_InvalidCommands, k0_InvalidCommands, k1_InvalidCommands, k2_InvalidCommands, k3_InvalidCommands, k5_InvalidCommands, cl_InvalidCommands⟩, sa_InvalidCommands, ex_InvalidCommands, ty_InvalidCommands, kc_InvalidCommands⟩
  have EC_InvalidCount : ErrC K e_InvalidCount e_QueueError := ⟨⟨nm_InvalidCount, q_InvalidCount, N_InvalidCount, bs_InvalidCount, sn_InvalidCount, sub_InvalidCount, ab_InvalidCount, col_InvalidCount, dd_InvalidCount, k0_InvalidCount, k1_InvalidCount, k2_InvalidCount, k3_InvalidCount, k5_InvalidCount, cl_InvalidCount⟩, sa_InvalidCount, ex_InvalidCount, ty_InvalidCount, kc_InvalidCount⟩
  have EC_InvalidDisk : ErrC K e_InvalidDisk e_QueueError := ⟨⟨nm_InvalidDisk, q_InvalidDisk, N_InvalidDisk, bs_InvalidDisk, sn_InvalidDisk, sub_InvalidDisk, ab_InvalidDisk, col_InvalidDisk, dd_InvalidDisk, k0_InvalidDisk, k1_InvalidDisk, k2_InvalidDisk, k3_InvalidDisk, k5_InvalidDisk, cl_InvalidDisk⟩, sa_InvalidDisk, ex_InvalidDisk, ty_InvalidDisk, kc_InvalidDisk⟩
  have EC_InvalidItems : ErrC K e_InvalidItems e_QueueError := ⟨⟨nm_InvalidItems, q_InvalidItems, N_InvalidItems, bs_InvalidItems, sn_InvalidItems, sub_InvalidItems, ab_InvalidItems, col_InvalidItems, dd_InvalidItems, k0_InvalidItems, k1_InvalidItems, k2_InvalidItems, k3_InvalidItems, k5_InvalidItems, cl_InvalidItems⟩, sa_InvalidItems, ex_InvalidItems, ty_InvalidItems, kc_InvalidItems⟩
  have EC_InvalidKeeps : ErrC K e_InvalidKeeps e_QueueError := ⟨⟨nm_InvalidKeeps, q_InvalidKeeps, N_InvalidKeeps, bs_InvalidKeeps, sn_InvalidKeeps, sub_InvalidKeeps, ab_InvalidKeeps, col_InvalidKeeps, dd_InvalidKeeps, k0_InvalidKeeps, k1_InvalidKeeps, k2_InvalidKeeps, k3_InvalidKeeps, k5_InvalidKeeps, cl_InvalidKeeps⟩, sa_InvalidKeeps, ex_InvalidKeeps, ty_InvalidKeeps, kc_InvalidKeeps⟩
  have EC_InvalidLetter : ErrC K e_InvalidLetter e_QueueError := ⟨⟨nm_InvalidLetter, q_InvalidLetter, N_InvalidLetter, bs_InvalidLetter, sn_InvalidLetter, sub_InvalidLetter, ab_InvalidLetter, col_InvalidLetter, dd_InvalidLetter, k0_InvalidLetter, k1_InvalidLetter, k2_InvalidLetter, k3_InvalidLetter, k5_InvalidLetter, cl_InvalidLetter⟩, sa_InvalidLetter, ex_InvalidLetter, ty_InvalidLetter, kc_InvalidLetter⟩
  have EC_InvalidLine : ErrC K e_InvalidLine e_QueueError := ⟨⟨nm_InvalidLine, q_InvalidLine, N_InvalidLine, bs_InvalidLine, sn_InvalidLine, sub_InvalidLine, ab_InvalidLine, col_InvalidLine, dd_InvalidLine, k0_InvalidLine, k1_InvalidLine, k2_InvalidLine, k3_InvalidLine, k5_InvalidLine, cl_InvalidLine⟩, sa_InvalidLine, ex_InvalidLine, ty_InvalidLine, kc_InvalidLine⟩
  have EC_InvalidName : ErrC K e_InvalidName e_QueueError := ⟨⟨nm_InvalidName, q_InvalidName, N_InvalidName, bs_InvalidName, sn_InvalidName, sub_InvalidName, ab_InvalidName, col_InvalidName, dd_InvalidName, k0_InvalidName, k1_InvalidName, k2_InvalidName, k3_InvalidName, k5_InvalidName, cl_InvalidName⟩, sa_InvalidName, ex_InvalidName, ty_InvalidName, kc_InvalidName⟩
  have EC_InvalidNumber : ErrC K e_InvalidNumber e_QueueError := ⟨⟨nm_InvalidNumber, q_InvalidNumber, N_InvalidNumber, bs_InvalidNumber, sn_InvalidNumber, sub_InvalidNumber, ab_InvalidNumber, col_InvalidNumber, dd_InvalidNumber, k0_InvalidNumber, k1_InvalidNumber, k2_InvalidNumber, k3_InvalidNumber, k5_InvalidNumber, cl_InvalidNumber⟩, sa_InvalidNumber, ex_InvalidNumber, ty_InvalidNumber, kc_InvalidNumber⟩
  have EC_InvalidPicture : ErrC K e_InvalidPicture e_QueueError := ⟨⟨nm_InvalidPicture, q_InvalidPicture, N_InvalidPicture, bs_InvalidPicture, sn_InvalidPicture, sub_InvalidPicture, ab_InvalidPicture, col_InvalidPicture, dd_InvalidPicture, k0_InvalidPicture, k1_InvalidPicture, k2_InvalidPicture, k3_InvalidPicture, k5_InvalidPicture, cl_InvalidPicture⟩, sa_InvalidPicture, ex_InvalidPicture, ty_InvalidPicture, kc_InvalidPicture⟩
  have EC_InvalidState : ErrC K e_InvalidState e_QueueError := ⟨⟨nm_InvalidState, q_InvalidState, N_InvalidState, bs_InvalidState, sn_InvalidState, sub_InvalidState, ab_InvalidState, col_InvalidState, dd_InvalidState, k0_InvalidState, k1_InvalidState, k2_InvalidState, k3_InvalidState, k5_InvalidState, cl_InvalidState⟩, sa_InvalidState, ex_InvalidState, ty_InvalidState, kc_InvalidState⟩
  have EC_InvalidTerm : ErrC K e_InvalidTerm e_QueueError := ⟨⟨nm_InvalidTerm, q_InvalidTerm, N_InvalidTerm, bs_InvalidTerm, sn_InvalidTerm, sub_InvalidTerm, ab_InvalidTerm, col_InvalidTerm, dd_InvalidTerm, k0_InvalidTerm, k1_InvalidTerm, k2_InvalidTerm, k3_InvalidTerm, k5_InvalidTerm, cl_InvalidTerm⟩, sa_InvalidTerm, ex_InvalidTerm, ty_InvalidTerm, kc_InvalidTerm⟩
  have EC_InvalidText : ErrC K e_InvalidText e_QueueError := ⟨⟨nm_InvalidText, q_InvalidText, N_InvalidText, bs_InvalidText, sn_InvalidText, sub_InvalidText, ab_InvalidText, col_InvalidText, dd_InvalidText, k0_InvalidText, k1_InvalidText, k2_InvalidText, k3_InvalidText, k5_InvalidText, cl_InvalidText⟩, sa_InvalidText, ex_InvalidText, ty_InvalidText, kc_InvalidText⟩
  have EC_InvalidValue : ErrC K e_InvalidValue e_QueueError := ⟨⟨nm_InvalidValue, q_InvalidValue, N_InvalidValue, bs_InvalidValue, sn_InvalidValue, sub_InvalidValue, ab_InvalidValue, col_InvalidValue, dd_InvalidValue, k0_InvalidValue, k1_InvalidValue, k2_InvalidValue, k3_InvalidValue, k5_InvalidValue, cl_InvalidValue⟩, sa_InvalidValue, ex_InvalidValue, ty_InvalidValue, kc_InvalidValue⟩
  have EC_InvalidWorld : ErrC K e_InvalidWorld e_QueueError := ⟨⟨nm_InvalidWorld, q_InvalidWorld, N_InvalidWorld, bs_InvalidWorld, sn_InvalidWorld, sub_InvalidWorld, ab_InvalidWorld, col_InvalidWorld, dd_InvalidWorld, k0_InvalidWorld, k1_InvalidWorld, k2_InvalidWorld, k3_InvalidWorld, k5_InvalidWorld, cl_InvalidWorld⟩, sa_InvalidWorld, ex_InvalidWorld, ty_InvalidWorld, kc_InvalidWorld⟩
  have EC_TooLong : ErrC K e_TooLong e_QueueError := ⟨⟨nm_TooLong, q_TooLong, N_TooLong, bs_TooLong, sn_TooLong, sub_TooLong, ab_TooLong, col_TooLong, dd_TooLong, k0_TooLong, k1_TooLong, k2_TooLong, k3_TooLong, k5_TooLong, cl_TooLong⟩, sa_TooLong, ex_TooLong, ty_TooLong, kc_TooLong⟩
  have EC_NoFile : ErrC K e_NoFile e_QueueError := ⟨⟨nm_NoFile, q_NoFile, N_NoFile, bs_NoFile, sn_NoFile, sub_NoFile, ab_NoFile, col_NoFile, dd_NoFile, k0_NoFile, k1_NoFile, k2_NoFile, k3_NoFile, k5_NoFile, cl_NoFile⟩, sa_NoFile, ex_NoFile, ty_NoFile, kc_NoFile⟩
  have EC_NoRow : ErrC K e_NoRow e_QueueError := ⟨⟨nm_NoRow, q_NoRow, N_NoRow, bs_NoRow, sn_NoRow, sub_NoRow, ab_NoRow, col_NoRow, dd_NoRow, k0_NoRow, k1_NoRow, k2_NoRow, k3_NoRow, k5_NoRow, cl_NoRow⟩, sa_NoRow, ex_NoRow, ty_NoRow, kc_NoRow⟩
  have EC_NoTopic : ErrC K e_NoTopic e_QueueError := ⟨⟨nm_NoTopic, q_NoTopic, N_NoTopic, bs_NoTopic, sn_NoTopic, sub_NoTopic, ab_NoTopic, col_NoTopic, dd_NoTopic, k0_NoTopic, k1_NoTopic, k2_NoTopic, k3_NoTopic, k5_NoTopic, cl_NoTopic⟩, sa_NoTopic, ex_NoTopic, ty_NoTopic, kc_NoTopic⟩
  have EC_NoGroup : ErrC K e_NoGroup e_QueueError := ⟨⟨nm_NoGroup, q_NoGroup, N_NoGroup, bs_NoGroup, sn_NoGroup, sub_NoGroup, ab_NoGroup, col_NoGroup, dd_NoGroup, k0_NoGroup, k1_NoGroup, k2_NoGroup, k3_NoGroup, k5_NoGroup, cl_NoGroup⟩, sa_NoGroup, ex_NoGroup, ty_NoGroup, kc_NoGroup⟩
  have EC_NotLeading : ErrC K e_NotLeading e_QueueError := ⟨⟨nm_NotLeading, q_NotLeading, N_NotLeading, bs_NotLeading, sn_NotLeading, sub_NotLeading, ab_NotLeading, col_NotLeading, dd_NotLeading, k0_NotLeading, k1_NotLeading, k2_NotLeading, k3_NotLeading, k5_NotLeading, cl_NotLeading⟩, sa_NotLeading, ex_NotLeading, ty_NotLeading, kc_NotLeading⟩
  have EC_Fallen : ErrC K e_Fallen e_QueueError := ⟨⟨nm_Fallen, q_Fallen, N_Fallen, bs_Fallen, sn_Fallen, sub_Fallen, ab_Fallen, col_Fallen, dd_Fallen, k0_Fallen, k1_Fallen, k2_Fallen, k3_Fallen, k5_Fallen, cl_Fallen⟩, sa_Fallen, ex_Fallen, ty_Fallen, kc_Fallen⟩
  have EC_Held : ErrC K e_Held e_QueueError := ⟨⟨nm_Held, q_Held, N_Held, bs_Held, sn_Held, sub_Held, ab_Held, col_Held, dd_Held, k0_Held, k1_Held, k2_Held, k3_Held, k5_Held, cl_Held⟩, sa_Held, ex_Held, ty_Held, kc_Held⟩
  have EC_PowerCut : ErrC K e_PowerCut e_QueueError := ⟨⟨nm_PowerCut, q_PowerCut, N_PowerCut, bs_PowerCut, sn_PowerCut, sub_PowerCut, ab_PowerCut, col_PowerCut, dd_PowerCut, k0_PowerCut, k1_PowerCut, k2_PowerCut, k3_PowerCut, k5_PowerCut, cl_PowerCut⟩, sa_PowerCut, ex_PowerCut, ty_PowerCut, kc_PowerCut⟩
  have T : Txt K mg e_InvalidAct e_InvalidActs e_InvalidBrokers e_InvalidCommand e_InvalidCommands e_InvalidCount e_InvalidDisk e_InvalidItems e_InvalidKeeps e_InvalidLetter e_InvalidLine e_InvalidName e_InvalidNumber e_InvalidPicture e_InvalidState e_InvalidTerm e_InvalidText e_InvalidValue e_InvalidWorld e_TooLong e_NoFile e_NoRow e_NoTopic e_NoGroup e_NotLeading e_Fallen e_Held e_PowerCut e_QueueError := ⟨PySem.W.mg_of X G ga_InvalidAct, ga_InvalidAct, PySem.W.mg_of X G ga_InvalidActs, ga_InvalidActs, PySem.W.mg_of X G ga_InvalidBrokers, ga_InvalidBrokers, PySem.W.mg_of X G ga_InvalidCommand, ga_InvalidCommand, PySem.W.mg_of X G ga_InvalidCommands, ga_InvalidCommands, PySem.W.mg_of X G ga_InvalidCount, ga_InvalidCount, PySem.W.mg_of X G ga_InvalidDisk, ga_InvalidDisk, PySem.W.mg_of X G ga_InvalidItems, ga_InvalidItems, PySem.W.mg_of X G ga_InvalidKeeps, ga_InvalidKeeps, PySem.W.mg_of X G ga_InvalidLetter, ga_InvalidLetter, PySem.W.mg_of X G ga_InvalidLine, ga_InvalidLine, PySem.W.mg_of X G ga_InvalidName, ga_InvalidName, PySem.W.mg_of X G ga_InvalidNumber, ga_InvalidNumber, PySem.W.mg_of X G ga_InvalidPicture, ga_InvalidPicture, PySem.W.mg_of X G ga_InvalidState, ga_InvalidState, PySem.W.mg_of X G ga_InvalidTerm, ga_InvalidTerm, PySem.W.mg_of X G ga_InvalidText, ga_InvalidText, PySem.W.mg_of X G ga_InvalidValue, ga_InvalidValue, PySem.W.mg_of X G ga_InvalidWorld, ga_InvalidWorld, PySem.W.mg_of X G ga_TooLong, ga_TooLong, PySem.W.mg_of X G ga_NoFile, ga_NoFile, PySem.W.mg_of X G ga_NoRow, ga_NoRow, PySem.W.mg_of X G ga_NoTopic, ga_NoTopic, PySem.W.mg_of X G ga_NoGroup, ga_NoGroup, PySem.W.mg_of X G ga_NotLeading, ga_NotLeading, PySem.W.mg_of X G ga_Fallen, ga_Fallen, PySem.W.mg_of X G ga_Held, ga_Held, PySem.W.mg_of X G ga_PowerCut, ga_PowerCut, PySem.W.mg_of X G ga_QueueError, ga_QueueError, ⟨⟨xa_InvalidAct, xb_InvalidAct, ex_InvalidAct, xd_InvalidAct⟩, ty_InvalidAct, xe_InvalidAct, zhn, zht, xm_InvalidAct⟩, EC_InvalidAct, no_InvalidAct, ⟨⟨xa_InvalidActs, xb_InvalidActs, ex_InvalidActs, xd_InvalidActs⟩, ty_InvalidActs, xe_InvalidActs, zhn, zht, xm_InvalidActs⟩, EC_InvalidActs, no_InvalidActs, ⟨⟨xa_InvalidBrokers, xb_InvalidBrokers, ex_InvalidBrokers, xd_InvalidBrokers⟩, ty_InvalidBrokers, xe_InvalidBrokers, zhn, zht, xm_InvalidBrokers⟩, EC_InvalidBrokers, no_InvalidBrokers, ⟨⟨xa_InvalidCommand, xb_InvalidCommand, ex_InvalidCommand, xd_InvalidCommand⟩, ty_InvalidCommand, xe_InvalidCommand, zhn, zht, xm_InvalidCommand⟩, EC_InvalidCommand, no_InvalidCommand, ⟨⟨xa_InvalidCommands, xb_InvalidCommands, ex_InvalidCommands, xd_InvalidCommands⟩, ty_InvalidCommands, xe_InvalidCommands, zhn, zht, xm_InvalidCommands⟩, EC_InvalidCommands, no_InvalidCommands, ⟨⟨xa_InvalidCount, xb_InvalidCount, ex_InvalidCount, xd_InvalidCount⟩, ty_InvalidCount, xe_InvalidCount, zhn, zht, xm_InvalidCount⟩, EC_InvalidCount, no_InvalidCount, ⟨⟨xa_InvalidDisk, xb_InvalidDisk, ex_InvalidDisk, xd_InvalidDisk⟩, ty_InvalidDisk, xe_InvalidDisk, zhn, zht, xm_InvalidDisk⟩, EC_InvalidDisk, no_InvalidDisk, ⟨⟨xa_InvalidItems, xb_InvalidItems, ex_InvalidItems, xd_InvalidItems⟩, ty_InvalidItems, xe_InvalidItems, zhn, zht, xm_InvalidItems⟩, EC_InvalidItems, no_InvalidItems, ⟨⟨xa_InvalidKeeps, xb_InvalidKeeps, ex_InvalidKeeps, xd_InvalidKeeps⟩, ty_InvalidKeeps, xe_InvalidKeeps, zhn, zht, xm_InvalidKeeps⟩, EC_InvalidKeeps, no_InvalidKeeps, ⟨⟨xa_InvalidLetter, xb_InvalidLetter, ex_InvalidLetter, xd_InvalidLetter⟩, ty_InvalidLetter, xe_InvalidLetter, zhn, zht, xm_InvalidLetter⟩, EC_InvalidLetter, no_InvalidLetter, ⟨⟨xa_InvalidLine, xb_InvalidLine, ex_InvalidLine, xd_InvalidLine⟩, ty_InvalidLine, xe_InvalidLine, zhn, zht, xm_InvalidLine⟩, EC_InvalidLine, no_InvalidLine, ⟨⟨xa_InvalidName, xb_InvalidName, ex_InvalidName, xd_InvalidName⟩, ty_InvalidName, xe_InvalidName, zhn, zht, xm_InvalidName⟩, EC_InvalidName, no_InvalidName, ⟨⟨xa_InvalidNumber, xb_InvalidNumber, ex_InvalidNumber, xd_InvalidNumber⟩, ty_InvalidNumber, xe_InvalidNumber, zhn, zht, xm_InvalidNumber⟩, EC_InvalidNumber, no_InvalidNumber, ⟨⟨xa_InvalidPicture, xb_InvalidPicture, ex_InvalidPicture, xd_InvalidPicture⟩, ty_InvalidPicture, xe_InvalidPicture, zhn, zht, xm_InvalidPicture⟩, EC_InvalidPicture, no_InvalidPicture, ⟨⟨xa_InvalidState, xb_InvalidState, ex_InvalidState, xd_InvalidState⟩, ty_InvalidState, xe_InvalidState, zhn, zht, xm_InvalidState⟩, EC_InvalidState, no_InvalidState, ⟨⟨xa_InvalidTerm, xb_InvalidTerm, ex_InvalidTerm, xd_InvalidTerm⟩, ty_InvalidTerm, xe_InvalidTerm, zhn, zht, xm_InvalidTerm⟩, EC_InvalidTerm, no_InvalidTerm, ⟨⟨xa_InvalidText, xb_InvalidText, ex_InvalidText, xd_InvalidText⟩, ty_InvalidText, xe_InvalidText, zhn, zht, xm_InvalidText⟩, EC_InvalidText, no_InvalidText, ⟨⟨xa_InvalidValue, xb_InvalidValue, ex_InvalidValue, xd_InvalidValue⟩, ty_InvalidValue, xe_InvalidValue, zhn, zht, xm_InvalidValue⟩, EC_InvalidValue, no_InvalidValue, ⟨⟨xa_InvalidWorld, xb_InvalidWorld, ex_InvalidWorld, xd_InvalidWorld⟩, ty_InvalidWorld, xe_InvalidWorld, zhn, zht, xm_InvalidWorld⟩, EC_InvalidWorld, no_InvalidWorld, ⟨⟨xa_TooLong, xb_TooLong, ex_TooLong, xd_TooLong⟩, ty_TooLong, xe_TooLong, zhn, zht, xm_TooLong⟩, EC_TooLong, no_TooLong, ⟨⟨xa_NoFile, xb_NoFile, ex_NoFile, xd_NoFile⟩, ty_NoFile, xe_NoFile, zhn, zht, xm_NoFile⟩, EC_NoFile, no_NoFile, ⟨⟨xa_NoRow, xb_NoRow, ex_NoRow, xd_NoRow⟩, ty_NoRow, xe_NoRow, zhn, zht, xm_NoRow⟩, EC_NoRow, no_NoRow, ⟨⟨xa_NoTopic, xb_NoTopic, ex_NoTopic, xd_NoTopic⟩, ty_NoTopic, xe_NoTopic, zhn, zht, xm_NoTopic⟩, EC_NoTopic, no_NoTopic, ⟨⟨xa_NoGroup, xb_NoGroup, ex_NoGroup, xd_NoGroup⟩, ty_NoGroup, xe_NoGroup, zhn, zht, xm_NoGroup⟩, EC_NoGroup, no_NoGroup, ⟨⟨xa_NotLeading, xb_NotLeading, ex_NotLeading, xd_NotLeading⟩, ty_NotLeading, xe_NotLeading, zhn, zht, xm_NotLeading⟩, EC_NotLeading, no_NotLeading, ⟨⟨xa_Fallen, xb_Fallen, ex_Fallen, xd_Fallen⟩, ty_Fallen, xe_Fallen, zhn, zht, xm_Fallen⟩, EC_Fallen, no_Fallen, ⟨⟨xa_Held, xb_Held, ex_Held, xd_Held⟩, ty_Held, xe_Held, zhn, zht, xm_Held⟩, EC_Held, no_Held, nt_Held, ⟨⟨xa_PowerCut, xb_PowerCut, ex_PowerCut, xd_PowerCut⟩, ty_PowerCut, xe_PowerCut, zhn, zht, xm_PowerCut⟩, EC_PowerCut, ⟨.type "type", qa_QueueError, qb_QueueError, qc_QueueError⟩, ex_QueueError, xd_QueueError, ty_QueueError, znd, PySem.W.mg_none_of X G z_isinstance, PySem.W.mg_none_of X G z_Exception, PySem.W.mg_none_of X G z_range, PySem.W.mg_none_of X G z_len, PySem.W.mg_none_of X G z_int, PySem.W.mg_none_of X G z_abs, PySem.W.mg_none_of X G z_sum, PySem.W.mg_none_of X G z_dict, PySem.W.mg_none_of X G z_repr, PySem.W.mg_none_of X G z_max, PySem.W.mg_none_of X G z_min⟩
  have D__law_sorts : Df K mg "_law_sorts" s__law_sorts ["_law_e"] := df_mk X G a36 l36 c36 k36 fun _ _ _ _ _ _ us hl => match us, hl with | [_], _ => rfl
  have D__law_is : Df K mg "_law_is" s__law_is ["_law_e", "_law_spot"] := df_mk X G a37 l37 c37 k37 fun _ _ _ _ _ _ us hl => match us, hl with | [_, _], _ => rfl
  have D__law_box : Df K mg "_law_box" s__law_box ["_law_great"] := df_mk X G a32 l32 c32 k32 fun _ _ _ _ _ _ us hl => match us, hl with | [_], _ => rfl
  have D__law_cell : Df K mg "_law_cell" s__law_cell ["_law_script", "_law_k"] := df_mk X G a31 l31 c31 k31 fun _ _ _ _ _ _ us hl => match us, hl with | [_, _], _ => rfl
  have D__law_take : Df K mg "_law_take" s__law_take ["_law_box_here", "_law_many"] := df_mk X G a33 l33 c33 k33 fun _ _ _ _ _ _ us hl => match us, hl with | [_, _], _ => rfl
  have D__law_thing : Df K mg "_law_thing" s__law_thing ["_law_box_here"] := df_mk X G a39 l39 c39 k39 fun _ _ _ _ _ _ us hl => match us, hl with | [_], _ => rfl
  have D__law_by_place : Df K mg "_law_by_place" s__law_by_place ["_law_thing_here"] := df_mk X G a34 l34 c34 k34 fun _ _ _ _ _ _ us hl => match us, hl with | [_], _ => rfl
  have D__law_by_name : Df K mg "_law_by_name" s__law_by_name ["_law_thing_here"] := df_mk X G a35 l35 c35 k35 fun _ _ _ _ _ _ us hl => match us, hl with | [_], _ => rfl
  have D__law_kept : Df K mg "_law_kept" s__law_kept ["_law_e"] := df_mk X G a38 l38 c38 k38 fun _ _ _ _ _ _ us hl => match us, hl with | [_], _ => rfl
  have D__law_pairs : Df K mg "_law_pairs" s__law_pairs ["_law_first", "_law_last"] := df_mk X G a41 l41 c41 k41 fun _ _ _ _ _ _ us hl => match us, hl with | [_, _], _ => rfl
  have D__law_caught : Df K mg "_law_caught" s__law_caught ["_law_way", "_law_thing_here", "_law_other"] := df_mk X G a40 l40 c40 k40 fun _ _ _ _ _ _ us hl => match us, hl with | [_, _, _], _ => rfl
  have D_law : Df K mg "law" s_law ["_law_script"] := df_mk X G a42 l42 c42 k42 fun _ _ _ _ _ _ us hl => match us, hl with | [_], _ => rfl
  refine ⟨PySem.W.fnOf "law" "law" (defArgs s_law) (defBody s_law) (defScope s_law) .none kV42 dc42 pm42 an42 cd42 ct42, fun s v => .of_eq rfl, fun base _ _ => ?_⟩
  have R_InvalidCommand : Er l.prog w K mg base 1 "InvalidCommand" "given" e_InvalidCommand := ⟨PySem.W.mg_of X G ga_InvalidCommand, e_QueueError, fI_InvalidCommand, _, ["self", "given"], EC_InvalidCommand, ia_InvalidCommand, it_InvalidCommand, oki_InvalidCommand T (fun_mk il_InvalidCommand ic_InvalidCommand ik_InvalidCommand), (fun_mk il_InvalidCommand ic_InvalidCommand ik_InvalidCommand).binds fun _ _ _ _ _ _ us hl => match us, hl with | [_, _], _ => rfl⟩
  have R_InvalidBrokers : Er l.prog w K mg base 1 "InvalidBrokers" "given" e_InvalidBrokers := ⟨PySem.W.mg_of X G ga_InvalidBrokers, e_QueueError, fI_InvalidBrokers, _, ["self", "given"], EC_InvalidBrokers, ia_InvalidBrokers, it_InvalidBrokers, oki_InvalidBrokers T (fun_mk il_InvalidBrokers ic_InvalidBrokers ik_InvalidBrokers), (fun_mk il_InvalidBrokers ic_InvalidBrokers ik_InvalidBrokers).binds fun _ _ _ _ _ _ us hl => match us, hl with | [_, _], _ => rfl⟩
  have R_InvalidActs : Er l.prog w K mg base 1 "InvalidActs" "given" e_InvalidActs := ⟨PySem.W.mg_of X G ga_InvalidActs, e_QueueError, fI_InvalidActs, _, ["self", "given"], EC_InvalidActs, ia_InvalidActs, it_InvalidActs, oki_InvalidActs T (fun_mk il_InvalidActs ic_InvalidActs ik_InvalidActs), (fun_mk il_InvalidActs ic_InvalidActs ik_InvalidActs).binds fun _ _ _ _ _ _ us hl => match us, hl with | [_, _], _ => rfl⟩
  have R_InvalidAct : Er l.prog w K mg base 1 "InvalidAct" "given" e_InvalidAct := ⟨PySem.W.mg_of X G ga_InvalidAct, e_QueueError, fI_InvalidAct, _, ["self", "given"], EC_InvalidAct, ia_InvalidAct, it_InvalidAct, oki_InvalidAct T (fun_mk il_InvalidAct ic_InvalidAct ik_InvalidAct), (fun_mk il_InvalidAct ic_InvalidAct ik_InvalidAct).binds fun _ _ _ _ _ _ us hl => match us, hl with | [_, _], _ => rfl⟩
  have R_InvalidItems : Er l.prog w K mg base 1 "InvalidItems" "given" e_InvalidItems := ⟨PySem.W.mg_of X G ga_InvalidItems, e_QueueError, fI_InvalidItems, _, ["self", "given"], EC_InvalidItems, ia_InvalidItems, it_InvalidItems, oki_InvalidItems T (fun_mk il_InvalidItems ic_InvalidItems ik_InvalidItems), (fun_mk il_InvalidItems ic_InvalidItems ik_InvalidItems).binds fun _ _ _ _ _ _ us hl => match us, hl with | [_, _], _ => rfl⟩
  have R_InvalidDisk : Er l.prog w K mg base 1 "InvalidDisk" "given" e_InvalidDisk := ⟨PySem.W.mg_of X G ga_InvalidDisk, e_QueueError, fI_InvalidDisk, _, ["self", "given"], EC_InvalidDisk, ia_InvalidDisk, it_InvalidDisk, oki_InvalidDisk T (fun_mk il_InvalidDisk ic_InvalidDisk ik_InvalidDisk), (fun_mk il_InvalidDisk ic_InvalidDisk ik_InvalidDisk).binds fun _ _ _ _ _ _ us hl => match us, hl with | [_, _], _ => rfl⟩
  have R_InvalidCount : Er l.prog w K mg base 1 "InvalidCount" "given" e_InvalidCount := ⟨PySem.W.mg_of X G ga_InvalidCount, e_QueueError, fI_InvalidCount, _, ["self", "given"], EC_InvalidCount, ia_InvalidCount, it_InvalidCount, oki_InvalidCount T (fun_mk il_InvalidCount ic_InvalidCount ik_InvalidCount), (fun_mk il_InvalidCount ic_InvalidCount ik_InvalidCount).binds fun _ _ _ _ _ _ us hl => match us, hl with | [_, _], _ => rfl⟩
  have R_InvalidCommands : Er l.prog w K mg base 1 "InvalidCommands" "given" e_InvalidCommands := ⟨PySem.W.mg_of X G ga_InvalidCommands, e_QueueError, fI_InvalidCommands, _, ["self", "given"], EC_InvalidCommands, ia_InvalidCommands, it_InvalidCommands, oki_InvalidCommands T (fun_mk il_InvalidCommands ic_InvalidCommands ik_InvalidCommands), (fun_mk il_InvalidCommands ic_InvalidCommands ik_InvalidCommands).binds fun _ _ _ _ _ _ us hl => match us, hl with | [_, _], _ => rfl⟩
  have R_InvalidName : Er l.prog w K mg base 1 "InvalidName" "given" e_InvalidName := ⟨PySem.W.mg_of X G ga_InvalidName, e_QueueError, fI_InvalidName, _, ["self", "given"], EC_InvalidName, ia_InvalidName, it_InvalidName, oki_InvalidName T (fun_mk il_InvalidName ic_InvalidName ik_InvalidName), (fun_mk il_InvalidName ic_InvalidName ik_InvalidName).binds fun _ _ _ _ _ _ us hl => match us, hl with | [_, _], _ => rfl⟩
  have R_InvalidLine : Er l.prog w K mg base 1 "InvalidLine" "given" e_InvalidLine := ⟨PySem.W.mg_of X G ga_InvalidLine, e_QueueError, fI_InvalidLine, _, ["self", "given"], EC_InvalidLine, ia_InvalidLine, it_InvalidLine, oki_InvalidLine T (fun_mk il_InvalidLine ic_InvalidLine ik_InvalidLine), (fun_mk il_InvalidLine ic_InvalidLine ik_InvalidLine).binds fun _ _ _ _ _ _ us hl => match us, hl with | [_, _], _ => rfl⟩
  have R_InvalidLetter : Er l.prog w K mg base 1 "InvalidLetter" "given" e_InvalidLetter := ⟨PySem.W.mg_of X G ga_InvalidLetter, e_QueueError, fI_InvalidLetter, _, ["self", "given"], EC_InvalidLetter, ia_InvalidLetter, it_InvalidLetter, oki_InvalidLetter T (fun_mk il_InvalidLetter ic_InvalidLetter ik_InvalidLetter), (fun_mk il_InvalidLetter ic_InvalidLetter ik_InvalidLetter).binds fun _ _ _ _ _ _ us hl => match us, hl with | [_, _], _ => rfl⟩
  have R_InvalidKeeps : Er l.prog w K mg base 1 "InvalidKeeps" "given" e_InvalidKeeps := ⟨PySem.W.mg_of X G ga_InvalidKeeps, e_QueueError, fI_InvalidKeeps, _, ["self", "given"], EC_InvalidKeeps, ia_InvalidKeeps, it_InvalidKeeps, oki_InvalidKeeps T (fun_mk il_InvalidKeeps ic_InvalidKeeps ik_InvalidKeeps), (fun_mk il_InvalidKeeps ic_InvalidKeeps ik_InvalidKeeps).binds fun _ _ _ _ _ _ us hl => match us, hl with | [_, _], _ => rfl⟩
  have R_InvalidTerm : Er l.prog w K mg base 1 "InvalidTerm" "given" e_InvalidTerm := ⟨PySem.W.mg_of X G ga_InvalidTerm, e_QueueError, fI_InvalidTerm, _, ["self", "given"], EC_InvalidTerm, ia_InvalidTerm, it_InvalidTerm, oki_InvalidTerm T (fun_mk il_InvalidTerm ic_InvalidTerm ik_InvalidTerm), (fun_mk il_InvalidTerm ic_InvalidTerm ik_InvalidTerm).binds fun _ _ _ _ _ _ us hl => match us, hl with | [_, _], _ => rfl⟩
  have R_InvalidState : Er l.prog w K mg base 1 "InvalidState" "given" e_InvalidState := ⟨PySem.W.mg_of X G ga_InvalidState, e_QueueError, fI_InvalidState, _, ["self", "given"], EC_InvalidState, ia_InvalidState, it_InvalidState, oki_InvalidState T (fun_mk il_InvalidState ic_InvalidState ik_InvalidState), (fun_mk il_InvalidState ic_InvalidState ik_InvalidState).binds fun _ _ _ _ _ _ us hl => match us, hl with | [_, _], _ => rfl⟩
  have R_InvalidPicture : Er l.prog w K mg base 1 "InvalidPicture" "given" e_InvalidPicture := ⟨PySem.W.mg_of X G ga_InvalidPicture, e_QueueError, fI_InvalidPicture, _, ["self", "given"], EC_InvalidPicture, ia_InvalidPicture, it_InvalidPicture, oki_InvalidPicture T (fun_mk il_InvalidPicture ic_InvalidPicture ik_InvalidPicture), (fun_mk il_InvalidPicture ic_InvalidPicture ik_InvalidPicture).binds fun _ _ _ _ _ _ us hl => match us, hl with | [_, _], _ => rfl⟩
  have R_InvalidNumber : Er l.prog w K mg base 1 "InvalidNumber" "given" e_InvalidNumber := ⟨PySem.W.mg_of X G ga_InvalidNumber, e_QueueError, fI_InvalidNumber, _, ["self", "given"], EC_InvalidNumber, ia_InvalidNumber, it_InvalidNumber, oki_InvalidNumber T (fun_mk il_InvalidNumber ic_InvalidNumber ik_InvalidNumber), (fun_mk il_InvalidNumber ic_InvalidNumber ik_InvalidNumber).binds fun _ _ _ _ _ _ us hl => match us, hl with | [_, _], _ => rfl⟩
  have R_NoFile : Er l.prog w K mg base 1 "NoFile" "name" e_NoFile := ⟨PySem.W.mg_of X G ga_NoFile, e_QueueError, fI_NoFile, _, ["self", "name"], EC_NoFile, ia_NoFile, it_NoFile, oki_NoFile T (fun_mk il_NoFile ic_NoFile ik_NoFile), (fun_mk il_NoFile ic_NoFile ik_NoFile).binds fun _ _ _ _ _ _ us hl => match us, hl with | [_, _], _ => rfl⟩
  have R_TooLong : Er l.prog w K mg base 1 "TooLong" "signs" e_TooLong := ⟨PySem.W.mg_of X G ga_TooLong, e_QueueError, fI_TooLong, _, ["self", "signs"], EC_TooLong, ia_TooLong, it_TooLong, oki_TooLong T (fun_mk il_TooLong ic_TooLong ik_TooLong), (fun_mk il_TooLong ic_TooLong ik_TooLong).binds fun _ _ _ _ _ _ us hl => match us, hl with | [_, _], _ => rfl⟩
  have R_InvalidWorld : Er l.prog w K mg base 1 "InvalidWorld" "given" e_InvalidWorld := ⟨PySem.W.mg_of X G ga_InvalidWorld, e_QueueError, fI_InvalidWorld, _, ["self", "given"], EC_InvalidWorld, ia_InvalidWorld, it_InvalidWorld, oki_InvalidWorld T (fun_mk il_InvalidWorld ic_InvalidWorld ik_InvalidWorld), (fun_mk il_InvalidWorld ic_InvalidWorld ik_InvalidWorld).binds fun _ _ _ _ _ _ us hl => match us, hl with | [_, _], _ => rfl⟩
  have R_InvalidValue : Er l.prog w K mg base 1 "InvalidValue" "given" e_InvalidValue := ⟨PySem.W.mg_of X G ga_InvalidValue, e_QueueError, fI_InvalidValue, _, ["self", "given"], EC_InvalidValue, ia_InvalidValue, it_InvalidValue, oki_InvalidValue T (fun_mk il_InvalidValue ic_InvalidValue ik_InvalidValue), (fun_mk il_InvalidValue ic_InvalidValue ik_InvalidValue).binds fun _ _ _ _ _ _ us hl => match us, hl with | [_, _], _ => rfl⟩
  have R_InvalidText : Er l.prog w K mg base 1 "InvalidText" "given" e_InvalidText := ⟨PySem.W.mg_of X G ga_InvalidText, e_QueueError, fI_InvalidText, _, ["self", "given"], EC_InvalidText, ia_InvalidText, it_InvalidText, oki_InvalidText T (fun_mk il_InvalidText ic_InvalidText ik_InvalidText), (fun_mk il_InvalidText ic_InvalidText ik_InvalidText).binds fun _ _ _ _ _ _ us hl => match us, hl with | [_, _], _ => rfl⟩
  have R_Fallen : Er l.prog w K mg base 1 "Fallen" "who" e_Fallen := ⟨PySem.W.mg_of X G ga_Fallen, e_QueueError, fI_Fallen, _, ["self", "who"], EC_Fallen, ia_Fallen, it_Fallen, oki_Fallen T (fun_mk il_Fallen ic_Fallen ik_Fallen), (fun_mk il_Fallen ic_Fallen ik_Fallen).binds fun _ _ _ _ _ _ us hl => match us, hl with | [_, _], _ => rfl⟩
  have R_NotLeading : Er l.prog w K mg base 1 "NotLeading" "leader" e_NotLeading := ⟨PySem.W.mg_of X G ga_NotLeading, e_QueueError, fI_NotLeading, _, ["self", "leader"], EC_NotLeading, ia_NotLeading, it_NotLeading, oki_NotLeading T (fun_mk il_NotLeading ic_NotLeading ik_NotLeading), (fun_mk il_NotLeading ic_NotLeading ik_NotLeading).binds fun _ _ _ _ _ _ us hl => match us, hl with | [_, _], _ => rfl⟩
  have R_NoGroup : Er l.prog w K mg base 1 "NoGroup" "group" e_NoGroup := ⟨PySem.W.mg_of X G ga_NoGroup, e_QueueError, fI_NoGroup, _, ["self", "group"], EC_NoGroup, ia_NoGroup, it_NoGroup, oki_NoGroup T (fun_mk il_NoGroup ic_NoGroup ik_NoGroup), (fun_mk il_NoGroup ic_NoGroup ik_NoGroup).binds fun _ _ _ _ _ _ us hl => match us, hl with | [_, _], _ => rfl⟩
  have R_NoTopic : Er l.prog w K mg base 1 "NoTopic" "topic" e_NoTopic := ⟨PySem.W.mg_of X G ga_NoTopic, e_QueueError, fI_NoTopic, _, ["self", "topic"], EC_NoTopic, ia_NoTopic, it_NoTopic, oki_NoTopic T (fun_mk il_NoTopic ic_NoTopic ik_NoTopic), (fun_mk il_NoTopic ic_NoTopic ik_NoTopic).binds fun _ _ _ _ _ _ us hl => match us, hl with | [_, _], _ => rfl⟩
  have R_NoRow : Er l.prog w K mg base 1 "NoRow" "index" e_NoRow := ⟨PySem.W.mg_of X G ga_NoRow, e_QueueError, fI_NoRow, _, ["self", "index"], EC_NoRow, ia_NoRow, it_NoRow, oki_NoRow T (fun_mk il_NoRow ic_NoRow ik_NoRow), (fun_mk il_NoRow ic_NoRow ik_NoRow).binds fun _ _ _ _ _ _ us hl => match us, hl with | [_, _], _ => rfl⟩
  have RK_InvalidBrokers_given : ErK l.prog w K mg base 1 "InvalidBrokers" ["given"] (fun l => l) e_InvalidBrokers (spIni e_InvalidBrokers "given") := ⟨PySem.W.mg_of X G ga_InvalidBrokers, e_QueueError, fI_InvalidBrokers, _, ["self", "given"], EC_InvalidBrokers, ia_InvalidBrokers, it_InvalidBrokers, oki_InvalidBrokers T (fun_mk il_InvalidBrokers ic_InvalidBrokers ik_InvalidBrokers), fun _ _ ws hl => .of_eq (match ws, hl with | [_], _ => rfl), (fun r => r)⟩
  have RK_InvalidActs_given : ErK l.prog w K mg base 1 "InvalidActs" ["given"] (fun l => l) e_InvalidActs (spIni e_InvalidActs "given") := ⟨PySem.W.mg_of X G ga_InvalidActs, e_QueueError, fI_InvalidActs, _, ["self", "given"], EC_InvalidActs, ia_InvalidActs, it_InvalidActs, oki_InvalidActs T (fun_mk il_InvalidActs ic_InvalidActs ik_InvalidActs), fun _ _ ws hl => .of_eq (match ws, hl with | [_], _ => rfl), (fun r => r)⟩
  have RK_InvalidAct_given : ErK l.prog w K mg base 1 "InvalidAct" ["given"] (fun l => l) e_InvalidAct (spIni e_InvalidAct "given") := ⟨PySem.W.mg_of X G ga_InvalidAct, e_QueueError, fI_InvalidAct, _, ["self", "given"], EC_InvalidAct, ia_InvalidAct, it_InvalidAct, oki_InvalidAct T (fun_mk il_InvalidAct ic_InvalidAct ik_InvalidAct), fun _ _ ws hl => .of_eq (match ws, hl with | [_], _ => rfl), (fun r => r)⟩
  have RK_InvalidCount_given : ErK l.prog w K mg base 1 "InvalidCount" ["given"] (fun l => l) e_InvalidCount (spIni e_InvalidCount "given") := ⟨PySem.W.mg_of X G ga_InvalidCount, e_QueueError, fI_InvalidCount, _, ["self", "given"], EC_InvalidCount, ia_InvalidCount, it_InvalidCount, oki_InvalidCount T (fun_mk il_InvalidCount ic_InvalidCount ik_InvalidCount), fun _ _ ws hl => .of_eq (match ws, hl with | [_], _ => rfl), (fun r => r)⟩
  have RK_InvalidCommands_given : ErK l.prog w K mg base 1 "InvalidCommands" ["given"] (fun l => l) e_InvalidCommands (spIni e_InvalidCommands "given") := ⟨PySem.W.mg_of X G ga_InvalidCommands, e_QueueError, fI_InvalidCommands, _, ["self", "given"], EC_InvalidCommands, ia_InvalidCommands, it_InvalidCommands, oki_InvalidCommands T (fun_mk il_InvalidCommands ic_InvalidCommands ik_InvalidCommands), fun _ _ ws hl => .of_eq (match ws, hl with | [_], _ => rfl), (fun r => r)⟩
  have RK_InvalidCommand_given : ErK l.prog w K mg base 1 "InvalidCommand" ["given"] (fun l => l) e_InvalidCommand (spIni e_InvalidCommand "given") := ⟨PySem.W.mg_of X G ga_InvalidCommand, e_QueueError, fI_InvalidCommand, _, ["self", "given"], EC_InvalidCommand, ia_InvalidCommand, it_InvalidCommand, oki_InvalidCommand T (fun_mk il_InvalidCommand ic_InvalidCommand ik_InvalidCommand), fun _ _ ws hl => .of_eq (match ws, hl with | [_], _ => rfl), (fun r => r)⟩
  have RK_InvalidKeeps_given : ErK l.prog w K mg base 1 "InvalidKeeps" ["given"] (fun l => l) e_InvalidKeeps (spIni e_InvalidKeeps "given") := ⟨PySem.W.mg_of X G ga_InvalidKeeps, e_QueueError, fI_InvalidKeeps, _, ["self", "given"], EC_InvalidKeeps, ia_InvalidKeeps, it_InvalidKeeps, oki_InvalidKeeps T (fun_mk il_InvalidKeeps ic_InvalidKeeps ik_InvalidKeeps), fun _ _ ws hl => .of_eq (match ws, hl with | [_], _ => rfl), (fun r => r)⟩
  have RK_InvalidItems_given : ErK l.prog w K mg base 1 "InvalidItems" ["given"] (fun l => l) e_InvalidItems (spIni e_InvalidItems "given") := ⟨PySem.W.mg_of X G ga_InvalidItems, e_QueueError, fI_InvalidItems, _, ["self", "given"], EC_InvalidItems, ia_InvalidItems, it_InvalidItems, oki_InvalidItems T (fun_mk il_InvalidItems ic_InvalidItems ik_InvalidItems), fun _ _ ws hl => .of_eq (match ws, hl with | [_], _ => rfl), (fun r => r)⟩
  have RK_InvalidDisk_given : ErK l.prog w K mg base 1 "InvalidDisk" ["given"] (fun l => l) e_InvalidDisk (spIni e_InvalidDisk "given") := ⟨PySem.W.mg_of X G ga_InvalidDisk, e_QueueError, fI_InvalidDisk, _, ["self", "given"], EC_InvalidDisk, ia_InvalidDisk, it_InvalidDisk, oki_InvalidDisk T (fun_mk il_InvalidDisk ic_InvalidDisk ik_InvalidDisk), fun _ _ ws hl => .of_eq (match ws, hl with | [_], _ => rfl), (fun r => r)⟩
  have RK_InvalidName_given : ErK l.prog w K mg base 1 "InvalidName" ["given"] (fun l => l) e_InvalidName (spIni e_InvalidName "given") := ⟨PySem.W.mg_of X G ga_InvalidName, e_QueueError, fI_InvalidName, _, ["self", "given"], EC_InvalidName, ia_InvalidName, it_InvalidName, oki_InvalidName T (fun_mk il_InvalidName ic_InvalidName ik_InvalidName), fun _ _ ws hl => .of_eq (match ws, hl with | [_], _ => rfl), (fun r => r)⟩
  have RK_InvalidLine_given : ErK l.prog w K mg base 1 "InvalidLine" ["given"] (fun l => l) e_InvalidLine (spIni e_InvalidLine "given") := ⟨PySem.W.mg_of X G ga_InvalidLine, e_QueueError, fI_InvalidLine, _, ["self", "given"], EC_InvalidLine, ia_InvalidLine, it_InvalidLine, oki_InvalidLine T (fun_mk il_InvalidLine ic_InvalidLine ik_InvalidLine), fun _ _ ws hl => .of_eq (match ws, hl with | [_], _ => rfl), (fun r => r)⟩
  have RK_InvalidLetter_given : ErK l.prog w K mg base 1 "InvalidLetter" ["given"] (fun l => l) e_InvalidLetter (spIni e_InvalidLetter "given") := ⟨PySem.W.mg_of X G ga_InvalidLetter, e_QueueError, fI_InvalidLetter, _, ["self", "given"], EC_InvalidLetter, ia_InvalidLetter, it_InvalidLetter, oki_InvalidLetter T (fun_mk il_InvalidLetter ic_InvalidLetter ik_InvalidLetter), fun _ _ ws hl => .of_eq (match ws, hl with | [_], _ => rfl), (fun r => r)⟩
  have RK_InvalidState_given : ErK l.prog w K mg base 1 "InvalidState" ["given"] (fun l => l) e_InvalidState (spIni e_InvalidState "given") := ⟨PySem.W.mg_of X G ga_InvalidState, e_QueueError, fI_InvalidState, _, ["self", "given"], EC_InvalidState, ia_InvalidState, it_InvalidState, oki_InvalidState T (fun_mk il_InvalidState ic_InvalidState ik_InvalidState), fun _ _ ws hl => .of_eq (match ws, hl with | [_], _ => rfl), (fun r => r)⟩
  have RK_InvalidPicture_given : ErK l.prog w K mg base 1 "InvalidPicture" ["given"] (fun l => l) e_InvalidPicture (spIni e_InvalidPicture "given") := ⟨PySem.W.mg_of X G ga_InvalidPicture, e_QueueError, fI_InvalidPicture, _, ["self", "given"], EC_InvalidPicture, ia_InvalidPicture, it_InvalidPicture, oki_InvalidPicture T (fun_mk il_InvalidPicture ic_InvalidPicture ik_InvalidPicture), fun _ _ ws hl => .of_eq (match ws, hl with | [_], _ => rfl), (fun r => r)⟩
  have RK_InvalidNumber_given : ErK l.prog w K mg base 1 "InvalidNumber" ["given"] (fun l => l) e_InvalidNumber (spIni e_InvalidNumber "given") := ⟨PySem.W.mg_of X G ga_InvalidNumber, e_QueueError, fI_InvalidNumber, _, ["self", "given"], EC_InvalidNumber, ia_InvalidNumber, it_InvalidNumber, oki_InvalidNumber T (fun_mk il_InvalidNumber ic_InvalidNumber ik_InvalidNumber), fun _ _ ws hl => .of_eq (match ws, hl with | [_], _ => rfl), (fun r => r)⟩
  have RK_InvalidValue_given : ErK l.prog w K mg base 1 "InvalidValue" ["given"] (fun l => l) e_InvalidValue (spIni e_InvalidValue "given") := ⟨PySem.W.mg_of X G ga_InvalidValue, e_QueueError, fI_InvalidValue, _, ["self", "given"], EC_InvalidValue, ia_InvalidValue, it_InvalidValue, oki_InvalidValue T (fun_mk il_InvalidValue ic_InvalidValue ik_InvalidValue), fun _ _ ws hl => .of_eq (match ws, hl with | [_], _ => rfl), (fun r => r)⟩
  have RK_InvalidText_given : ErK l.prog w K mg base 1 "InvalidText" ["given"] (fun l => l) e_InvalidText (spIni e_InvalidText "given") := ⟨PySem.W.mg_of X G ga_InvalidText, e_QueueError, fI_InvalidText, _, ["self", "given"], EC_InvalidText, ia_InvalidText, it_InvalidText, oki_InvalidText T (fun_mk il_InvalidText ic_InvalidText ik_InvalidText), fun _ _ ws hl => .of_eq (match ws, hl with | [_], _ => rfl), (fun r => r)⟩
  have RK_InvalidTerm_given : ErK l.prog w K mg base 1 "InvalidTerm" ["given"] (fun l => l) e_InvalidTerm (spIni e_InvalidTerm "given") := ⟨PySem.W.mg_of X G ga_InvalidTerm, e_QueueError, fI_InvalidTerm, _, ["self", "given"], EC_InvalidTerm, ia_InvalidTerm, it_InvalidTerm, oki_InvalidTerm T (fun_mk il_InvalidTerm ic_InvalidTerm ik_InvalidTerm), fun _ _ ws hl => .of_eq (match ws, hl with | [_], _ => rfl), (fun r => r)⟩
  have RK_NoRow_index : ErK l.prog w K mg base 1 "NoRow" ["index"] (fun l => l) e_NoRow (spIni e_NoRow "index") := ⟨PySem.W.mg_of X G ga_NoRow, e_QueueError, fI_NoRow, _, ["self", "index"], EC_NoRow, ia_NoRow, it_NoRow, oki_NoRow T (fun_mk il_NoRow ic_NoRow ik_NoRow), fun _ _ ws hl => .of_eq (match ws, hl with | [_], _ => rfl), (fun r => r)⟩
  have RK_NoFile_name : ErK l.prog w K mg base 1 "NoFile" ["name"] (fun l => l) e_NoFile (spIni e_NoFile "name") := ⟨PySem.W.mg_of X G ga_NoFile, e_QueueError, fI_NoFile, _, ["self", "name"], EC_NoFile, ia_NoFile, it_NoFile, oki_NoFile T (fun_mk il_NoFile ic_NoFile ik_NoFile), fun _ _ ws hl => .of_eq (match ws, hl with | [_], _ => rfl), (fun r => r)⟩
  have RK_TooLong_signs : ErK l.prog w K mg base 1 "TooLong" ["signs"] (fun l => l) e_TooLong (spIni e_TooLong "signs") := ⟨PySem.W.mg_of X G ga_TooLong, e_QueueError, fI_TooLong, _, ["self", "signs"], EC_TooLong, ia_TooLong, it_TooLong, oki_TooLong T (fun_mk il_TooLong ic_TooLong ik_TooLong), fun _ _ ws hl => .of_eq (match ws, hl with | [_], _ => rfl), (fun r => r)⟩
  have RK_InvalidWorld_given : ErK l.prog w K mg base 1 "InvalidWorld" ["given"] (fun l => l) e_InvalidWorld (spIni e_InvalidWorld "given") := ⟨PySem.W.mg_of X G ga_InvalidWorld, e_QueueError, fI_InvalidWorld, _, ["self", "given"], EC_InvalidWorld, ia_InvalidWorld, it_InvalidWorld, oki_InvalidWorld T (fun_mk il_InvalidWorld ic_InvalidWorld ik_InvalidWorld), fun _ _ ws hl => .of_eq (match ws, hl with | [_], _ => rfl), (fun r => r)⟩
  have RK_Fallen_who : ErK l.prog w K mg base 1 "Fallen" ["who"] (fun l => l) e_Fallen (spIni e_Fallen "who") := ⟨PySem.W.mg_of X G ga_Fallen, e_QueueError, fI_Fallen, _, ["self", "who"], EC_Fallen, ia_Fallen, it_Fallen, oki_Fallen T (fun_mk il_Fallen ic_Fallen ik_Fallen), fun _ _ ws hl => .of_eq (match ws, hl with | [_], _ => rfl), (fun r => r)⟩
  have RK_NotLeading_leader : ErK l.prog w K mg base 1 "NotLeading" ["leader"] (fun l => l) e_NotLeading (spIni e_NotLeading "leader") := ⟨PySem.W.mg_of X G ga_NotLeading, e_QueueError, fI_NotLeading, _, ["self", "leader"], EC_NotLeading, ia_NotLeading, it_NotLeading, oki_NotLeading T (fun_mk il_NotLeading ic_NotLeading ik_NotLeading), fun _ _ ws hl => .of_eq (match ws, hl with | [_], _ => rfl), (fun r => r)⟩
  have RK_NoGroup_group : ErK l.prog w K mg base 1 "NoGroup" ["group"] (fun l => l) e_NoGroup (spIni e_NoGroup "group") := ⟨PySem.W.mg_of X G ga_NoGroup, e_QueueError, fI_NoGroup, _, ["self", "group"], EC_NoGroup, ia_NoGroup, it_NoGroup, oki_NoGroup T (fun_mk il_NoGroup ic_NoGroup ik_NoGroup), fun _ _ ws hl => .of_eq (match ws, hl with | [_], _ => rfl), (fun r => r)⟩
  have RK_NoTopic_topic : ErK l.prog w K mg base 1 "NoTopic" ["topic"] (fun l => l) e_NoTopic (spIni e_NoTopic "topic") := ⟨PySem.W.mg_of X G ga_NoTopic, e_QueueError, fI_NoTopic, _, ["self", "topic"], EC_NoTopic, ia_NoTopic, it_NoTopic, oki_NoTopic T (fun_mk il_NoTopic ic_NoTopic ik_NoTopic), fun _ _ ws hl => .of_eq (match ws, hl with | [_], _ => rfl), (fun r => r)⟩
  have RK_Held_number_group : ErK l.prog w K mg base 1 "Held" ["number", "group"] perm_1_0 e_Held (spIni2 e_Held "group" "number") := ⟨PySem.W.mg_of X G ga_Held, e_QueueError, fI_Held, _, ["self", "group", "number"], EC_Held, ia_Held, it_Held, oki_Held T (fun_mk il_Held ic_Held ik_Held), fun _ _ ws hl => .of_eq (match ws, hl with | [_, _], _ => rfl), perm_1_0_ok⟩
  have RK_Held_group_number : ErK l.prog w K mg base 1 "Held" ["group", "number"] perm_0_1 e_Held (spIni2 e_Held "group" "number") := ⟨PySem.W.mg_of X G ga_Held, e_QueueError, fI_Held, _, ["self", "group", "number"], EC_Held, ia_Held, it_Held, oki_Held T (fun_mk il_Held ic_Held ik_Held), fun _ _ ws hl => .of_eq (match ws, hl with | [_, _], _ => rfl), perm_0_1_ok⟩
  have R_Held : Er2 l.prog w K mg base 1 "Held" "group" "number" e_Held := ⟨PySem.W.mg_of X G ga_Held, e_QueueError, fI_Held, _, ["self", "group", "number"], EC_Held, ia_Held, it_Held, oki_Held T (fun_mk il_Held ic_Held ik_Held), (fun_mk il_Held ic_Held ik_Held).binds fun _ _ _ _ _ _ us hl => match us, hl with | [_, _, _], _ => rfl⟩
  have R_PowerCut : Er0 K mg "PowerCut" e_PowerCut := ⟨PySem.W.mg_of X G ga_PowerCut, zx_PowerCut, kc_PowerCut, ex_PowerCut, ty_PowerCut⟩
  have C__law_sorts : Cw l.prog w K mg base 1 "_law_sorts" ["_law_e"] (sp__law_sorts K) := ok__law_sorts T D__law_sorts
  have C__law_is : Cw l.prog w K mg base 2 "_law_is" ["_law_e", "_law_spot"] (sp__law_is K) := ok__law_is T C__law_sorts D__law_is
  have C__law_box : Ct l.prog w K mg base CX0 1 "_law_box" ["_law_great"] (sp__law_box K) := ok__law_box T D__law_box
  have C__law_cell : Ct l.prog w K mg base CX0 1 "_law_cell" ["_law_script", "_law_k"] (sp__law_cell K) := ok__law_cell T D__law_cell
  have C__law_take : Ct l.prog w K mg base CX0 1 "_law_take" ["_law_box_here", "_law_many"] (sp__law_take K) := ok__law_take T D__law_take
  have C__law_thing : Ct l.prog w K mg base CX0 2 "_law_thing" ["_law_box_here"] (sp__law_thing K) := ok__law_thing T C__law_take D__law_thing
  have C__law_by_place : Ct l.prog w K mg base CX0 3 "_law_by_place" ["_law_thing_here"] (sp__law_by_place K) := ok__law_by_place T R_InvalidCommand R_InvalidBrokers R_InvalidActs R_InvalidAct R_InvalidItems R_InvalidDisk R_InvalidCount R_InvalidCommands R_InvalidName R_InvalidLine R_InvalidLetter R_InvalidKeeps R_InvalidTerm R_InvalidState R_InvalidPicture R_InvalidNumber R_NoFile R_TooLong R_InvalidWorld R_InvalidValue R_InvalidText R_Fallen R_NotLeading R_NoGroup R_NoTopic R_NoRow D__law_by_place
  have C__law_by_name : Ct l.prog w K mg base CX0 3 "_law_by_name" ["_law_thing_here"] (sp__law_by_name K) := ok__law_by_name T RK_InvalidBrokers_given RK_InvalidActs_given RK_InvalidAct_given RK_InvalidCount_given RK_InvalidCommands_given RK_InvalidCommand_given RK_InvalidKeeps_given RK_InvalidItems_given RK_InvalidDisk_given RK_InvalidName_given RK_InvalidLine_given RK_InvalidLetter_given RK_InvalidState_given RK_InvalidPicture_given RK_InvalidNumber_given RK_InvalidValue_given RK_InvalidText_given RK_InvalidTerm_given RK_NoRow_index RK_NoFile_name RK_TooLong_signs RK_InvalidWorld_given RK_Fallen_who RK_NotLeading_leader RK_NoGroup_group RK_NoTopic_topic D__law_by_name
  have C__law_kept : Cw l.prog w K mg base 1 "_law_kept" ["_law_e"] (sp__law_kept K) := ok__law_kept T D__law_kept
  have C__law_pairs : Cg l.prog w K mg base CX0 3 "_law_pairs" ["_law_first", "_law_last"] (sp__law_pairs K) := ok__law_pairs T RK_Held_number_group RK_Held_group_number R_Held C__law_is D__law_pairs
  have C__law_caught : Cg l.prog w K mg base CX0 3 "_law_caught" ["_law_way", "_law_thing_here", "_law_other"] (sp__law_caught K) := ok__law_caught T R_NoRow RK_InvalidLetter_given RK_Held_number_group R_PowerCut C__law_is C__law_kept D__law_caught
  have C_law : Cg l.prog w K mg base CX0 4 "law" ["_law_script"] (sp_law K) := ok_law T R_PowerCut RK_Held_number_group R_Held C__law_is C__law_box C__law_cell C__law_thing C__law_by_place C__law_by_name C__law_kept C__law_pairs C__law_caught D_law
  exact law_gn C_law hfa l42
theorem walk {l : PySem.W.OpenLaw} {q : Program} {loose : List Str} {XP : (Str → Option Value) → Heap → Prop} {YP : World → Heap → Prop} {d : DefRec} {K : Params → PySem.W.Frag} (hn : l.most = some 63) (hdf : d.params.defaults = [])
    (hY : ∀ (w : World) (h : Heap), YP w h → (K w.params).In h)
    (F : ∀ (w : World) (mg : Str → Option Value) (fa : Addr) (h : Heap), (K w.params).In h → h.Ns mainGlobals mg → mg d.name = some (.ref fa) →
      ∃ fd : FuncData, (∀ (s : Shared) (u : Value), BindsTo s fd ⟨[u], []⟩ [("_law_script", u)]) ∧ ∀ base : Heap, (K w.params).In base → base.Ns mainGlobals mg → FnG l.prog w (K w.params) mg base CX0 4 fa fd ["_law_script"] (sp_law (K w.params))) :
    PySem.W.WalkO q loose XP YP l.row.toRowW d [] (fun f vs => PySem.call f vs) :=
  walk_g (n := 63) (k := 4) (x := "_law_script") (CX := CX0) (sp := fun w => sp_law (K w.params)) hn (by decide) hdf ⟨⟨rfl, by decide, by decide⟩, rfl⟩ hY F (fun _ _ a ns hl hS => law_asks a ns hl hS) fun _ _ _ _ z => z
end L00_

open PySem PySem.W PyProof.Rows in
set_option maxRecDepth 100000 in
set_option maxHeartbeats 0 in
theorem PySem.Challenge.cw_inorderonce_k00_errors_holds : PySem.Challenge.rw_inorderonce_k00_errors.Holds := by
  w_on; o_law; k_head; (case hw => w_witness2)
  k_fill
  refine L00_.walk (l := PySem.Challenge.rw_inorderonce_k00_errors) rfl rfl (fun w h Y => PySem.W.kIn_of Y) ?F
  case F =>
    intro w mg fa h KX G hmg
    refine' L00_.all_mk KX G hmg ?a36 ?l36 ?c36 ?k36 ?a37 ?l37 ?c37 ?k37 ?a32 ?l32 ?c32 ?k32 ?a31 ?l31 ?c31 ?k31 ?a33 ?l33 ?c33 ?k33 ?a39 ?l39 ?c39 ?k39 ?a34 ?l34 ?c34 ?k34 ?a35 ?l35 ?c35 ?k35 ?a38 ?l38 ?c38 ?k38 ?a41 ?l41 ?c41 ?k41 ?a40 ?l40 ?c40 ?k40 ?a42 ?l42 ?c42 ?k42 ?zhn ?zht ?ga_InvalidAct ?ga_InvalidActs ?ga_InvalidBrokers ?ga_InvalidCommand ?ga_InvalidCommands ?ga_InvalidCount ?ga_InvalidDisk ?ga_InvalidItems ?ga_InvalidKeeps ?ga_InvalidLetter ?ga_InvalidLine ?ga_InvalidName ?ga_InvalidNumber ?ga_InvalidPicture ?ga_InvalidState ?ga_InvalidTerm ?ga_InvalidText ?ga_InvalidValue ?ga_InvalidWorld ?ga_TooLong ?ga_NoFile ?ga_NoRow ?ga_NoTopic ?ga_NoGroup ?ga_NotLeading ?ga_Fallen ?ga_Held ?ga_PowerCut ?ga_QueueError ?xd_QueueError ?ty_QueueError ?ex_QueueError ?qa_QueueError ?qb_QueueError ?qc_QueueError ?cl_InvalidAct ?sa_InvalidAct ?ex_InvalidAct ?ty_InvalidAct ?kc_InvalidAct ?xa_InvalidAct ?xb_InvalidAct ?xd_InvalidAct ?xe_InvalidAct ?xm_InvalidAct ?no_InvalidAct ?ia_InvalidAct ?it_InvalidAct ?il_InvalidAct ?ic_InvalidAct ?ik_InvalidAct ?cl_InvalidActs ?sa_InvalidActs ?ex_InvalidActs ?ty_InvalidActs ?kc_InvalidActs ?xa_InvalidActs ?xb_InvalidActs ?xd_InvalidActs ?xe_InvalidActs ?xm_InvalidActs ?no_InvalidActs ?ia_InvalidActs ?it_InvalidActs ?il_InvalidActs ?ic_InvalidActs ?ik_InvalidActs ?cl_InvalidBrokers ?sa_InvalidBrokers ?ex_InvalidBrokers ?ty_InvalidBrokers ?kc_InvalidBrokers ?xa_InvalidBrokers ?xb_InvalidBrokers ?xd_InvalidBrokers ?xe_InvalidBrokers ?xm_InvalidBrokers ?no_InvalidBrokers ?ia_InvalidBrokers ?it_InvalidBrokers ?il_InvalidBrokers ?ic_InvalidBrokers ?ik_InvalidBrokers ?cl_InvalidCommand ?sa_InvalidCommand ?ex_InvalidCommand ?ty_InvalidCommand ?kc_InvalidCommand ?xa_InvalidCommand ?xb_InvalidCommand ?xd_InvalidCommand ?xe_InvalidCommand ?xm_InvalidCommand ?no_InvalidCommand ?ia_InvalidCommand ?it_InvalidCommand ?il_InvalidCommand ?ic_InvalidCommand ?ik_InvalidCommand ?cl_InvalidCommands ?sa_InvalidCommands ?ex_InvalidCommands ?ty_InvalidCommands ?kc_InvalidCommands ?xa_InvalidCommands ?xb_InvalidCommands ?xd_InvalidCommands ?xe_InvalidCommands ?xm_InvalidCommands ?no_InvalidCommands ?ia_InvalidCommands ?it_InvalidCommands ?il_InvalidCommands ?ic_InvalidCommands ?ik_InvalidCommands ?cl_InvalidCount ?sa_InvalidCount ?ex_InvalidCount ?ty_InvalidCount ?kc_InvalidCount ?xa_InvalidCount ?xb_InvalidCount ?xd_InvalidCount ?xe_InvalidCount ?xm_InvalidCount ?no_InvalidCount ?ia_InvalidCount ?it_InvalidCount ?il_InvalidCount ?ic_InvalidCount ?ik_InvalidCount ?cl_InvalidDisk ?sa_InvalidDisk ?ex_InvalidDisk ?ty_InvalidDisk ?kc_InvalidDisk ?xa_InvalidDisk ?xb_InvalidDisk ?xd_InvalidDisk ?xe_InvalidDisk ?xm_InvalidDisk ?no_InvalidDisk ?ia_InvalidDisk ?it_InvalidDisk ?il_InvalidDisk ?ic_InvalidDisk ?ik_InvalidDisk ?cl_InvalidItems ?sa_InvalidItems ?ex_InvalidItems ?ty_InvalidItems ?kc_InvalidItems ?xa_InvalidItems ?xb_InvalidItems ?xd_InvalidItems ?xe_InvalidItems ?xm_InvalidItems ?no_InvalidItems ?ia_InvalidItems ?it_InvalidItems ?il_InvalidItems ?ic_InvalidItems ?ik_InvalidItems ?cl_InvalidKeeps ?sa_InvalidKeeps ?ex_InvalidKeeps ?ty_InvalidKeeps ?kc_InvalidKeeps ?xa_InvalidKeeps ?xb_InvalidKeeps ?xd_InvalidKeeps ?xe_InvalidKeeps ?xm_InvalidKeeps ?no_InvalidKeeps ?ia_InvalidKeeps ?it_InvalidKeeps ?il_InvalidKeeps ?ic_InvalidKeeps ?ik_InvalidKeeps ?cl_InvalidLetter ?sa_InvalidLetter ?ex_InvalidLetter ?ty_InvalidLetter ?kc_InvalidLetter ?xa_InvalidLetter ?xb_InvalidLetter ?xd_InvalidLetter ?xe_InvalidLetter ?xm_InvalidLetter ?no_InvalidLetter ?ia_InvalidLetter ?it_InvalidLetter ?il_InvalidLetter ?ic_InvalidLetter ?ik_InvalidLetter ?cl_InvalidLine ?sa_InvalidLine ?ex_InvalidLine ?ty_InvalidLine ?kc_InvalidLine ?xa_InvalidLine ?xb_InvalidLine ?xd_InvalidLine ?xe_InvalidLine ?xm_InvalidLine ?no_InvalidLine ?ia_InvalidLine ?it_InvalidLine ?il_InvalidLine ?ic_InvalidLine ?ik_InvalidLine ?cl_InvalidName ?sa_InvalidName ?ex_InvalidName ?ty_InvalidName ?kc_InvalidName ?xa_InvalidName ?xb_InvalidName ?xd_InvalidName ?xe_InvalidName ?xm_InvalidName ?no_InvalidName ?ia_InvalidName ?it_InvalidName ?il_InvalidName ?ic_InvalidName ?ik_InvalidName ?cl_InvalidNumber ?sa_InvalidNumber ?ex_InvalidNumber ?ty_InvalidNumber ?kc_InvalidNumber ?xa_InvalidNumber ?xb_InvalidNumber ?xd_InvalidNumber ?xe_InvalidNumber ?xm_InvalidNumber ?no_InvalidNumber ?ia_InvalidNumber ?it_InvalidNumber ?il_InvalidNumber ?ic_InvalidNumber ?ik_InvalidNumber ?cl_InvalidPicture ?sa_InvalidPicture ?ex_InvalidPicture ?ty_InvalidPicture ?kc_InvalidPicture ?xa_InvalidPicture ?xb_InvalidPicture ?xd_InvalidPicture ?xe_InvalidPicture ?xm_InvalidPicture ?no_InvalidPicture ?ia_InvalidPicture ?it_InvalidPicture ?il_InvalidPicture ?ic_InvalidPicture ?ik_InvalidPicture ?cl_InvalidState ?sa_InvalidState ?ex_InvalidState ?ty_InvalidState ?kc_InvalidState ?xa_InvalidState ?xb_InvalidState ?xd_InvalidState ?xe_InvalidState ?xm_InvalidState ?no_InvalidState ?ia_InvalidState ?it_InvalidState ?il_InvalidState ?ic_InvalidState ?ik_InvalidState ?cl_InvalidTerm ?sa_InvalidTerm ?ex_InvalidTerm ?ty_InvalidTerm ?kc_InvalidTerm ?xa_InvalidTerm ?xb_InvalidTerm ?xd_InvalidTerm ?xe_InvalidTerm ?xm_InvalidTerm ?no_InvalidTerm ?ia_InvalidTerm ?it_InvalidTerm ?il_InvalidTerm ?ic_InvalidTerm ?ik_InvalidTerm ?cl_InvalidText ?sa_InvalidText ?ex_InvalidText ?ty_InvalidText ?kc_InvalidText ?xa_InvalidText ?xb_InvalidText ?xd_InvalidText ?xe_InvalidText ?xm_InvalidText ?no_InvalidText ?ia_InvalidText ?it_InvalidText ?il_InvalidText ?ic_InvalidText ?ik_InvalidText ?cl_InvalidValue ?sa_InvalidValue ?ex_InvalidValue ?ty_InvalidValue ?kc_InvalidValue ?xa_InvalidValue ?xb_InvalidValue ?xd_InvalidValue ?xe_InvalidValue ?xm_InvalidValue ?no_InvalidValue ?ia_InvalidValue ?it_InvalidValue ?il_InvalidValue ?ic_InvalidValue ?ik_InvalidValue ?cl_InvalidWorld ?sa_InvalidWorld ?ex_InvalidWorld ?ty_InvalidWorld ?kc_InvalidWorld ?xa_InvalidWorld ?xb_InvalidWorld ?xd_InvalidWorld ?xe_InvalidWorld ?xm_InvalidWorld ?no_InvalidWorld ?ia_InvalidWorld ?it_InvalidWorld ?il_InvalidWorld ?ic_InvalidWorld ?ik_InvalidWorld ?cl_TooLong ?sa_TooLong ?ex_TooLong ?ty_TooLong ?kc_TooLong ?xa_TooLong ?xb_TooLong ?xd_TooLong ?xe_TooLong ?xm_TooLong ?no_TooLong ?ia_TooLong ?it_TooLong ?il_TooLong ?ic_TooLong ?ik_TooLong ?cl_NoFile ?sa_NoFile ?ex_NoFile ?ty_NoFile ?kc_NoFile ?xa_NoFile ?xb_NoFile ?xd_NoFile ?xe_NoFile ?xm_NoFile ?no_NoFile ?ia_NoFile ?it_NoFile ?il_NoFile ?ic_NoFile ?ik_NoFile ?cl_NoRow ?sa_NoRow ?ex_NoRow ?ty_NoRow ?kc_NoRow ?xa_NoRow ?xb_NoRow ?xd_NoRow ?xe_NoRow ?xm_NoRow ?no_NoRow ?ia_NoRow ?it_NoRow ?il_NoRow ?ic_NoRow ?ik_NoRow ?cl_NoTopic ?sa_NoTopic ?ex_NoTopic ?ty_NoTopic ?kc_NoTopic ?xa_NoTopic ?xb_NoTopic ?xd_NoTopic ?xe_NoTopic ?xm_NoTopic ?no_NoTopic ?ia_NoTopic ?it_NoTopic ?il_NoTopic ?ic_NoTopic ?ik_NoTopic ?cl_NoGroup ?sa_NoGroup ?ex_NoGroup ?ty_NoGroup ?kc_NoGroup ?xa_NoGroup ?xb_NoGroup ?xd_NoGroup ?xe_NoGroup ?xm_NoGroup ?no_NoGroup ?ia_NoGroup ?it_NoGroup ?il_NoGroup ?ic_NoGroup ?ik_NoGroup ?cl_NotLeading ?sa_NotLeading ?ex_NotLeading ?ty_NotLeading ?kc_NotLeading ?xa_NotLeading ?xb_NotLeading ?xd_NotLeading ?xe_NotLeading ?xm_NotLeading ?no_NotLeading ?ia_NotLeading ?it_NotLeading ?il_NotLeading ?ic_NotLeading ?ik_NotLeading ?cl_Fallen ?sa_Fallen ?ex_Fallen ?ty_Fallen ?kc_Fallen ?xa_Fallen ?xb_Fallen ?xd_Fallen ?xe_Fallen ?xm_Fallen ?no_Fallen ?ia_Fallen ?it_Fallen ?il_Fallen ?ic_Fallen ?ik_Fallen ?cl_Held ?sa_Held ?ex_Held ?ty_Held ?kc_Held ?xa_Held ?xb_Held ?xd_Held ?xe_Held ?xm_Held ?no_Held ?nt_Held ?ia_Held ?it_Held ?il_Held ?ic_Held ?ik_Held ?cl_PowerCut ?sa_PowerCut ?ex_PowerCut ?ty_PowerCut ?kc_PowerCut ?xa_PowerCut ?xb_PowerCut ?xd_PowerCut ?xe_PowerCut ?xm_PowerCut ?zx_PowerCut ?znd ?z_isinstance ?z_Exception ?z_range ?z_len ?z_int ?z_abs ?z_sum ?z_dict ?z_repr ?z_max ?z_min
    (case a36 => k_is)
    (case l36 => k_is)
    (case c36 => k_is)
    (case k36 => k_is)
    (case a37 => k_is)
    (case l37 => k_is)
    (case c37 => k_is)
    (case k37 => k_is)
    (case a32 => k_is)
    (case l32 => k_is)
    (case c32 => k_is)
    (case k32 => k_is)
    (case a31 => k_is)
    (case l31 => k_is)
    (case c31 => k_is)
    (case k31 => k_is)
    (case a33 => k_is)
    (case l33 => k_is)
    (case c33 => k_is)
    (case k33 => k_is)
    (case a39 => k_is)
    (case l39 => k_is)
    (case c39 => k_is)
    (case k39 => k_is)
    (case a34 => k_is)
    (case l34 => k_is)
    (case c34 => k_is)
    (case k34 => k_is)
    (case a35 => k_is)
    (case l35 => k_is)
    (case c35 => k_is)
    (case k35 => k_is)
    (case a38 => k_is)
    (case l38 => k_is)
    (case c38 => k_is)
    (case k38 => k_is)
    (case a41 => k_is)
    (case l41 => k_is)
    (case c41 => k_is)
    (case k41 => k_is)
    (case a40 => k_is)
    (case l40 => k_is)
    (case c40 => k_is)
    (case k40 => k_is)
    (case a42 => k_is)
    (case l42 => k_is)
    (case c42 => k_is)
    (case k42 => k_is)
    (case zhn => k_is)
    (case zht => k_is)
    (case ga_InvalidAct => k_is)
    (case ga_InvalidActs => k_is)
    (case ga_InvalidBrokers => k_is)
    (case ga_InvalidCommand => k_is)
    (case ga_InvalidCommands => k_is)
    (case ga_InvalidCount => k_is)
    (case ga_InvalidDisk => k_is)
    (case ga_InvalidItems => k_is)
    (case ga_InvalidKeeps => k_is)
    (case ga_InvalidLetter => k_is)
    (case ga_InvalidLine => k_is)
    (case ga_InvalidName => k_is)
    (case ga_InvalidNumber => k_is)
    (case ga_InvalidPicture => k_is)
    (case ga_InvalidState => k_is)
    (case ga_InvalidTerm => k_is)
    (case ga_InvalidText => k_is)
    (case ga_InvalidValue => k_is)
    (case ga_InvalidWorld => k_is)
    (case ga_TooLong => k_is)
    (case ga_NoFile => k_is)
    (case ga_NoRow => k_is)
    (case ga_NoTopic => k_is)
    (case ga_NoGroup => k_is)
    (case ga_NotLeading => k_is)
    (case ga_Fallen => k_is)
    (case ga_Held => k_is)
    (case ga_PowerCut => k_is)
    (case ga_QueueError => k_is)
    (case xd_QueueError => k_is)
    (case ty_QueueError => k_is)
    (case ex_QueueError => k_is)
    (case qa_QueueError => k_is)
    (case qb_QueueError => k_is)
    (case qc_QueueError => k_is)
    (case cl_InvalidAct => k_is)
    (case sa_InvalidAct => k_is)
    (case ex_InvalidAct => k_is)
    (case ty_InvalidAct => k_is)
    (case kc_InvalidAct => k_is)
    (case xa_InvalidAct => k_is)
    (case xb_InvalidAct => k_is)
    (case xd_InvalidAct => k_is)
    (case xe_InvalidAct => k_is)
    (case xm_InvalidAct => k_is)
    (case no_InvalidAct => k_is)
    (case ia_InvalidAct => k_is)
    (case it_InvalidAct => k_is)
    (case il_InvalidAct => k_is)
    (case ic_InvalidAct => k_is)
    (case ik_InvalidAct => k_is)
    (case cl_InvalidActs => k_is)
    (case sa_InvalidActs => k_is)
    (case ex_InvalidActs => k_is)
    (case ty_InvalidActs => k_is)
    (case kc_InvalidActs => k_is)
    (case xa_InvalidActs => k_is)
    (case xb_InvalidActs => k_is)
    (case xd_InvalidActs => k_is)
    (case xe_InvalidActs => k_is)
    (case xm_InvalidActs => k_is)
    (case no_InvalidActs => k_is)
    (case ia_InvalidActs => k_is)
    (case it_InvalidActs => k_is)
    (case il_InvalidActs => k_is)
    (case ic_InvalidActs => k_is)
    (case ik_InvalidActs => k_is)
    (case cl_InvalidBrokers => k_is)
    (case sa_InvalidBrokers => k_is)
    (case ex_InvalidBrokers => k_is)
    (case ty_InvalidBrokers => k_is)
    (case kc_InvalidBrokers => k_is)
    (case xa_InvalidBrokers => k_is)
    (case xb_InvalidBrokers => k_is)
    (case xd_InvalidBrokers => k_is)
    (case xe_InvalidBrokers => k_is)
    (case xm_InvalidBrokers => k_is)
    (case no_InvalidBrokers => k_is)
    (case ia_InvalidBrokers => k_is)
    (case it_InvalidBrokers => k_is)
    (case il_InvalidBrokers => k_is)
    (case ic_InvalidBrokers => k_is)
    (case ik_InvalidBrokers => k_is)
    (case cl_InvalidCommand => k_is)
    (case sa_InvalidCommand => k_is)
    (case ex_InvalidCommand => k_is)
    (case ty_InvalidCommand => k_is)
    (case kc_InvalidCommand => k_is)
    (case xa_InvalidCommand => k_is)
    (case xb_InvalidCommand => k_is)
    (case xd_InvalidCommand => k_is)
    (case xe_InvalidCommand => k_is)
    (case xm_InvalidCommand => k_is)
    (case no_InvalidCommand => k_is)
    (case ia_InvalidCommand => k_is)
    (case it_InvalidCommand => k_is)
    (case il_InvalidCommand => k_is)
    (case ic_InvalidCommand => k_is)
    (case ik_InvalidCommand => k_is)
    (case cl_InvalidCommands => k_is)
    (case sa_InvalidCommands => k_is)
    (case ex_InvalidCommands => k_is)
    (case ty_InvalidCommands => k_is)
    (case kc_InvalidCommands => k_is)
    (case xa_InvalidCommands => k_is)
    (case xb_InvalidCommands => k_is)
    (case xd_InvalidCommands => k_is)
    (case xe_InvalidCommands => k_is)
    (case xm_InvalidCommands => k_is)
    (case no_InvalidCommands => k_is)
    (case ia_InvalidCommands => k_is)
    (case it_InvalidCommands => k_is)
    (case il_InvalidCommands => k_is)
    (case ic_InvalidCommands => k_is)
    (case ik_InvalidCommands => k_is)
    (case cl_InvalidCount => k_is)
    (case sa_InvalidCount => k_is)
    (case ex_InvalidCount => k_is)
    (case ty_InvalidCount => k_is)
    (case kc_InvalidCount => k_is)
    (case xa_InvalidCount => k_is)
    (case xb_InvalidCount => k_is)
    (case xd_InvalidCount => k_is)
    (case xe_InvalidCount => k_is)
    (case xm_InvalidCount => k_is)
    (case no_InvalidCount => k_is)
    (case ia_InvalidCount => k_is)
    (case it_InvalidCount => k_is)
    (case il_InvalidCount => k_is)
    (case ic_InvalidCount => k_is)
    (case ik_InvalidCount => k_is)
    (case cl_InvalidDisk => k_is)
    (case sa_InvalidDisk => k_is)
    (case ex_InvalidDisk => k_is)
    (case ty_InvalidDisk => k_is)
    (case kc_InvalidDisk => k_is)
    (case xa_InvalidDisk => k_is)
    (case xb_InvalidDisk => k_is)
    (case xd_InvalidDisk => k_is)
    (case xe_InvalidDisk => k_is)
    (case xm_InvalidDisk => k_is)
    (case no_InvalidDisk => k_is)
    (case ia_InvalidDisk => k_is)
    (case it_InvalidDisk => k_is)
    (case il_InvalidDisk => k_is)
    (case ic_InvalidDisk => k_is)
    (case ik_InvalidDisk => k_is)
    (case cl_InvalidItems => k_is)
    (case sa_InvalidItems => k_is)
    (case ex_InvalidItems => k_is)
    (case ty_InvalidItems => k_is)
    (case kc_InvalidItems => k_is)
    (case xa_InvalidItems => k_is)
    (case xb_InvalidItems => k_is)
    (case xd_InvalidItems => k_is)
    (case xe_InvalidItems => k_is)
    (case xm_InvalidItems => k_is)
    (case no_InvalidItems => k_is)
    (case ia_InvalidItems => k_is)
    (case it_InvalidItems => k_is)
    (case il_InvalidItems => k_is)
    (case ic_InvalidItems => k_is)
    (case ik_InvalidItems => k_is)
    (case cl_InvalidKeeps => k_is)
    (case sa_InvalidKeeps => k_is)
    (case ex_InvalidKeeps => k_is)
    (case ty_InvalidKeeps => k_is)
    (case kc_InvalidKeeps => k_is)
    (case xa_InvalidKeeps => k_is)
    (case xb_InvalidKeeps => k_is)
    (case xd_InvalidKeeps => k_is)
    (case xe_InvalidKeeps => k_is)
    (case xm_InvalidKeeps => k_is)
    (case no_InvalidKeeps => k_is)
    (case ia_InvalidKeeps => k_is)
    (case it_InvalidKeeps => k_is)
    (case il_InvalidKeeps => k_is)
    (case ic_InvalidKeeps => k_is)
    (case ik_InvalidKeeps => k_is)
    (case cl_InvalidLetter => k_is)
    (case sa_InvalidLetter => k_is)
    (case ex_InvalidLetter => k_is)
    (case ty_InvalidLetter => k_is)
    (case kc_InvalidLetter => k_is)
    (case xa_InvalidLetter => k_is)
    (case xb_InvalidLetter => k_is)
    (case xd_InvalidLetter => k_is)
    (case xe_InvalidLetter => k_is)
    (case xm_InvalidLetter => k_is)
    (case no_InvalidLetter => k_is)
    (case ia_InvalidLetter => k_is)
    (case it_InvalidLetter => k_is)
    (case il_InvalidLetter => k_is)
    (case ic_InvalidLetter => k_is)
    (case ik_InvalidLetter => k_is)
    (case cl_InvalidLine => k_is)
    (case sa_InvalidLine => k_is)
    (case ex_InvalidLine => k_is)
    (case ty_InvalidLine => k_is)
    (case kc_InvalidLine => k_is)
    (case xa_InvalidLine => k_is)
    (case xb_InvalidLine => k_is)
    (case xd_InvalidLine => k_is)
    (case xe_InvalidLine => k_is)
    (case xm_InvalidLine => k_is)
    (case no_InvalidLine => k_is)
    (case ia_InvalidLine => k_is)
    (case it_InvalidLine => k_is)
    (case il_InvalidLine => k_is)
    (case ic_InvalidLine => k_is)
    (case ik_InvalidLine => k_is)
    (case cl_InvalidName => k_is)
    (case sa_InvalidName => k_is)
    (case ex_InvalidName => k_is)
    (case ty_InvalidName => k_is)
    (case kc_InvalidName => k_is)
    (case xa_InvalidName => k_is)
    (case xb_InvalidName => k_is)
    (case xd_InvalidName => k_is)
    (case xe_InvalidName => k_is)
    (case xm_InvalidName => k_is)
    (case no_InvalidName => k_is)
    (case ia_InvalidName => k_is)
    (case it_InvalidName => k_is)
    (case il_InvalidName => k_is)
    (case ic_InvalidName => k_is)
    (case ik_InvalidName => k_is)
    (case cl_InvalidNumber => k_is)
    (case sa_InvalidNumber => k_is)
    (case ex_InvalidNumber => k_is)
    (case ty_InvalidNumber => k_is)
    (case kc_InvalidNumber => k_is)
    (case xa_InvalidNumber => k_is)
    (case xb_InvalidNumber => k_is)
    (case xd_InvalidNumber => k_is)
    (case xe_InvalidNumber => k_is)
    (case xm_InvalidNumber => k_is)
    (case no_InvalidNumber => k_is)
    (case ia_InvalidNumber => k_is)
    (case it_InvalidNumber => k_is)
    (case il_InvalidNumber => k_is)
    (case ic_InvalidNumber => k_is)
    (case ik_InvalidNumber => k_is)
    (case cl_InvalidPicture => k_is)
    (case sa_InvalidPicture => k_is)
    (case ex_InvalidPicture => k_is)
    (case ty_InvalidPicture => k_is)
    (case kc_InvalidPicture => k_is)
    (case xa_InvalidPicture => k_is)
    (case xb_InvalidPicture => k_is)
    (case xd_InvalidPicture => k_is)
    (case xe_InvalidPicture => k_is)
    (case xm_InvalidPicture => k_is)
    (case no_InvalidPicture => k_is)
    (case ia_InvalidPicture => k_is)
    (case it_InvalidPicture => k_is)
    (case il_InvalidPicture => k_is)
    (case ic_InvalidPicture => k_is)
    (case ik_InvalidPicture => k_is)
    (case cl_InvalidState => k_is)
    (case sa_InvalidState => k_is)
    (case ex_InvalidState => k_is)
    (case ty_InvalidState => k_is)
    (case kc_InvalidState => k_is)
    (case xa_InvalidState => k_is)
    (case xb_InvalidState => k_is)
    (case xd_InvalidState => k_is)
    (case xe_InvalidState => k_is)
    (case xm_InvalidState => k_is)
    (case no_InvalidState => k_is)
    (case ia_InvalidState => k_is)
    (case it_InvalidState => k_is)
    (case il_InvalidState => k_is)
    (case ic_InvalidState => k_is)
    (case ik_InvalidState => k_is)
    (case cl_InvalidTerm => k_is)
    (case sa_InvalidTerm => k_is)
    (case ex_InvalidTerm => k_is)
    (case ty_InvalidTerm => k_is)
    (case kc_InvalidTerm => k_is)
    (case xa_InvalidTerm => k_is)
    (case xb_InvalidTerm => k_is)
    (case xd_InvalidTerm => k_is)
    (case xe_InvalidTerm => k_is)
    (case xm_InvalidTerm => k_is)
    (case no_InvalidTerm => k_is)
    (case ia_InvalidTerm => k_is)
    (case it_InvalidTerm => k_is)
    (case il_InvalidTerm => k_is)
    (case ic_InvalidTerm => k_is)
    (case ik_InvalidTerm => k_is)
    (case cl_InvalidText => k_is)
    (case sa_InvalidText => k_is)
    (case ex_InvalidText => k_is)
    (case ty_InvalidText => k_is)
    (case kc_InvalidText => k_is)
    (case xa_InvalidText => k_is)
    (case xb_InvalidText => k_is)
    (case xd_InvalidText => k_is)
    (case xe_InvalidText => k_is)
    (case xm_InvalidText => k_is)
    (case no_InvalidText => k_is)
    (case ia_InvalidText => k_is)
    (case it_InvalidText => k_is)
    (case il_InvalidText => k_is)
    (case ic_InvalidText => k_is)
    (case ik_InvalidText => k_is)
    (case cl_InvalidValue => k_is)
    (case sa_InvalidValue => k_is)
    (case ex_InvalidValue => k_is)
    (case ty_InvalidValue => k_is)
    (case kc_InvalidValue => k_is)
    (case xa_InvalidValue => k_is)
    (case xb_InvalidValue => k_is)
    (case xd_InvalidValue => k_is)
    (case xe_InvalidValue => k_is)
    (case xm_InvalidValue => k_is)
    (case no_InvalidValue => k_is)
    (case ia_InvalidValue => k_is)
    (case it_InvalidValue => k_is)
    (case il_InvalidValue => k_is)
    (case ic_InvalidValue => k_is)
    (case ik_InvalidValue => k_is)
    (case cl_InvalidWorld => k_is)
    (case sa_InvalidWorld => k_is)
    (case ex_InvalidWorld => k_is)
    (case ty_InvalidWorld => k_is)
    (case kc_InvalidWorld => k_is)
    (case xa_InvalidWorld => k_is)
    (case xb_InvalidWorld => k_is)
    (case xd_InvalidWorld => k_is)
    (case xe_InvalidWorld => k_is)
    (case xm_InvalidWorld => k_is)
    (case no_InvalidWorld => k_is)
    (case ia_InvalidWorld => k_is)
    (case it_InvalidWorld => k_is)
    (case il_InvalidWorld => k_is)
    (case ic_InvalidWorld => k_is)
    (case ik_InvalidWorld => k_is)
    (case cl_TooLong => k_is)
    (case sa_TooLong => k_is)
    (case ex_TooLong => k_is)
    (case ty_TooLong => k_is)
    (case kc_TooLong => k_is)
    (case xa_TooLong => k_is)
    (case xb_TooLong => k_is)
    (case xd_TooLong => k_is)
    (case xe_TooLong => k_is)
    (case xm_TooLong => k_is)
    (case no_TooLong => k_is)
    (case ia_TooLong => k_is)
    (case it_TooLong => k_is)
    (case il_TooLong => k_is)
    (case ic_TooLong => k_is)
    (case ik_TooLong => k_is)
    (case cl_NoFile => k_is)
    (case sa_NoFile => k_is)
    (case ex_NoFile => k_is)
    (case ty_NoFile => k_is)
    (case kc_NoFile => k_is)
    (case xa_NoFile => k_is)
    (case xb_NoFile => k_is)
    (case xd_NoFile => k_is)
    (case xe_NoFile => k_is)
    (case xm_NoFile => k_is)
    (case no_NoFile => k_is)
    (case ia_NoFile => k_is)
    (case it_NoFile => k_is)
    (case il_NoFile => k_is)
    (case ic_NoFile => k_is)
    (case ik_NoFile => k_is)
    (case cl_NoRow => k_is)
    (case sa_NoRow => k_is)
    (case ex_NoRow => k_is)
    (case ty_NoRow => k_is)
    (case kc_NoRow => k_is)
    (case xa_NoRow => k_is)
    (case xb_NoRow => k_is)
    (case xd_NoRow => k_is)
    (case xe_NoRow => k_is)
    (case xm_NoRow => k_is)
    (case no_NoRow => k_is)
    (case ia_NoRow => k_is)
    (case it_NoRow => k_is)
    (case il_NoRow => k_is)
    (case ic_NoRow => k_is)
    (case ik_NoRow => k_is)
    (case cl_NoTopic => k_is)
    (case sa_NoTopic => k_is)
    (case ex_NoTopic => k_is)
    (case ty_NoTopic => k_is)
    (case kc_NoTopic => k_is)
    (case xa_NoTopic => k_is)
    (case xb_NoTopic => k_is)
    (case xd_NoTopic => k_is)
    (case xe_NoTopic => k_is)
    (case xm_NoTopic => k_is)
    (case no_NoTopic => k_is)
    (case ia_NoTopic => k_is)
    (case it_NoTopic => k_is)
    (case il_NoTopic => k_is)
    (case ic_NoTopic => k_is)
    (case ik_NoTopic => k_is)
    (case cl_NoGroup => k_is)
    (case sa_NoGroup => k_is)
    (case ex_NoGroup => k_is)
    (case ty_NoGroup => k_is)
    (case kc_NoGroup => k_is)
    (case xa_NoGroup => k_is)
    (case xb_NoGroup => k_is)
    (case xd_NoGroup => k_is)
    (case xe_NoGroup => k_is)
    (case xm_NoGroup => k_is)
    (case no_NoGroup => k_is)
    (case ia_NoGroup => k_is)
    (case it_NoGroup => k_is)
    (case il_NoGroup => k_is)
    (case ic_NoGroup => k_is)
    (case ik_NoGroup => k_is)
    (case cl_NotLeading => k_is)
    (case sa_NotLeading => k_is)
    (case ex_NotLeading => k_is)
    (case ty_NotLeading => k_is)
    (case kc_NotLeading => k_is)
    (case xa_NotLeading => k_is)
    (case xb_NotLeading => k_is)
    (case xd_NotLeading => k_is)
    (case xe_NotLeading => k_is)
    (case xm_NotLeading => k_is)
    (case no_NotLeading => k_is)
    (case ia_NotLeading => k_is)
    (case it_NotLeading => k_is)
    (case il_NotLeading => k_is)
    (case ic_NotLeading => k_is)
    (case ik_NotLeading => k_is)
    (case cl_Fallen => k_is)
    (case sa_Fallen => k_is)
    (case ex_Fallen => k_is)
    (case ty_Fallen => k_is)
    (case kc_Fallen => k_is)
    (case xa_Fallen => k_is)
    (case xb_Fallen => k_is)
    (case xd_Fallen => k_is)
    (case xe_Fallen => k_is)
    (case xm_Fallen => k_is)
    (case no_Fallen => k_is)
    (case ia_Fallen => k_is)
    (case it_Fallen => k_is)
    (case il_Fallen => k_is)
    (case ic_Fallen => k_is)
    (case ik_Fallen => k_is)
    (case cl_Held => k_is)
    (case sa_Held => k_is)
    (case ex_Held => k_is)
    (case ty_Held => k_is)
    (case kc_Held => k_is)
    (case xa_Held => k_is)
    (case xb_Held => k_is)
    (case xd_Held => k_is)
    (case xe_Held => k_is)
    (case xm_Held => k_is)
    (case no_Held => k_is)
    (case nt_Held => k_is)
    (case ia_Held => k_is)
    (case it_Held => k_is)
    (case il_Held => k_is)
    (case ic_Held => k_is)
    (case ik_Held => k_is)
    (case cl_PowerCut => k_is)
    (case sa_PowerCut => k_is)
    (case ex_PowerCut => k_is)
    (case ty_PowerCut => k_is)
    (case kc_PowerCut => k_is)
    (case xa_PowerCut => k_is)
    (case xb_PowerCut => k_is)
    (case xd_PowerCut => k_is)
    (case xe_PowerCut => k_is)
    (case xm_PowerCut => k_is)
    (case zx_PowerCut => k_exc)
    (case znd => decide +kernel)
    (case z_isinstance => k_is)
    (case z_Exception => k_is)
    (case z_range => k_is)
    (case z_len => k_is)
    (case z_int => k_is)
    (case z_abs => k_is)
    (case z_sum => k_is)
    (case z_dict => k_is)
    (case z_repr => k_is)
    (case z_max => k_is)
    (case z_min => k_is)

