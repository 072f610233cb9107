import PyProof.Rows.All
import Wide.All
import OpenK.AllK
import Wide.FinOn
import HandS.ForMost
import HandS.IsInst
import HandS.StrMore
import HandS.TupAny
import HandS.TupLe
import HandS.Conv
import PyProof.ReprRoads
import PyProof.RowDictHeap
import HandS.ExcInit
import HandS.TryMany
import HandS.ExcField
import HandS.ExcIs
import HandS.WordsExc
import KE.KExcIs
import HandS.Style
import HandS.More
import HandS.TryOnly
import HandS.DeepEq
import HandS.Iter
import HandS.OwnEq
import HandS.Rev
import HandS.DictEq
import PyProof.InstNe
import HandS.Codes
import PySem.Challenge.RW_inorderonce_k08_power_copies_and_equalit
set_option Elab.async false
set_option linter.all false
set_option maxRecDepth 100000
set_option maxHeartbeats 8000000
/-! Z: own layer over the hand layer: readings that compute. -/
namespace Z
open PySem PySem.Spec PyProof.Rows L2

/-! ### heaps -/
/-- H2 is H with a new object at p -/
structure Nw (H : Hp) (p : Addr) (o : HO) (H2 : Hp) : Prop where
  fresh : H p = none
  here : H2 p = some o
  off : ∀ a, a ≠ p → H2 a = H a
/-- H2 is H with another object at l -/
structure Wr (H : Hp) (l : Addr) (o : HO) (H2 : Hp) : Prop where
  here : H2 l = some o
  off : ∀ a, a ≠ l → H2 a = H a
/-- all that was tracked is there, but for b -/
def But (b : Addr) (H H2 : Hp) : Prop := ∀ a o, a ≠ b → H a = some o → H2 a = some o
theorem nw {H : Hp} {p : Addr} {o : HO} (h : H p = none) : Nw H p o (upd H p o) := ⟨h, upd_same, fun _ e => upd_ne e⟩
theorem wr {H : Hp} {p : Addr} {o : HO} : Wr H p o (upd H p o) := ⟨upd_same, fun _ e => upd_ne e⟩
theorem Nw.keep {H H2 : Hp} {p a : Addr} {o u : HO} (n : Nw H p o H2) (h : H a = some u) : H2 a = some u := by
  rw [n.off a (ne_of_none h n.fresh)]
  exact h
theorem Nw.same {H H2 : Hp} {p : Addr} {o : HO} (n : Nw H p o H2) : Same H H2 := fun _ _ h => n.keep h
theorem Wr.keep {H H2 : Hp} {l a : Addr} {o u : HO} (n : Wr H l o H2) (e : a ≠ l) (h : H a = some u) : H2 a = some u := by
  rw [n.off a e]
  exact h
theorem Wr.but {H H2 : Hp} {l : Addr} {o : HO} (n : Wr H l o H2) : But l H H2 := fun a _ e h => n.keep e h
theorem Nw.but {H H2 : Hp} {p b : Addr} {o : HO} (n : Nw H p o H2) : But b H H2 := fun _ _ _ h => n.keep h
theorem But.refl (b : Addr) (H : Hp) : But b H H := fun _ _ _ h => h
theorem But.trans {b : Addr} {H H1 H2 : Hp} (x : But b H H1) (y : But b H1 H2) : But b H H2 := fun a o e h => y a o e (x a o e h)
theorem But.of {b : Addr} {H H1 : Hp} (x : Same H H1) : But b H H1 := fun a o _ h => x a o h
theorem But.at {b a : Addr} {o : HO} {H H1 : Hp} (x : But b H H1) (e : a ≠ b) (h : H a = some o) : H1 a = some o := x a o e h
/-- what was new to H and written later: H is kept -/
theorem _root_.L2.Same.wr {H H1 H2 : Hp} {l : Addr} {o : HO} (x : Same H H1) (f : H l = none) (w : Wr H1 l o H2) : Same H H2 := fun a u h =>
  w.keep (ne_of_none h f) (x a u h)
theorem _root_.L2.Same.but {H H1 H2 : Hp} {l : Addr} (x : Same H H1) (f : H l = none) (w : But l H1 H2) : Same H H2 := fun a u h =>
  w a u (ne_of_none h f) (x a u h)
theorem But.butNew {b l : Addr} {H H1 H2 : Hp} (x : But b H H1) (f : H l = none) (w : But l H1 H2) (hb : H b ≠ none → True) : But b H H2 := fun a u e h =>
  w a u (ne_of_none h f) (x a u e h)
theorem But.wr {b l : Addr} {o : HO} {H H1 H2 : Hp} (x : But b H H1) (f : H l = none) (w : Wr H1 l o H2) : But b H H2 := fun a u e h => w.keep (ne_of_none h f) (x a u e h)
theorem But.nw {b l : Addr} {o : HO} {H H1 H2 : Hp} (x : But b H H1) (w : Nw H1 l o H2) : But b H H2 := fun a u e h => w.keep (x a u e h)
theorem But.free {b l : Addr} {H H1 : Hp} (x : But b H H1) (e : l ≠ b) (f : H1 l = none) : H l = none := by
  cases q : H l with
  | none => rfl
  | some o =>
    rw [x l o e q] at f
    cases f
theorem sz {n : Nat} (h : n ≤ 16000000) : n ≤ sizeLine := Nat.le_trans h (by decide)
theorem szlt {n : Nat} (h : n ≤ 16000000) : n < sizeLine := Nat.lt_of_le_of_lt h (by decide)
theorem free_of {H H1 : Hp} {l : Addr} (x : Same H H1) (f : H1 l = none) : H l = none := x.free f

/-- the same of lists and tuples that are read -/
theorem sqL_same {K : PySem.W.Frag} {H H' : Hp} {a : Addr} {xs : List V} (e : Same H H') (h : SqL K H a xs) : SqL K H' a xs := e.seq h
theorem sqT_same {K : PySem.W.Frag} {H H' : Hp} {a : Addr} {xs : List V} (e : Same H H') (h : SqT K H a xs) : SqT K H' a xs := by
  rcases h with (h | ⟨o, h⟩) | h
  · exact .inl (.inl (e _ _ h))
  · exact .inl (.inr ⟨o, e _ _ h⟩)
  · exact .inr h

/-! ### names -/
def tV (i : Nat) : TE := fun σ H Q => match σ[i]? with
  | some (some v) => Q v H
  | _ => False
theorem tV_of {i : Nat} {σ : L2.St} {H : Hp} {Q : VK} (h : tV i σ H Q) : tVar i σ H Q := by
  unfold tV at h
  split at h
  · exact ⟨_, by assumption, h⟩
  · exact h.elim
section
variable {X : Cx}
theorem pz (i : Nat) {x : Str} {pos : Pos} (hN : X.N[i]? = some x := by rfl) (hv : Vis X.env.scope x := by first | exact Or.inl rfl | exact Or.inr (Or.inl rfl) | exact Or.inr (Or.inr rfl)) (hd : (x == ("__debug__" : Str)) = false := by decide)
    (hcd : (x == ("__classdict__" : Str)) = false := by decide) : PE X (.Name x pos) (tV i) :=
  ⟨fun pins s σ H Q I h => (pe_var hN hv hd hcd).run pins s σ H Q I (tV_of h)⟩
end

/-! ### operators on values, that compute -/
def zI (g : Int → Int → V) : R2 := fun x y H Q => match x, y with
  | .int i, .int j => Q (g i j) H
  | _, _ => False
def zIC (C : Int → Int → Prop) (g : Int → Int → V) : R2 := fun x y H Q => match x, y with
  | .int i, .int j => C i j ∧ Q (g i j) H
  | _, _ => False
theorem opr_w {X : Cx} {f : Value → Value → Sem Value} {r r' : R2} (h : OpR X f r') (i : ∀ x y H Q, r x y H Q → r' x y H Q) : OpR X f r :=
  fun pins s σ H x y v u Q I rx ry q => h pins s σ H x y v u Q I rx ry (i x y H Q q)
theorem zI_of {g : Int → Int → V} (x y : V) (H : Hp) (Q : VK) (h : zI g x y H Q) : rI0 g x y H Q := by
  unfold zI at h
  split at h
  · exact ⟨_, _, rfl, rfl, h⟩
  · exact h.elim
theorem zIC_of {C : Int → Int → Prop} {g : Int → Int → V} (x y : V) (H : Hp) (Q : VK) (h : zIC C g x y H Q) : rI C g x y H Q := by
  unfold zIC at h
  split at h
  · exact ⟨_, _, rfl, rfl, h.1, h.2⟩
  · exact h.elim
section
variable {X : Cx}
theorem o_sub : OpR X (binaryOp .Sub) (zI fun i j => .int (i - j)) := opr_w op_sub fun x y H Q h => zI_of x y H Q h
theorem o_mod : OpR X (binaryOp .Mod) (zIC (fun _ j => 0 < j) fun i j => .int (i % j)) := opr_w op_mod fun x y H Q h => zIC_of x y H Q h
theorem o_fdiv : OpR X (binaryOp .FloorDiv) (zIC CDiv fun i j => .int (i / j)) := opr_w op_fdiv fun x y H Q h => zIC_of x y H Q h
theorem o_pow : OpR X (binaryOp .Pow) (zIC CPow fun i j => .int (i ^ j.toNat)) := opr_w op_pow fun x y H Q h => zIC_of x y H Q h
/-- + : ints, texts, lists, tuples -/
def zAdd (K : PySem.W.Frag) : R2 := fun x y H Q => match x, y with
  | .int i, .int j => Q (.int (i + j)) H
  | .str a, .str b => a.length + b.length ≤ sizeLine ∧ Q (.str (a ++ b)) H
  | .ref l, .ref b =>
      (∃ xs zs, H l = some (.lst xs) ∧ H b = some (.lst zs) ∧ xs.length + zs.length ≤ sizeLine ∧ ∀ p H2, Nw H p (.lst (xs ++ zs)) H2 → Q (.ref p) H2) ∨
      (∃ xs zs, SqT K H l xs ∧ SqT K H b zs ∧ xs.length + zs.length ≤ sizeLine ∧ (xs = [] → Q (.ref b) H) ∧ (xs ≠ [] → zs = [] → Q (.ref l) H) ∧
        (xs ≠ [] → zs ≠ [] → ∀ p H2, Nw H p (.tup (xs ++ zs)) H2 → Q (.ref p) H2))
  | _, _ => False
theorem o_add : OpR X (binaryOp .Add) (zAdd X.K) := by
  intro pins s σ H x y v u Q I rx ry h
  unfold zAdd at h
  split at h
  · exact op_add pins s σ H _ _ v u Q I rx ry ⟨_, _, rfl, rfl, h⟩
  · exact op_add_str pins s σ H _ _ v u Q I rx ry ⟨_, _, rfl, rfl, h.1, h.2⟩
  · rcases h with ⟨xs, zs, h1, h2, h3, q⟩ | ⟨xs, zs, h1, h2, h3, q1, q2, q3⟩
    · exact op_cat pins s σ H _ _ v u Q I rx ry ⟨_, _, xs, zs, rfl, rfl, h1, h2, h3, fun p hp => q p _ (nw hp)⟩
    · exact op_catA pins s σ H _ _ v u Q I rx ry ⟨_, _, xs, zs, rfl, rfl, h1, h2, h3, q1, q2, fun a b p hp => q3 a b p _ (nw hp)⟩
  · exact h.elim
/-- a text so many times -/
def rep (x : Str) (n : Int) : Str := ⟨(List.replicate n.toNat x.cps.toList).flatten.toArray⟩
theorem rep_fold (l : List Nat) : ∀ (n : Nat) (acc : Array Nat), (List.replicate n l.toArray).foldl (· ++ ·) acc = acc ++ (List.replicate n l).flatten.toArray
  | 0, acc => by simp
  | n + 1, acc => by
    rw [List.replicate_succ, List.foldl_cons, rep_fold l n, List.replicate_succ, List.flatten_cons]
    simp [Array.append_assoc]
/-- * : ints, a text, a list -/
def zMul : R2 := fun x y H Q => match x, y with
  | .int i, .int j => CMul i j ∧ Q (.int (i * j)) H
  | .str a, .int n => -(2 ^ 62) ≤ n ∧ n < 2 ^ 62 ∧ a.length * n.toNat ≤ 1000000 ∧ Q (.str (rep a n)) H
  | .ref l, .int k => ∃ xs, H l = some (.lst xs) ∧ -(2 ^ 63) ≤ k ∧ k < 2 ^ 63 ∧ xs.length * k.toNat ≤ sizeLine ∧ ∀ p H2, Nw H p (.lst (List.replicate k.toNat xs).flatten) H2 → Q (.ref p) H2
  | _, _ => False
theorem str_size0 {a : Str} (h : a.length = 0) : a = Str.empty := by
  obtain ⟨c⟩ := a
  have h : c.size = 0 := h
  have : c = #[] := Array.eq_empty_of_size_eq_zero h
  rw [this]
  rfl
theorem o_mul : OpR X (binaryOp .Mult) zMul := by
  intro pins s σ H x y v u Q I rx ry h
  unfold zMul at h
  split at h
  · exact op_mul pins s σ H _ _ v u Q I rx ry ⟨_, _, rfl, rfl, h.1, h.2⟩
  · rename_i a n
    obtain ⟨h1, h2, h3, q⟩ := h
    obtain ⟨t, rfl⟩ := rx
    obtain ⟨t', rfl⟩ := ry
    have two : (2 : Int) ^ 62 = 4611686018427387904 := by decide
    have two3 : (2 : Int) ^ 63 = 9223372036854775808 := by decide
    refine PySem.P.mul_str ?_ (fun hn hz => ?_) (fun hn hz => ?_) ?_
    · rw [decide_eq_false (by omega), decide_eq_false (by omega)]
      rfl
    · intro hc
      have hn1 : 1 ≤ n := by omega
      have hd : ((2 : Int) ^ 63 - 1) / n * n ≤ 2 ^ 63 - 1 := Int.ediv_mul_le _ (by omega)
      have hlt : ((2 : Int) ^ 63 - 1) < (((2 : Int) ^ 63 - 1) / n + 1) * n := Int.lt_ediv_add_one_mul_self _ (by omega)
      have hle : (((2 : Int) ^ 63 - 1) / n + 1) * n ≤ (a.length : Int) * n := Int.mul_le_mul_of_nonneg_right (by omega) (by omega)
      have hcast : ((a.length * n.toNat : Nat) : Int) = (a.length : Int) * n := by
        rw [Int.natCast_mul, Int.toNat_of_nonneg (by omega)]
      omega
    · show decide (a.length * n.toNat > sizeLine) = false
      have hs : 1000000 ≤ sizeLine := by decide
      exact decide_eq_false (by omega)
    · have fit : (rep a n).length ≤ sizeLine := by
        have e : (rep a n).length = a.length * n.toNat := by
          show ((List.replicate n.toNat a.cps.toList).flatten.toArray).size = a.length * n.toNat
          rw [List.size_toArray, List.length_flatten, List.map_replicate, List.sum_replicate_nat, Array.length_toList, Nat.mul_comm]
          rfl
        have hs : 1000000 ≤ sizeLine := by decide
        omega
      have fin : ∀ (tk : Nat) (t' : Tok), EP X pins σ Q (.str (rep a n) t') { s with toks := tk } := fun tk t' => ⟨.str (rep a n), H, I.tok tk, ⟨t', rfl⟩, q⟩
      by_cases hn : n < 1
      · have e : rep a n = Str.empty := by
          have : n.toNat = 0 := by omega
          unfold rep
          rw [this]
          rfl
        rw [if_pos hn]
        rw [e] at fin
        exact ⟨by decide, fin _ _⟩
      · rw [if_neg hn]
        by_cases hz : (n == 1 || a.length == 0) = true
        · rw [if_pos hz]
          have e : rep a n = a := by
            rw [Bool.or_eq_true] at hz
            rcases hz with hz | hz
            · have : n = 1 := by simpa using hz
              subst this
              obtain ⟨c⟩ := a
              show (⟨(List.replicate (1 : Int).toNat c.toList).flatten.toArray⟩ : Str) = ⟨c⟩
              simp
            · have e0 := str_size0 (a := a) (by simpa using hz)
              subst e0
              unfold rep
              show (⟨(List.replicate n.toNat ([] : List Nat)).flatten.toArray⟩ : Str) = Str.empty
              rw [List.flatten_replicate_nil]
              rfl
          rw [e] at fin
          exact fin s.toks t
        · rw [if_neg hz]
          have e : (⟨(List.replicate n.toNat a.cps).foldl (· ++ ·) #[]⟩ : Str) = rep a n := by
            obtain ⟨c⟩ := a
            unfold rep
            have q := rep_fold c.toList n.toNat #[]
            simp only [Array.toArray_toList] at q
            rw [q]
            simp
          rw [e]
          exact ⟨fit, fin _ _⟩
  · obtain ⟨xs, h1, h2, h3, h4, q⟩ := h
    exact op_rep pins s σ H _ _ v u Q I rx ry ⟨_, _, xs, rfl, rfl, h1, h2, h3, h4, fun p hp => q p _ (nw hp)⟩
  · exact h.elim
end

/-! ### any rule, its end carried -/
def mon (t : TE) : TE := fun σ H Q => ∃ Q0 : VK, t σ H Q0 ∧ ∀ x H1, Q0 x H1 → Q x H1
def monA (t : TA) : TA := fun σ H Q => ∃ Q0 : List V → Hp → Prop, t σ H Q0 ∧ ∀ x H1, Q0 x H1 → Q x H1
def monR (r : R2) : R2 := fun x y H Q => ∃ Q0 : VK, r x y H Q0 ∧ ∀ x H1, Q0 x H1 → Q x H1
section
variable {X : Cx} {a b e o : Expr} {es rest : List Expr} {ta tb te to : TE} {t t' : TE} {pos : Pos}
theorem pe_w (h : PE X e t) (i : ∀ σ H Q, t' σ H Q → t σ H Q) : PE X e t' := ⟨fun pins s σ H Q I q => h.run pins s σ H Q I (i σ H Q q)⟩
theorem pt_w {t t' : TT} (h : PT X e t) (i : ∀ σ H Q, t' σ H Q → t σ H Q) : PT X e t' := ⟨fun pins s σ H Q I q => h.run pins s σ H Q I (i σ H Q q)⟩
theorem po_w {e : Option Expr} {t t' : TO} (h : PO X e t) (i : ∀ σ H Q, t' σ H Q → t σ H Q) : PO X e t' := ⟨fun pins s σ H Q I q => h.run pins s σ H Q I (i σ H Q q)⟩
theorem ps_w {st : Stmt} {t t' : TS} (h : PS X st t) (i : ∀ D σ H, t' D σ H → t D σ H) : PS X st t' := ⟨fun pins s σ H D I q => h.run pins s σ H D I (i D σ H q)⟩
theorem pg_w {g : Expr} {t t' : TG} (h : PG X g t) (i : ∀ v σ H Q, t' v σ H Q → t v σ H Q) : PG X g t' := ⟨fun pins s σ H v u Q I r q => h.run pins s σ H v u Q I r (i v σ H Q q)⟩
theorem pi_w {g e : Expr} {t t' : TI} (h : PI X g e t) (i : ∀ σ H R, t' σ H R → t σ H R) : PI X g e t' := ⟨fun pins s σ H R I q => h.run pins s σ H R I (i σ H R q)⟩
theorem callr_w {f : Value} {r r' : List V → Hp → VK → Prop} (h : CallR X f r') (i : ∀ vs H Q, r vs H Q → r' vs H Q) : CallR X f r :=
  fun pins s σ H xs us Q I rs q => h pins s σ H xs us Q I rs (i xs H Q q)
theorem pe_mon (h : PE X e t) : PE X e (mon t) := ⟨fun pins s σ H Q I ⟨Q0, q, i⟩ => thn (h.run pins s σ H Q0 I q) fun u s' ⟨v, H', I', r, z⟩ => ⟨v, H', I', r, i v H' z⟩⟩
theorem pa_mon {t : TA} (h : PA X es t) : PA X es (monA t) := ⟨fun pos pins s σ H Q I ⟨Q0, q, i⟩ => thn (h.run pos pins s σ H Q0 I q) fun u s' ⟨v, H', I', r, z⟩ => ⟨v, H', I', r, i v H' z⟩⟩
theorem opr_mon {f : Value → Value → Sem Value} {r : R2} (h : OpR X f r) : OpR X f (monR r) := fun pins s σ H x y v u Q I rx ry ⟨Q0, q, i⟩ =>
  thn (h pins s σ H x y v u Q0 I rx ry q) fun u s' ⟨v, H', I', r, z⟩ => ⟨v, H', I', r, i v H' z⟩

/-! ### tests and bools -/
/-- what follows of a bool -/
def zB (x : V) (H : Hp) (Q : Bool → Hp → Prop) : Prop := match x with
  | .bl k => Q k H
  | _ => False
theorem zB_of {x : V} {H : Hp} {Q : Bool → Hp → Prop} (h : zB x H Q) : ∃ k, x = .bl k ∧ Q k H := by
  unfold zB at h
  split at h
  · exact ⟨_, rfl, h⟩
  · exact h.elim
def tBz (t : TE) : TT := fun σ H Q => t σ H fun x H1 => zB x H1 Q
theorem pt_cmpZ {op : CmpOp} {r : R2} (ho : OpR X (compareOp op) r) (ha : PE X a ta) (hb : PE X b tb) (hm : behindInMarks op b = false) : PT X (.Compare a [op] [b] pos) (tBz (tOp r ta tb)) :=
  pt_w (pt_cmpR (opr_mon ho) (pe_mon ha) (pe_mon hb) hm) fun σ H Q h => ⟨_, h, fun x H1 h1 => ⟨_, h1, fun y H2 h2 => ⟨_, h2, fun z H3 h3 => zB_of h3⟩⟩⟩
theorem pt_chainZ {c : Expr} {tc : TE} {op op' : CmpOp} {r r' : R2} (h : PE X (.Compare a [op, op'] [b, c] pos) t) (he : ∀ whole, isTrue (.Compare a [op, op'] [b, c] pos) X.env whole = (do let v ← whole; standAt (Expr.Compare a [op, op'] [b, c] pos).pos; holding [v] (truthy v)) := by intro _; rfl) :
    PT X (.Compare a [op, op'] [b, c] pos) (tBz t) := pt_w (pt_val (pe_mon h) he) fun σ H Q h => ⟨_, h, fun x H1 h1 => zB_of h1⟩
/-- a < b < c as a value -/
def tChZ (r r' : R2) (ta tb tc : TE) : TE := fun σ H Q => ta σ H fun x H1 => tb σ H1 fun y H2 => r x y H2 fun z H3 => zB z H3 fun k H3 => if k = true then tc σ H3 fun w' H4 => r' y w' H4 Q else Q (.bl false) H3
theorem pe_chZ {c : Expr} {tc : TE} {op op' : CmpOp} {r r' : R2} (h : PE X (.Compare a [op, op'] [b, c] pos) (tChain (monR r) r' (mon ta) (mon tb) tc)) : PE X (.Compare a [op, op'] [b, c] pos) (tChZ r r' ta tb tc) :=
  pe_w h fun σ H Q h => ⟨_, h, fun x H1 h1 => ⟨_, h1, fun y H2 h2 => ⟨_, h2, fun z H3 h3 => zB_of h3⟩⟩⟩
/-- an expression's truth -/
def zTr (K : PySem.W.Frag) (x : V) (H : Hp) (Q : Bool → Hp → Prop) : Prop := match x with
  | .bl k => Q k H
  | .non => Q false H
  | .int i => Q (i != 0) H
  | .str y => y.length ≤ sizeLine ∧ Q ((y.length : Int) != 0) H
  | .ref p => (∃ xs, SqL K H p xs ∧ Q (!xs.isEmpty) H) ∨ (∃ xs, SqT K H p xs ∧ Q (!xs.isEmpty) H) ∨ ∃ kvs, H p = some (.dK kvs) ∧ Q (!kvs.isEmpty) H
  | _ => False
theorem zTr_of {K : PySem.W.Frag} {x : V} {H : Hp} {Q : Bool → Hp → Prop} (h : zTr K x H Q) : ∃ k, TruV K x H k ∧ Q k H := by
  unfold zTr at h
  split at h
  · exact ⟨_, rfl, h⟩
  · exact ⟨_, rfl, h⟩
  · exact ⟨_, rfl, h⟩
  · exact ⟨_, ⟨h.1, rfl⟩, h.2⟩
  · rcases h with ⟨xs, h, q⟩ | ⟨xs, h, q⟩ | ⟨kvs, h, q⟩
    · exact ⟨_, .inl ⟨xs, h, rfl⟩, q⟩
    · exact ⟨_, .inr (.inl ⟨xs, h, rfl⟩), q⟩
    · exact ⟨_, .inr (.inr ⟨kvs, h, rfl⟩), q⟩
  · exact h.elim
def tTr (K : PySem.W.Frag) (t : TE) : TT := fun σ H Q => t σ H fun x H1 => zTr K x H1 Q
theorem pt_tr (h : PE X a ta) (he : ∀ whole, isTrue a X.env whole = (do let v ← whole; standAt a.pos; holding [v] (truthy v)) := by intro _; rfl) : PT X a (tTr X.K ta) :=
  pt_w (pt_truth (pe_mon h) he) fun σ H Q h => ⟨_, h, fun x H1 h1 => zTr_of h1⟩
/-- and, or, not as values of bools -/
def tAndZ (ta tb : TE) : TE := fun σ H Q => ta σ H fun x H1 => zB x H1 fun c H1 => if c = true then tb σ H1 Q else Q (.bl false) H1
def tOrZ (ta tb : TE) : TE := fun σ H Q => ta σ H fun x H1 => zB x H1 fun c H1 => if c = true then Q (.bl true) H1 else tb σ H1 Q
def tNotZ (ta : TE) : TE := fun σ H Q => ta σ H fun x H1 => zB x H1 fun c H1 => Q (.bl (!c)) H1
theorem pe_andZ (ha : PE X a ta) (hb : PE X (.BoolOp .And (b :: rest) pos) tb) : PE X (.BoolOp .And (a :: b :: rest) pos) (tAndZ ta tb) :=
  pe_w (pe_and (pe_mon ha) hb) fun σ H Q h => ⟨_, h, fun x H1 h1 => zB_of h1⟩
theorem pe_orZ (ha : PE X a ta) (hb : PE X (.BoolOp .Or (b :: rest) pos) tb) : PE X (.BoolOp .Or (a :: b :: rest) pos) (tOrZ ta tb) :=
  pe_w (pe_or (pe_mon ha) hb) fun σ H Q h => ⟨_, h, fun x H1 h1 => zB_of h1⟩
theorem pe_notZ (ha : PE X a ta) : PE X (.UnaryOp .Not a pos) (tNotZ ta) := pe_w (pe_not (pe_mon ha)) fun σ H Q h => ⟨_, h, fun x H1 h1 => zB_of h1⟩

/-! ### comparisons -/
theorem o_lt : OpR X (compareOp .Lt) (zI fun i j => .bl (decide (i < j))) := opr_w op_lt fun x y H Q h => zI_of x y H Q h
theorem o_le : OpR X (compareOp .LtE) (zI fun i j => .bl (decide (i ≤ j))) := opr_w op_le fun x y H Q h => zI_of x y H Q h
theorem o_gt : OpR X (compareOp .Gt) (zI fun i j => .bl (decide (j < i))) := opr_w op_gt fun x y H Q h => zI_of x y H Q h
theorem o_ge : OpR X (compareOp .GtE) (zI fun i j => .bl (decide (j ≤ i))) := opr_w op_ge fun x y H Q h => zI_of x y H Q h
/-- < of two signs or ints -/
def zLt : R2 := fun x y H Q => match x, y with
  | .int i, .int j => Q (.bl (decide (i < j))) H
  | .str a, .str b => Q (.bl (decide (a.cps.toList < b.cps.toList))) H
  | _, _ => False
def zGt : R2 := fun x y H Q => match x, y with
  | .int i, .int j => Q (.bl (decide (j < i))) H
  | .str a, .str b => Q (.bl (decide (b.cps.toList < a.cps.toList))) H
  | _, _ => False
theorem o_ltS : OpR X (compareOp .Lt) zLt := by
  intro pins s σ H x y v u Q I rx ry h
  unfold zLt at h
  split at h
  · exact op_lt pins s σ H _ _ v u Q I rx ry ⟨_, _, rfl, rfl, h⟩
  · exact op_lt_str pins s σ H _ _ v u Q I rx ry ⟨_, _, rfl, rfl, h⟩
  · exact h.elim
theorem o_gtS : OpR X (compareOp .Gt) zGt := by
  intro pins s σ H x y v u Q I rx ry h
  unfold zGt at h
  split at h
  · exact op_gt pins s σ H _ _ v u Q I rx ry ⟨_, _, rfl, rfl, h⟩
  · exact op_gt_str pins s σ H _ _ v u Q I rx ry ⟨_, _, rfl, rfl, h⟩
  · exact h.elim
/-- == of plain things, of data -/
def zEq (K : PySem.W.Frag) (neg : Bool) : R2 := fun x y H Q => match scal x y with
  | true => Q (.bl (neg ^^ decide (x = y))) H
  | false => ∃ d e, Dp K H x d ∧ Dp K H y e ∧ SeqAt.shaped d = true ∧ SeqAt.shaped e = true ∧ Q (.bl (neg ^^ PyData.eqv d e)) H
theorem o_eq (hu : X.A.units + 64 < cLine) : OpR X (compareOp .Eq) (zEq X.K false) := by
  intro pins s σ H x y v u Q I rx ry h
  unfold zEq at h
  split at h
  · rename_i e
    exact op_eq pins s σ H x y v u Q I rx ry ⟨e, by simpa using h⟩
  · exact op_eqD hu pins s σ H x y v u Q I rx ry (by simpa [rEqD] using h)
theorem o_ne (hu : X.A.units + 64 < cLine) : OpR X (compareOp .NotEq) (zEq X.K true) := by
  intro pins s σ H x y v u Q I rx ry h
  unfold zEq at h
  split at h
  · rename_i e
    exact op_ne pins s σ H x y v u Q I rx ry ⟨e, by simpa using h⟩
  · exact op_neD hu pins s σ H x y v u Q I rx ry (by simpa [rNeD] using h)
/-- is None, is True, is False -/
def zIs (neg : Bool) : R2 := fun x y H Q => match y, x with
  | .non, x => Q (.bl (neg ^^ decide (x = .non))) H
  | .bl b, .bl a => Q (.bl (neg ^^ decide (a = b))) H
  | _, _ => False
theorem o_is : OpR X (compareOp .Is) (zIs false) := by
  intro pins s σ H x y v u Q I rx ry h
  unfold zIs at h
  split at h
  · exact op_isN pins s σ H _ _ v u Q I rx ry ⟨rfl, by simpa using h⟩
  · exact op_is_bl pins s σ H _ _ v u Q I rx ry ⟨_, _, rfl, rfl, by simpa using h⟩
  · exact h.elim
theorem o_isn : OpR X (compareOp .IsNot) (zIs true) := by
  intro pins s σ H x y v u Q I rx ry h
  unfold zIs at h
  split at h
  · exact op_notN pins s σ H _ _ v u Q I rx ry ⟨rfl, by simpa using h⟩
  · exact op_isnot_bl pins s σ H _ _ v u Q I rx ry ⟨_, _, rfl, rfl, by simpa using h⟩
  · exact h.elim
/-- in, not in: a sign in a text, a flat thing in a list or tuple -/
def zIn (K : PySem.W.Frag) (neg : Bool) : R2 := fun x y H Q => match y with
  | .str z => ∃ c : Nat, x = .str ⟨#[c]⟩ ∧ Q (.bl (neg ^^ decide (c ∈ z.cps.toList))) H
  | .ref p => ∃ xs, (SqL K H p xs ∨ SqT K H p xs) ∧ flatV x = true ∧ xs.all flatV = true ∧ Q (.bl (neg ^^ inV x xs)) H
  | _ => False
theorem o_in : OpR X (compareOp .In) (zIn X.K false) := by
  intro pins s σ H x y v u Q I rx ry h
  unfold zIn at h
  split at h
  · obtain ⟨c, rfl, q⟩ := h
    exact op_in_sign pins s σ H _ _ v u Q I rx ry ⟨c, _, rfl, rfl, by simpa using q⟩
  · obtain ⟨xs, h1, h2, h3, q⟩ := h
    exact op_in_seq pins s σ H _ _ v u Q I rx ry ⟨_, xs, rfl, h1, h2, h3, by simpa using q⟩
  · exact h.elim
theorem o_nin : OpR X (compareOp .NotIn) (zIn X.K true) := by
  intro pins s σ H x y v u Q I rx ry h
  unfold zIn at h
  split at h
  · obtain ⟨c, rfl, q⟩ := h
    exact op_notIn_sign pins s σ H _ _ v u Q I rx ry ⟨c, _, rfl, rfl, by simpa using q⟩
  · obtain ⟨xs, h1, h2, h3, q⟩ := h
    exact op_notIn_seq pins s σ H _ _ v u Q I rx ry ⟨_, xs, rfl, h1, h2, h3, by simpa using q⟩
  · exact h.elim

/-! ### items and slices -/
def zIx (K : PySem.W.Frag) : R2 := fun x y H Q => match x, y with
  | .str z, .int i => ∃ c, z.length ≤ sizeLine ∧ atI z.cps.toList i = some c ∧ Q (.str ⟨#[c]⟩) H
  | .ref p, .int i => ∃ xs v, (SqL K H p xs ∨ SqT K H p xs) ∧ atI xs i = some v ∧ Q v H
  | _, _ => False
theorem o_ix : IxR X (zIx X.K) := by
  intro value slice pins s σ H x y v u Q I rx ry h hs
  unfold zIx at h
  split at h
  · obtain ⟨c, h1, h2, q⟩ := h
    exact ix_str value slice pins s σ H _ _ v u Q I rx ry ⟨_, _, c, rfl, rfl, h1, h2, q⟩ hs
  · obtain ⟨xs, z, h1 | h1, h2, q⟩ := h
    · exact ix_list value slice pins s σ H _ _ v u Q I rx ry ⟨_, _, _, z, rfl, rfl, h1, h2, q⟩ hs
    · exact ix_tup value slice pins s σ H _ _ v u Q I rx ry ⟨_, _, _, z, rfl, rfl, h1, h2, q⟩ hs
  · exact h.elim
def zSl (K : PySem.W.Frag) : V → Option Int → Option Int → Hp → VK → Prop := fun x lo hi H Q => match x with
  | .str z => z.length ≤ sizeLine ∧ Q (.str (cutS z lo hi)) H
  | .ref a => (∃ xs, SqL K H a xs ∧ ∀ p H2, Nw H p (.lst (cutV xs lo hi)) H2 → Q (.ref p) H2) ∨
      (∃ xs, SqT K H a xs ∧ (HT.sIx xs.length 0 lo = 0 ∧ HT.sIx xs.length xs.length hi = xs.length → Q (.ref a) H) ∧
        (¬ (HT.sIx xs.length 0 lo = 0 ∧ HT.sIx xs.length xs.length hi = xs.length) → ∀ p H2, Nw H p (.tup (cutV xs lo hi)) H2 → Q (.ref p) H2))
  | _ => False
theorem o_sl : SlR X (zSl X.K) := by
  intro pins s σ H x v vl vu lo hi sl Q I rx hs pl pu h
  unfold zSl at h
  split at h
  · exact sl_str pins s σ H _ v vl vu lo hi sl Q I rx hs pl pu ⟨_, rfl, h.1, h.2⟩
  · rcases h with ⟨xs, h1, q⟩ | ⟨xs, h1, q1, q2⟩
    · exact sl_list pins s σ H _ v vl vu lo hi sl Q I rx hs pl pu ⟨_, xs, rfl, h1, fun p hp => q p _ (nw hp)⟩
    · exact sl_tupA pins s σ H _ v vl vu lo hi sl Q I rx hs pl pu ⟨_, xs, rfl, h1, q1, fun z p hp => q2 z p _ (nw hp)⟩
  · exact h.elim
def tPz (t : TE) : TO := fun σ H Q => t σ H fun x H1 => match x with
  | .int i => Q (some i) H1
  | _ => False
theorem po_z (h : PE X e te) : PO X (some e) (tPz te) := po_w (po_some (pe_mon h)) fun σ H Q h => ⟨_, h, fun x H1 h1 => by
  split at h1
  · exact ⟨_, rfl, h1⟩
  · exact h1.elim⟩

/-! ### displays -/
def tLz (t : TA) : TE := fun σ H Q => t σ H fun xs H1 => xs.length ≤ sizeLine ∧ ∀ p H2, Nw H1 p (.lst xs) H2 → Q (.ref p) H2
def tTz (t : TA) : TE := fun σ H Q => t σ H fun xs H1 => xs.length ≤ sizeLine ∧ ∀ p H2, Nw H1 p (.tup xs) H2 → Q (.ref p) H2
theorem pe_lz {t : TA} (h : PA X es t) : PE X (.List es pos) (tLz t) := pe_w (pe_lst (pa_mon h)) fun σ H Q h => ⟨_, h, fun xs H1 h1 => ⟨h1.1, fun p hp => h1.2 p _ (nw hp)⟩⟩
theorem pe_tz {t : TA} {x1} (h : PA X es t) : PE X (.Tuple es x1 pos) (tTz t) := pe_w (pe_tup (pa_mon h)) fun σ H Q h => ⟨_, h, fun xs H1 h1 => ⟨h1.1, fun p hp => h1.2 p _ (nw hp)⟩⟩

/-! ### calls of built-ins -/
def zLen (K : PySem.W.Frag) : List V → Hp → VK → Prop := fun vs H Q => match vs with
  | [.str z] => z.length ≤ sizeLine ∧ Q (.int z.length) H
  | [.ref p] => (∃ xs, (SqL K H p xs ∨ SqT K H p xs) ∧ Q (.int xs.length) H) ∨ ∃ kvs, H p = some (.dK kvs) ∧ Q (.int kvs.length) H
  | _ => False
theorem c_len : CallR X (.builtin "len") (zLen X.K) := by
  intro pins s σ H xs us Q I r h
  unfold zLen at h
  split at h
  · exact call_len_str pins s σ H _ us Q I r ⟨_, rfl, h.1, h.2⟩
  · rcases h with ⟨xs, h, q⟩ | ⟨kvs, h, q⟩
    · exact call_len_seq pins s σ H _ us Q I r ⟨_, xs, rfl, h, q⟩
    · exact call_lenD pins s σ H _ us Q I r ⟨_, kvs, rfl, h, q⟩
  · exact h.elim
def zInt : List V → Hp → VK → Prop := fun vs H Q => match vs with
  | [.int i] => Q (.int i) H
  | [.bl k] => Q (.int (if k then 1 else 0)) H
  | [.str a] => ∃ n, PySem.intText? a = some n ∧ a.length ≤ 640 ∧ Q (.int n) H
  | _ => False
theorem c_int : CallR X (.type "int") zInt := by
  intro pins s σ H xs us Q I r h
  unfold zInt at h
  split at h
  · exact call_int1 pins s σ H _ us Q I r (.inl ⟨_, rfl, h⟩)
  · exact call_int1 pins s σ H _ us Q I r (.inr ⟨_, rfl, h⟩)
  · obtain ⟨n, h1, h2, q⟩ := h
    exact call_int_str pins s σ H _ us Q I r ⟨_, n, rfl, h1, h2, q⟩
  · exact h.elim
def zStr : List V → Hp → VK → Prop := fun vs H Q => match vs with
  | [.int i] => i.natAbs.log2 < 1920 ∧ Q (.str (toString i)) H
  | _ => False
theorem c_str : CallR X (.type "str") zStr := callr_w call_str_int fun vs H Q h => by
  unfold zStr at h
  split at h
  · exact ⟨_, rfl, h.1, h.2⟩
  · exact h.elim
def zAbs : List V → Hp → VK → Prop := fun vs H Q => match vs with
  | [.int i] => Q (.int (if i < 0 then -i else i)) H
  | _ => False
theorem c_abs : CallR X (.builtin "abs") zAbs := callr_w call_abs fun vs H Q h => by
  unfold zAbs at h
  split at h
  · exact ⟨_, rfl, h⟩
  · exact h.elim
def zMax : List V → Hp → VK → Prop := fun vs H Q => match vs with
  | [.int i, .int j] => Q (.int (if j > i then j else i)) H
  | _ => False
theorem c_max (hc : X.calm = true) : CallR X (.builtin "max") zMax := callr_w (call_max2 hc) fun vs H Q h => by
  unfold zMax at h
  split at h
  · exact ⟨_, _, rfl, h⟩
  · exact h.elim
def zMin : List V → Hp → VK → Prop := fun vs H Q => match vs with
  | [.int i, .int j] => Q (.int (if j < i then j else i)) H
  | _ => False
theorem c_min (hc : X.calm = true) : CallR X (.builtin "min") zMin := callr_w (call_min2 hc) fun vs H Q h => by
  unfold zMin at h
  split at h
  · exact ⟨_, _, rfl, h⟩
  · exact h.elim
def zSum (K : PySem.W.Frag) : List V → Hp → VK → Prop := fun vs H Q => match vs with
  | [.ref p] => ∃ ns : List Int, SqL K H p (ns.map V.int) ∧ Q (.int ns.sum) H
  | _ => False
theorem c_sum (hc : X.calm = true) : CallR X (.builtin "sum") (zSum X.K) := callr_w (cr_sum hc) fun vs H Q h => by
  unfold zSum at h
  split at h
  · obtain ⟨ns, h, q⟩ := h
    exact ⟨_, ns, rfl, h, q⟩
  · exact h.elim
def zAll (K : PySem.W.Frag) : List V → Hp → VK → Prop := fun vs H Q => match vs with
  | [.ref p] => ∃ bs : List Bool, SqL K H p (bs.map V.bl) ∧ Q (.bl (bs.all id)) H
  | _ => False
theorem c_all (hc : X.calm = true) : CallR X (.builtin "all") (zAll X.K) := callr_w (cr_all hc) fun vs H Q h => by
  unfold zAll at h
  split at h
  · obtain ⟨ns, h, q⟩ := h
    exact ⟨_, ns, rfl, h, q⟩
  · exact h.elim
def zList (K : PySem.W.Frag) : List V → Hp → VK → Prop := fun vs H Q => match vs with
  | [.ref p] => ∃ ys, (SqL K H p ys ∨ SqT K H p ys) ∧ ∀ l H2, Nw H l (.lst ys) H2 → Q (.ref l) H2
  | _ => False
theorem c_list : CallR X (.type "list") (zList X.K) := callr_w call_list_of fun vs H Q h => by
  unfold zList at h
  split at h
  · obtain ⟨ys, h, q⟩ := h
    exact ⟨_, ys, rfl, h, fun l hl => q l _ (nw hl)⟩
  · exact h.elim
def zTuple (K : PySem.W.Frag) : List V → Hp → VK → Prop := fun vs H Q => match vs with
  | [.ref p] => ∃ ys, (SqL K H p ys ∧ ∀ l H2, Nw H l (.tup ys) H2 → Q (.ref l) H2) ∨ (SqT K H p ys ∧ Q (.ref p) H)
  | _ => False
theorem c_tuple : CallR X (.type "tuple") (zTuple X.K) := callr_w call_tuple_of fun vs H Q h => by
  unfold zTuple at h
  split at h
  · obtain ⟨ys, ⟨h, q⟩ | ⟨h, q⟩⟩ := h
    · exact ⟨_, ys, rfl, .inl ⟨h, fun l hl => q l _ (nw hl)⟩⟩
    · exact ⟨_, ys, rfl, .inr ⟨h, q⟩⟩
  · exact h.elim

/-! ### isinstance -/
def isK (k T : String) : Bool := k == T || (k == "bool" && T == "int")
/-- a value's kind -/
def KindV (K : PySem.W.Frag) (H : Hp) (x : V) (k : String) : Prop := match x with
  | .non => k = "NoneType"
  | .bl _ => k = "bool"
  | .int _ => k = "int"
  | .str _ => k = "str"
  | .ref p => (k = "list" ∧ ∃ xs, SqL K H p xs) ∨ (k = "tuple" ∧ ∃ xs, SqT K H p xs) ∨ (k = "dict" ∧ ((∃ kvs, H p = some (.dK kvs)) ∨ ∃ kvs, H p = some (.dT kvs)))
  | _ => False
theorem KindV.tyx {K : PySem.W.Frag} {H : Hp} {x : V} {k : String} (h : KindV K H x k) : TyX K H x (.type k) ∧ k ∈ ["NoneType", "bool", "int", "str", "list", "tuple", "dict"] := by
  unfold KindV at h
  split at h
  · subst h; exact ⟨.base .non, by simp⟩
  · subst h; exact ⟨.base (.bl _), by simp⟩
  · subst h; exact ⟨.base (.int _), by simp⟩
  · subst h; exact ⟨.base (.str _), by simp⟩
  · rcases h with ⟨rfl, xs, (h | ⟨o, h⟩) | ⟨o, its, n, h1, h2, _⟩⟩ | ⟨rfl, xs, (h | ⟨o, h⟩) | ⟨o, its, n, h1, h2, _⟩⟩ | ⟨rfl, ⟨kvs, h⟩ | ⟨kvs, h⟩⟩
    · exact ⟨.base (.lst h), by simp⟩
    · exact ⟨.base (.frz h), by simp⟩
    · exact ⟨.kList h1 h2, by simp⟩
    · exact ⟨.base (.tup h), by simp⟩
    · exact ⟨.fTuple h, by simp⟩
    · exact ⟨.kTuple h1 h2, by simp⟩
    · exact ⟨.base (.dK h), by simp⟩
    · exact ⟨.base (.dT h), by simp⟩
  · exact h.elim
theorem kit_isK {K : PySem.W.Frag} {k T : String} (hk : k ∈ ["NoneType", "bool", "int", "str", "list", "tuple", "dict"]) (hT : T ∈ ["bool", "int", "str", "list", "tuple", "dict"]) : PySem.W.kitOne K (.type k) (.type T) = some (isK k T) := by
  refine kit_ty ?_
  have all : (["NoneType", "bool", "int", "str", "list", "tuple", "dict"].all fun k => ["bool", "int", "str", "list", "tuple", "dict"].all fun T => kitB k T == some (isK k T)) = true := by decide +kernel
  have h1 := (List.all_eq_true.mp all) k hk
  have h2 := (List.all_eq_true.mp h1) T hT
  exact eq_of_beq h2
def zIsi (K : PySem.W.Frag) : List V → Hp → VK → Prop := fun vs H Q => match vs with
  | [x, .ty T] => T ∈ ["bool", "int", "str", "list", "tuple", "dict"] ∧ ∃ k, KindV K H x k ∧ Q (.bl (isK k T)) H
  | [x, .ref tp] => ∃ T U k, H tp = some (.tup [.ty T, .ty U]) ∧ T ∈ ["bool", "int", "str", "list", "tuple", "dict"] ∧ U ∈ ["bool", "int", "str", "list", "tuple", "dict"] ∧ KindV K H x k ∧ Q (.bl (isK k T || isK k U)) H
  | _ => False
theorem c_isi : CallR X (.builtin "isinstance") (zIsi X.K) := by
  intro pins s σ H xs us Q I r h
  unfold zIsi at h
  split at h
  · obtain ⟨hT, k, hk, q⟩ := h
    obtain ⟨h1, h2⟩ := hk.tyx
    exact call_isi pins s σ H _ us Q I r ⟨_, _, _, _, _, rfl, .ty _, h1, kit_isK h2 hT, q⟩
  · obtain ⟨T, U, k, hp, hT, hU, hk, q⟩ := h
    obtain ⟨h1, h2⟩ := hk.tyx
    refine call_isiT pins s σ H _ us Q I r ⟨_, _, _, _, _, _, rfl, hp, .cons (.ty T) (.cons (.ty U) .nil), h1, kitAny_cons (b := isK k T) (kit_isK h2 hT) (fun e => ?_) (fun e => ?_), q⟩
    · rw [e, Bool.false_or]
      refine kitAny_cons (kit_isK h2 hU) (fun e2 => ?_) (fun e2 => e2)
      rw [e2]
      rfl
    · rw [e]
      rfl
  · exact h.elim
end

/-! ### methods of built-in types -/
section
variable {X : Cx} {a b e o : Expr} {es : List Expr} {te to : TE} {t : TA} {name : Str} {apos cpos : Pos} {T id : String}
/-- a text's method -/
def tMs (r : Str → List V → Hp → VK → Prop) (to : TE) (t : TA) : TE := fun σ H Q => to σ H fun x H1 => match x with
  | .str a => t σ H1 fun xs H2 => r a xs H2 Q
  | _ => False
def tMs0 (r : Str → Hp → VK → Prop) (to : TE) : TE := fun σ H Q => to σ H fun x H1 => match x with
  | .str a => r a H1 Q
  | _ => False
def ofS (r : Str → List V → Hp → VK → Prop) : V → List V → Hp → VK → Prop := fun x xs H Q => ∃ a, x = .str a ∧ r a xs H Q
theorem pe_ms {r : Str → List V → Hp → VK → Prop} (slot : Slot "str" name id) (hty : typeOf (.builtin id) = pure (.type "method_descriptor")) (hm : MtR X id (ofS r)) (ho : PE X o to) (ha : PA X (e :: es) t)
    (hbase : attributeBase o name X.env (eval o X.env) = eval o X.env := by rfl)
    (hfew : ((backTo cpos (starEach (e :: es) X.env)).all (fun x => !x.1) && (backToKw cpos (keywordEach [] X.env)).all (fun x => x.1.isSome)
      && decide ((e :: es).length + ([] : List Keyword).length + (if ([] : List Keyword).isEmpty then 0 else 1) < 30)) = true := by rfl)
    (hline : (apos.endLine == cpos.line) = true := by rfl) (hs : starEach (e :: es) X.env = (false, eval e X.env) :: starEach es X.env := by rfl) (hplain : (backTo cpos (starEach es X.env)).any (·.1) = false := by rfl) :
    PE X (.Call (.Attribute o name apos) (e :: es) [] cpos) (tMs r to t) :=
  pe_w (pe_bm PySem.F.plainAttrs_str slot hty hm (pe_mon ho) (pa_mon ha) hbase hfew hline hs hplain) fun σ H Q h => ⟨_, h, fun x H1 h1 => by
    split at h1
    · exact ⟨rfl, _, h1, fun xs H2 h2 => ⟨_, rfl, h2⟩⟩
    · exact h1.elim⟩
theorem pe_ms0 {r : Str → Hp → VK → Prop} (slot : Slot "str" name id) (hty : typeOf (.builtin id) = pure (.type "method_descriptor")) (hm : MtR X id (ofS fun a xs H Q => xs = [] ∧ r a H Q)) (ho : PE X o to)
    (hbase : attributeBase o name X.env (eval o X.env) = eval o X.env := by rfl) (hline : (apos.endLine == cpos.line) = true := by rfl) :
    PE X (.Call (.Attribute o name apos) [] [] cpos) (tMs0 r to) :=
  pe_w (pe_bm0 PySem.F.plainAttrs_str slot hty hm (pe_mon ho) hbase hline) fun σ H Q h => ⟨_, h, fun x H1 h1 => by
    split at h1
    · exact ⟨rfl, _, rfl, rfl, h1⟩
    · exact h1.elim⟩
theorem mt_w {id : String} {r r' : V → List V → Hp → VK → Prop} (h : MtR X id r') (i : ∀ x vs H Q, r x vs H Q → r' x vs H Q) : MtR X id r :=
  fun pins s σ H x xs v us Q I rx rs q => h pins s σ H x xs v us Q I rx rs (i x xs H Q q)
def zJoin (K : PySem.W.Frag) : Str → List V → Hp → VK → Prop := fun a xs H Q => match xs with
  | [.ref p] => ∃ ys : List Str, (SqL K H p (ys.map V.str) ∨ SqT K H p (ys.map V.str)) ∧ (ys.map (·.length)).sum + ys.length * a.length ≤ 16777216 ∧ Q (.str (Txt.join a ys)) H
  | _ => False
theorem m_join : MtR X "str.join" (ofS (zJoin X.K)) := mt_w mt_join fun x vs H Q ⟨a, e, h⟩ => by
  unfold zJoin at h
  split at h
  · obtain ⟨ys, h1, h2, q⟩ := h
    exact ⟨a, _, ys, e, rfl, h1, h2, q⟩
  · exact h.elim
def zZfill : Str → List V → Hp → VK → Prop := fun a xs H Q => match xs with
  | [.int i] => PadOk i = true ∧ Q (.str (Txt.zfill a i)) H
  | _ => False
theorem m_zfill : MtR X "str.zfill" (ofS zZfill) := mt_w mt_zfill fun x vs H Q ⟨a, e, h⟩ => by
  unfold zZfill at h
  split at h
  · exact ⟨a, _, e, rfl, h.1, h.2⟩
  · exact h.elim
def zPure (g : Str → V) : Str → Hp → VK → Prop := fun a H Q => Q (g a) H
theorem m0_of {id : String} {g : Str → V} (h : MtR X id (fun x xs H Q => ∃ a, x = .str a ∧ xs = [] ∧ True ∧ Q (g a) H)) : MtR X id (ofS fun a xs H Q => xs = [] ∧ zPure g a H Q) :=
  mt_w h fun x vs H Q ⟨a, e, h1, h2⟩ => ⟨a, e, h1, trivial, h2⟩
theorem m_isascii : MtR X "str.isascii" (ofS fun a xs H Q => xs = [] ∧ zPure (fun a => .bl (Txt.isascii a)) a H Q) := m0_of mt_isascii
theorem m_isprintable : MtR X "str.isprintable" (ofS fun a xs H Q => xs = [] ∧ zPure (fun a => .bl (Txt.isprintable a)) a H Q) := m0_of mt_isprintable
theorem m_islower : MtR X "str.islower" (ofS fun a xs H Q => xs = [] ∧ zPure (fun a => .bl (Txt.islower a)) a H Q) := m0_of mt_islower
theorem m_isalpha : MtR X "str.isalpha" (ofS fun a xs H Q => xs = [] ∧ zPure (fun a => .bl (Txt.isalpha a)) a H Q) := m0_of mt_isalpha
theorem m_isdigit : MtR X "str.isdigit" (ofS fun a xs H Q => xs = [] ∧ zPure (fun a => .bl (Txt.isdigit a)) a H Q) := m0_of mt_isdigit
/-- a list's method -/
def tMl (K : PySem.W.Frag) (r : Addr → List V → Hp → VK → Prop) (to : TE) (t : TA) : TE := fun σ H Q => to σ H fun x H1 => match x with
  | .ref l => (∃ xs, SqL K H1 l xs) ∧ t σ H1 fun xs H2 => r l xs H2 Q
  | _ => False
def ofL (r : Addr → List V → Hp → VK → Prop) : V → List V → Hp → VK → Prop := fun x xs H Q => ∃ a, x = .ref a ∧ r a xs H Q
theorem pe_ml {r : Addr → List V → Hp → VK → Prop} (slot : Slot "list" name id) (hty : typeOf (.builtin id) = pure (.type "method_descriptor")) (hm : MtR X id (ofL r)) (ho : PE X o to) (ha : PA X (e :: es) t)
    (hbase : attributeBase o name X.env (eval o X.env) = eval o X.env := by rfl)
    (hfew : ((backTo cpos (starEach (e :: es) X.env)).all (fun x => !x.1) && (backToKw cpos (keywordEach [] X.env)).all (fun x => x.1.isSome)
      && decide ((e :: es).length + ([] : List Keyword).length + (if ([] : List Keyword).isEmpty then 0 else 1) < 30)) = true := by rfl)
    (hline : (apos.endLine == cpos.line) = true := by rfl) (hs : starEach (e :: es) X.env = (false, eval e X.env) :: starEach es X.env := by rfl) (hplain : (backTo cpos (starEach es X.env)).any (·.1) = false := by rfl) :
    PE X (.Call (.Attribute o name apos) (e :: es) [] cpos) (tMl X.K r to t) :=
  pe_w (pe_bm PySem.F.plainAttrs_list slot hty hm (pe_mon ho) (pa_mon ha) hbase hfew hline hs hplain) fun σ H Q h => ⟨_, h, fun x H1 h1 => by
    split at h1
    · exact ⟨.inl ⟨rfl, h1.1⟩, _, h1.2, fun xs H2 h2 => ⟨_, rfl, h2⟩⟩
    · exact h1.elim⟩
def zApp : Addr → List V → Hp → VK → Prop := fun l ys H Q => match ys with
  | [y] => ∃ xs, H l = some (.lst xs) ∧ xs.length < sizeLine ∧ ∀ H2, Wr H l (.lst (xs ++ [y])) H2 → Q .non H2
  | _ => False
theorem m_append : MtR X "list.append" (ofL zApp) := mt_w mt_append fun x vs H Q ⟨a, e, h⟩ => by
  unfold zApp at h
  split at h
  · obtain ⟨xs, h1, h2, q⟩ := h
    exact ⟨a, xs, _, e, rfl, h1, h2, q _ wr⟩
  · exact h.elim
end

/-! ### targets and statements -/
section
variable {X : Cx} {a b e o i : Expr} {es : List Expr} {te to ti : TE} {pos : Pos}
def zSetL : V → V → V → Hp → (Hp → Prop) → Prop := fun o i v H Q => match o, i with
  | .ref p, .int k => ∃ xs j, H p = some (.lst xs) ∧ ixN xs.length k = some j ∧ ∀ H2, Wr H p (.lst (xs.set j v)) H2 → Q H2
  | _, _ => False
theorem s_list : PSet X zSetL := by
  intro pins s σ H o i v ov iv u Q I ro ri rv h
  unfold zSetL at h
  split at h
  · obtain ⟨xs, j, h1, h2, q⟩ := h
    exact set_list pins s σ H _ _ v ov iv u Q I ro ri rv ⟨_, xs, _, j, rfl, rfl, h1, h2, q _ wr⟩
  · exact h.elim
def gCz (t : TG) (u : TGs) : TGs := fun vs σ H Q => match vs with
  | v :: r => t v σ H fun σ' H' => u r σ' H' Q
  | [] => False
def gNz : TGs := fun vs σ H Q => match vs with
  | [] => Q σ H
  | _ => False
theorem pgs_w {g : List Expr} {t t' : TGs} (h : PGs X g t) (i : ∀ v σ H Q, t' v σ H Q → t v σ H Q) : PGs X g t' := ⟨fun pins s σ H v u Q I r q => h.run pins s σ H v u Q I r (i v σ H Q q)⟩
theorem pgs_nz : PGs X [] gNz := pgs_w pgs_nil fun v σ H Q h => by
  unfold gNz at h
  split at h
  · exact ⟨rfl, h⟩
  · exact h.elim
theorem pgs_cz {t : TG} {u : TGs} (ht : PG X e t) (hu : PGs X es u) (hs : (assignEach (e :: es) X.env).map (·.2) = assign e X.env :: (assignEach es X.env).map (·.2) := by rfl) : PGs X (e :: es) (gCz t u) :=
  pgs_w (pgs_cons ht hu hs) fun v σ H Q h => by
    unfold gCz at h
    split at h
    · exact ⟨_, _, rfl, h⟩
    · exact h.elim
def gTz (K : PySem.W.Frag) (n : Nat) (t : TGs) : TG := fun v σ H Q => match v with
  | .ref a => ∃ xs, SqT K H a xs ∧ xs.length = n ∧ t xs σ H Q
  | _ => False
theorem pg_tz {k : Nat} {t : TGs} {n : Nat} (hc : X.calm = true) (h : PGs X es t) (hn : (assignEach es X.env).length = n := by rfl) (hst : (assignEach es X.env).findIdx? (·.1) = none := by rfl) : PG X (.Tuple es k pos) (gTz X.K n t) :=
  pg_w (pg_tup hc h hn hst) fun v σ H Q h => by
    unfold gTz at h
    split at h
    · obtain ⟨xs, h1, h2, q⟩ := h
      exact ⟨_, xs, rfl, h1, h2, q⟩
    · exact h.elim
def tPrz (i j : Nat) (ta : TA) : TS := fun D σ H => ta σ H fun vs H1 => match vs with
  | [v, w] => D.nx ((σ.set i (some v)).set j (some w)) H1
  | _ => False
theorem ps_parZ {i j : Nat} {x y : Str} {ta : TA} {px py pt : Pos} {kt k2 pt2} (hc : X.calm = true) (hN : X.N.Nodup) (hi : X.N[i]? = some x) (hj : X.N[j]? = some y) (hij : i ≠ j)
    (hx : X.env.scope.names.lookup x = some .local) (hy : X.env.scope.names.lookup y = some .local) (ha : PA X [a, b] ta)
    (hw : swappedStores [.Tuple [.Name x px, .Name y py] kt pt] (.Tuple [a, b] k2 pt2) X.env = pure (some [x, y]))
    (hs : swapsWithSole [.Tuple [.Name x px, .Name y py] kt pt] (.Tuple [a, b] k2 pt2) pos.line X.env = pure false := by rfl) :
    PS X (.Assign [.Tuple [.Name x px, .Name y py] kt pt] (.Tuple [a, b] k2 pt2) pos) (tPrz i j ta) :=
  ps_w (ps_par hc hN hi hj hij hx hy (pa_mon ha) hw hs) fun D σ H h => ⟨_, h, fun vs H1 h1 => by
    split at h1
    · exact ⟨_, _, rfl, h1⟩
    · exact h1.elim⟩
def tRngZ (ta : TA) : TI := fun σ H R => ta σ H fun vs H1 => match vs with
  | [.int j] => -(2 ^ 62) ≤ j ∧ j < 2 ^ 62 ∧ R (Itr 0 j.toNat) H1
  | _ => False
theorem pi_rngZ {tg : Expr} {p : Pos} {ta : TA} (hg : Gl X "range") (hm : X.mg "range" = none) (ha : PA X [a] ta) (hs : starEach [a] X.env = [(false, eval a X.env)] := by rfl) : PI X tg (.Call (.Name "range" p) [a] [] pos) (tRngZ ta) :=
  pi_w (pi_range1 hg hm (pa_mon ha) hs) fun σ H R h => ⟨_, h, fun vs H1 h1 => by
    split at h1
    · exact ⟨_, rfl, h1⟩
    · exact h1.elim⟩
def tItL (K : PySem.W.Frag) (te : TE) : TI := fun σ H R => te σ H fun x H1 => match x with
  | .ref a => (∃ xs, SqL K H1 a xs) ∧ R (Itl K a) H1
  | _ => False
theorem pi_lz {tg : Expr} (h : PE X e te) : PI X tg e (tItL X.K te) := pi_w (pi_list (pe_mon h)) fun σ H R h => ⟨_, h, fun x H1 h1 => by
  split at h1
  · exact ⟨_, rfl, h1.1, h1.2⟩
  · exact h1.elim⟩
def tItT (K : PySem.W.Frag) (te : TE) : TI := fun σ H R => te σ H fun x H1 => match x with
  | .ref a => (∃ xs, SqT K H1 a xs) ∧ R (Itt K a) H1
  | _ => False
theorem pi_tz {tg : Expr} (h : PE X e te) : PI X tg e (tItT X.K te) := pi_w (pi_tup (pe_mon h)) fun σ H R h => ⟨_, h, fun x H1 h1 => by
  split at h1
  · exact ⟨_, rfl, h1.1, h1.2⟩
  · exact h1.elim⟩
def tItS (te : TE) : TI := fun σ H R => te σ H fun x H1 => match x with
  | .str a => R (Its a) H1
  | _ => False
theorem pi_sz {tg : Expr} (h : PE X e te) : PI X tg e (tItS te) := pi_w (pi_str (pe_mon h)) fun σ H R h => ⟨_, h, fun x H1 h1 => by
  split at h1
  · exact ⟨_, rfl, h1⟩
  · exact h1.elim⟩
end

/-! ### defs -/
/-- a def that stands under its name: its contract -/
structure Ct (P : Program) (w : World) (K : PySem.W.Frag) (mg : Str → Option Value) (base : Heap) (CX : CXT) (k : Nat) (x : Str) (ps : List Str) (sp : Sp) : Prop where
  ex : ∃ f fd, mg x = some (.ref f) ∧ PySem.W.keepIn K (.ref f) = true ∧ Binds K fd ps [] ∧ FnOk P w K mg base CX k f fd ps sp ∧ ∃ oc od osl, K.lookup f = some ⟨oc, od, .func fd, osl⟩
/-- a def of the top as it stands -/
structure Df (K : PySem.W.Frag) (mg : Str → Option Value) (x : Str) (st : Stmt) (ps : List Str) : Prop where
  ex : ∃ f fd, Fun K x x st f fd ∧ mg x = some (.ref f) ∧ Binds K fd ps []
def tCl (sp : Sp) (E : XK) (t : TA) : TE := fun σ H Q => t σ H fun vs H1 => sp vs H1 Q E
section
variable {X : Cx} {CX : CXT} {k : Nat} {x : Str} {ps : List Str} {sp : Sp} {E : XK} {p pos : Pos} {e : Expr} {es : List Expr} {t : TA}
theorem pe_cl (C : Ct X.prog X.w X.K X.mg X.base CX k x ps sp) (hr : Room k X.A) (hx : Passes CX X E) (ha : PA X (e :: es) t) (hg : Gl X x := by rfl)
    (hdb : (x == ("__debug__" : Str)) = false := by decide)
    (he : starEach (e :: es) X.env = (false, eval e X.env) :: starEach es X.env := by rfl) (hpl : (backTo pos (starEach es X.env)).any (·.1) = false := by rfl) : PE X (.Call (.Name x p) (e :: es) [] pos) (tCl sp E t) := by
  obtain ⟨f, fd, hm, hk, hb, F, _⟩ := C.ex
  refine pe_w (pe_call F hr hg hm hk hb .nil hx ha hdb he hpl) fun σ H Q h => ?_
  show t σ H fun vs H1 => sp (vs ++ []) H1 Q E
  have e : (fun (vs : List V) (H1 : Hp) => sp (vs ++ []) H1 Q E) = fun vs H1 => sp vs H1 Q E := by
    funext vs H1
    rw [List.append_nil]
  rw [e]
  exact h
theorem pe_cl0 (C : Ct X.prog X.w X.K X.mg X.base CX k x ps sp) (hr : Room k X.A) (hx : Passes CX X E) (hg : Gl X x := by rfl) (hdb : (x == ("__debug__" : Str)) = false := by decide) : PE X (.Call (.Name x p) [] [] pos) (tCl sp E tNil) := by
  obtain ⟨f, fd, hm, hk, hb, F, _⟩ := C.ex
  exact pe_call0 F hr hg hm hk hb .nil hx hdb
end
/-- promises by the parameters -/
def sp1 (p : V → Hp → VK → XK → Prop) : Sp := fun vs H Q E => match vs with
  | [a] => p a H Q E
  | _ => False
def sp2 (p : V → V → Hp → VK → XK → Prop) : Sp := fun vs H Q E => match vs with
  | [a, b] => p a b H Q E
  | _ => False
def sp3 (p : V → V → V → Hp → VK → XK → Prop) : Sp := fun vs H Q E => match vs with
  | [a, b, c] => p a b c H Q E
  | _ => False
def sp4 (p : V → V → V → V → Hp → VK → XK → Prop) : Sp := fun vs H Q E => match vs with
  | [a, b, c, d] => p a b c d H Q E
  | _ => False
theorem sp1_of {p : V → Hp → VK → XK → Prop} {vs : List V} {H : Hp} {Q : VK} {E : XK} (h : sp1 p vs H Q E) : ∃ a, vs = [a] ∧ p a H Q E := by
  unfold sp1 at h
  split at h
  · exact ⟨_, rfl, h⟩
  · exact h.elim
theorem sp2_of {p : V → V → Hp → VK → XK → Prop} {vs : List V} {H : Hp} {Q : VK} {E : XK} (h : sp2 p vs H Q E) : ∃ a b, vs = [a, b] ∧ p a b H Q E := by
  unfold sp2 at h
  split at h
  · exact ⟨_, _, rfl, h⟩
  · exact h.elim
theorem sp3_of {p : V → V → V → Hp → VK → XK → Prop} {vs : List V} {H : Hp} {Q : VK} {E : XK} (h : sp3 p vs H Q E) : ∃ a b c, vs = [a, b, c] ∧ p a b c H Q E := by
  unfold sp3 at h
  split at h
  · exact ⟨_, _, _, rfl, h⟩
  · exact h.elim
theorem sp4_of {p : V → V → V → V → Hp → VK → XK → Prop} {vs : List V} {H : Hp} {Q : VK} {E : XK} (h : sp4 p vs H Q E) : ∃ a b c d, vs = [a, b, c, d] ∧ p a b c d H Q E := by
  unfold sp4 at h
  split at h
  · exact ⟨_, _, _, _, rfl, h⟩
  · exact h.elim
section
variable {P : Program} {w : World} {K : PySem.W.Frag} {mg : Str → Option Value} {base : Heap}
theorem fun_at {x q : Str} {st : Stmt} {f : Addr} {fd : FuncData} (F : Fun K x q st f fd) : ∃ oc od osl, K.lookup f = some ⟨oc, od, .func fd, osl⟩ := by
  obtain ⟨oc, od, _, _, _, _, _, _, osl, _, h, _⟩ := F.ex
  exact ⟨oc, od, osl, h⟩
/-- the same def called by names alone, the names in the order ks: g puts the values in the parameters' order -/
structure CtK (P : Program) (w : World) (K : PySem.W.Frag) (mg : Str → Option Value) (base : Heap) (CX : CXT) (k : Nat) (x : Str) (ps ks : List Str) (g : {α : Type} → List α → List α) (sp : Sp) : Prop where
  ex : ∃ f fd, mg x = some (.ref f) ∧ PySem.W.keepIn K (.ref f) = true ∧ (∀ (s : Shared) (ws : List Value), (g ws).length = ps.length → BindsTo s fd ⟨[], ks.zip ws⟩ (ps.zip (g ws))) ∧
    (∀ {zs : List V} {ws : List Value}, Vals zs ws → Vals (g zs) (g ws)) ∧ FnOk P w K mg base CX k f fd ps sp
theorem Ct.kw {CX : CXT} {k : Nat} {x : Str} {st : Stmt} {ps ks : List Str} {g : {α : Type} → List α → List α} {sp : Sp} (C : Ct P w K mg base CX k x ps sp) (D : Df K mg x st ps)
    (h : ∀ (kV doc pm : Value) (an : Option Addr) (cdv ct : Value) (ws : List Value), (g ws).length = ps.length → bindArgs (PySem.W.fnOf x x (defArgs st) (defBody st) (defScope st) .none kV doc pm an cdv ct) ⟨[], ks.zip ws⟩ = pure (ps.zip (g ws)))
    (hg : ∀ {zs : List V} {ws : List Value}, Vals zs ws → Vals (g zs) (g ws)) : CtK P w K mg base CX k x ps ks g sp := by
  obtain ⟨f, fd, hm, hk, hb, F, oc, od, osl, hl⟩ := C.ex
  obtain ⟨f', fd', F', hm', _⟩ := D.ex
  have e : f = f' := by
    rw [hm] at hm'
    cases hm'
    rfl
  subst e
  obtain ⟨oc', od', kV, doc, pm, an, cdv, ct, osl', rfl, hl', _⟩ := F'.ex
  have e2 : fd = PySem.W.fnOf x x (defArgs st) (defBody st) (defScope st) .none kV doc pm an cdv ct := by
    rw [hl] at hl'
    cases hl'
    rfl
  subst e2
  exact ⟨f, _, hm, hk, fun s ws hlen => .of_eq (h kV doc pm an cdv ct ws hlen), hg, F⟩
/-- f(k = v, ..) -/
def tClK (g : {α : Type} → List α → List α) (sp : Sp) (E : XK) (t : TA) : TE := fun σ H Q => t σ H fun zs H1 => sp (g zs) H1 Q E
theorem pe_clK {X : Cx} {CX : CXT} {k : Nat} {x : Str} {ps ks : List Str} {g : {α : Type} → List α → List α} {sp : Sp} {E : XK} {p pos : Pos} {kws : List Keyword} {t : TA} (C : CtK X.prog X.w X.K X.mg X.base CX k x ps ks g sp) (hr : Room k X.A) (hx : Passes CX X E)
    (hkw : PK X kws t) (hg : Gl X x := by rfl) (hall : (backToKw pos (keywordEach kws X.env)).all (·.1.isSome) = true := by rfl) (hks : (backToKw pos (keywordEach kws X.env)).filterMap (·.1) = ks := by rfl)
    (hdb : (x == ("__debug__" : Str)) = false := by decide)
    (hpl : ((backTo pos (starEach [] X.env)).any (·.1) || (backToKw pos (keywordEach kws X.env)).any (·.1.isNone)) = false := by rfl) :
    PE X (.Call (.Name x p) [] kws pos) (tClK g sp E t) := by
  obtain ⟨f, fd, hm, hk, hb, hrel, F⟩ := C.ex
  refine ⟨fun pins s σ H Q I h => wpAny_Call_Name_kw (ld_glob I hg hm ?_ hdb)⟩
  refine PySem.W.callWith_KW0 (h₀ := X.base) I.ok.mod.kin hk hall (thn (hkw.run pos pins s σ H _ I h) fun ws s1 ⟨zs, H1, I1, rz, q⟩ => ⟨I1.kIn, ?_⟩) hpl
  rw [hks]
  have r2 := hrel rz
  have hl : (g ws).length = ps.length := by
    rw [← r2.length]
    exact F.len _ _ _ _ q
  refine wpAny_call (codeAny_mono (F.run X.A X.stack s1 H1 ⟨[], ks.zip ws⟩ (g ws) (g zs) Q E hr I1.env0 (hb s1 ws hl) r2 q) fun r s' hq => ?_)
  match r, hq with
  | .error e, hq => exact hx pins σ H1 s1 e s' I1 hq
  | .ok (.ret u), hq => exact I1.after hq
  | .ok .next, hq => exact False.elim hq
  | .ok .brk, hq => exact False.elim hq
  | .ok .cont, hq => exact False.elim hq
/-- a def that raises nothing, one parameter -/
theorem ct1 {x : Str} {st : Stmt} {a : Str} {N : List Str} {k : Nat} {p : V → Hp → VK → XK → Prop} (D : Df K mg x st [a]) (S : FnScope N [a] (defScope st))
    (body : ∀ (f : Addr) (cdv : Value) (A : Around) (outer : List Env) (s : Shared) (H : Hp) (u : V) (Q : VK) (E : XK), Room k (A.deeper (envOfC x (defScope st) s.heap.objs.size f cdv)) → p u H Q E →
      ∃ t, PSs (cxOf CX0 P w K mg base N x (defScope st) f cdv A outer s H E).nox (defBody st) t ∧ t { nx := fun _ H' => Q .non H', rt := Q } (start N [u]) H) : Ct P w K mg base CX0 (k + 1) x [a] (sp1 p) := by
  obtain ⟨f, fd, F, hm, hb⟩ := D.ex
  refine ⟨f, fd, hm, F.kp, hb, F.ok S (fun vs H Q E h => ?_) (fun cdv A outer s H vs Q E hr h => ?_), fun_at F⟩
  · obtain ⟨u, rfl, _⟩ := sp1_of h
    rfl
  · obtain ⟨u, rfl, h⟩ := sp1_of h
    exact body f cdv A outer s H u Q E hr h
theorem ct2 {x : Str} {st : Stmt} {a b : Str} {N : List Str} {k : Nat} {p : V → V → Hp → VK → XK → Prop} (D : Df K mg x st [a, b]) (S : FnScope N [a, b] (defScope st))
    (body : ∀ (f : Addr) (cdv : Value) (A : Around) (outer : List Env) (s : Shared) (H : Hp) (u v : V) (Q : VK) (E : XK), Room k (A.deeper (envOfC x (defScope st) s.heap.objs.size f cdv)) → p u v H Q E →
      ∃ t, PSs (cxOf CX0 P w K mg base N x (defScope st) f cdv A outer s H E).nox (defBody st) t ∧ t { nx := fun _ H' => Q .non H', rt := Q } (start N [u, v]) H) : Ct P w K mg base CX0 (k + 1) x [a, b] (sp2 p) := by
  obtain ⟨f, fd, F, hm, hb⟩ := D.ex
  refine ⟨f, fd, hm, F.kp, hb, F.ok S (fun vs H Q E h => ?_) (fun cdv A outer s H vs Q E hr h => ?_), fun_at F⟩
  · obtain ⟨u, v, rfl, _⟩ := sp2_of h
    rfl
  · obtain ⟨u, v, rfl, h⟩ := sp2_of h
    exact body f cdv A outer s H u v Q E hr h
theorem ct3 {x : Str} {st : Stmt} {a b c : Str} {N : List Str} {k : Nat} {p : V → V → V → Hp → VK → XK → Prop} (D : Df K mg x st [a, b, c]) (S : FnScope N [a, b, c] (defScope st))
    (body : ∀ (f : Addr) (cdv : Value) (A : Around) (outer : List Env) (s : Shared) (H : Hp) (u v y : V) (Q : VK) (E : XK), Room k (A.deeper (envOfC x (defScope st) s.heap.objs.size f cdv)) → p u v y H Q E →
      ∃ t, PSs (cxOf CX0 P w K mg base N x (defScope st) f cdv A outer s H E).nox (defBody st) t ∧ t { nx := fun _ H' => Q .non H', rt := Q } (start N [u, v, y]) H) : Ct P w K mg base CX0 (k + 1) x [a, b, c] (sp3 p) := by
  obtain ⟨f, fd, F, hm, hb⟩ := D.ex
  refine ⟨f, fd, hm, F.kp, hb, F.ok S (fun vs H Q E h => ?_) (fun cdv A outer s H vs Q E hr h => ?_), fun_at F⟩
  · obtain ⟨u, v, y, rfl, _⟩ := sp3_of h
    rfl
  · obtain ⟨u, v, y, rfl, h⟩ := sp3_of h
    exact body f cdv A outer s H u v y Q E hr h
theorem ct4 {x : Str} {st : Stmt} {a b c d : Str} {N : List Str} {k : Nat} {p : V → V → V → V → Hp → VK → XK → Prop} (D : Df K mg x st [a, b, c, d]) (S : FnScope N [a, b, c, d] (defScope st))
    (body : ∀ (f : Addr) (cdv : Value) (A : Around) (outer : List Env) (s : Shared) (H : Hp) (u v y z : V) (Q : VK) (E : XK), Room k (A.deeper (envOfC x (defScope st) s.heap.objs.size f cdv)) → p u v y z H Q E →
      ∃ t, PSs (cxOf CX0 P w K mg base N x (defScope st) f cdv A outer s H E).nox (defBody st) t ∧ t { nx := fun _ H' => Q .non H', rt := Q } (start N [u, v, y, z]) H) : Ct P w K mg base CX0 (k + 1) x [a, b, c, d] (sp4 p) := by
  obtain ⟨f, fd, F, hm, hb⟩ := D.ex
  refine ⟨f, fd, hm, F.kp, hb, F.ok S (fun vs H Q E h => ?_) (fun cdv A outer s H vs Q E hr h => ?_), fun_at F⟩
  · obtain ⟨u, v, y, z, rfl, _⟩ := sp4_of h
    rfl
  · obtain ⟨u, v, y, z, rfl, h⟩ := sp4_of h
    exact body f cdv A outer s H u v y z Q E hr h
end

/-! ### loops over known items -/
/-- the iterator J gives these items while S stands -/
structure Wk (J : It) (items : List V) (S : Hp → Prop) : Prop where
  go : ∀ i H, S H → i < items.length → J.go i H
  stop : ∀ H, S H → J.stop items.length H
  yld : ∀ i H x H', S H → i < items.length → J.yld i H x H' → H' = H ∧ items[i]? = some x
theorem wk_list {K : PySem.W.Frag} {a : Addr} (xs : List V) : Wk (Itl K a) xs (fun H => SqL K H a xs) where
  go i H s h := ⟨xs, xs[i], s, by simp [h]⟩
  stop H s := ⟨xs, s, Nat.le_refl _⟩
  yld i H x H' s _ y := ⟨y.1, y.2 xs s⟩
theorem wk_tup {K : PySem.W.Frag} {a : Addr} (xs : List V) : Wk (Itt K a) xs (fun H => SqT K H a xs) where
  go i H s h := ⟨xs, xs[i], s, by simp [h]⟩
  stop H s := ⟨xs, s, Nat.le_refl _⟩
  yld i H x H' s _ y := ⟨y.1, y.2 xs s⟩
def rngV (lo : Int) (n : Nat) : List V := (List.range n).map fun (i : Nat) => V.int (lo + i)
theorem rngV_len (lo : Int) (n : Nat) : (rngV lo n).length = n := by simp [rngV]
theorem rngV_get {lo : Int} {n i : Nat} (h : i < n) : (rngV lo n)[i]? = some (.int (lo + i)) := by
  rw [rngV, List.getElem?_map, List.getElem?_range h]
  rfl
theorem rngV_at {lo : Int} {n i : Nat} {x : V} (h : (rngV lo n)[i]? = some x) : i < n ∧ x = .int (lo + i) := by
  have hi : i < n := by
    have q := (List.getElem?_eq_some_iff.mp h).1
    rw [rngV_len] at q
    exact q
  rw [rngV_get hi] at h
  exact ⟨hi, (Option.some.inj h).symm⟩
theorem wk_rng (lo : Int) (n : Nat) : Wk (Itr lo n) (rngV lo n) (fun _ => True) where
  go i H _ h := by
    rw [rngV_len] at h
    exact h
  stop H _ := by
    show n ≤ (rngV lo n).length
    rw [rngV_len]
    exact Nat.le_refl n
  yld i H x H' s h y := by
    rw [rngV_len] at h
    obtain ⟨y1, y2⟩ := y
    exact ⟨y1, by rw [y2, rngV_get h]⟩
def signV (c : Nat) : V := V.str ⟨#[c]⟩
def signsV (x : Str) : List V := x.cps.toList.map signV
theorem wk_str (x : Str) : Wk (Its x) (signsV x) (fun _ => True) where
  go i H _ h := by
    rw [signsV, List.length_map, Array.length_toList] at h
    exact h
  stop H _ := by
    show x.cps.size ≤ (signsV x).length
    rw [signsV, List.length_map, Array.length_toList]
    exact Nat.le_refl _
  yld i H v H' s h y := by
    obtain ⟨y1, c, y2, y3⟩ := y
    refine ⟨y1, ?_⟩
    rw [signsV, List.getElem?_map, Array.getElem?_toList, y2, y3]
    rfl
/-- for: the invariant by the turn -/
theorem for_w {J : It} {items : List V} {S : Hp → Prop} (wk : Wk J items S) {g : TG} {tb : TS} {D : Ends} {σ : L2.St} {H : Hp} (Pv : Nat → L2.St → Hp → Prop) (h0 : Pv 0 σ H) (hS : ∀ i σ H, Pv i σ H → S H)
    (hs : ∀ i x σ H, items[i]? = some x → Pv i σ H → g x σ H fun σ2 H2 => tb { D with nx := Pv (i + 1), ct := Pv (i + 1), bk := D.nx } σ2 H2) (hd : ∀ σ H, Pv items.length σ H → D.nx σ H) :
    ∃ W : Nat → Nat → L2.St → Hp → Prop, (∃ m, W 0 m σ H) ∧ ∀ i m σ H, W i m σ H →
      (J.stop i H ∧ D.nx σ H) ∨ (J.go i H ∧ ∃ N : L2.St → Hp → Prop, (∀ σ' H', N σ' H' → ∃ m', m' < m ∧ W (i + 1) m' σ' H') ∧ ∀ x H', J.yld i H x H' → g x σ H' fun σ2 H2 => tb { D with nx := N, ct := N, bk := D.nx } σ2 H2) := by
  refine ⟨fun i m σ H => m = items.length - i ∧ i ≤ items.length ∧ Pv i σ H, ⟨_, rfl, Nat.zero_le _, h0⟩, ?_⟩
  rintro i m σ H ⟨rfl, hi, p⟩
  have s := hS i σ H p
  rcases Nat.lt_or_ge i items.length with hlt | hge
  · refine .inr ⟨wk.go i H s hlt, Pv (i + 1), fun σ' H' p' => ⟨items.length - (i + 1), by omega, rfl, hlt, p'⟩, fun x H' y => ?_⟩
    obtain ⟨rfl, hx⟩ := wk.yld i H x H' s hlt y
    exact hs i x σ _ hx p
  · have e : i = items.length := Nat.le_antisymm hi hge
    subst e
    exact .inl ⟨wk.stop H s, hd σ H p⟩

/-! ### comprehensions -/
def monI (t : TI) : TI := fun σ H R => ∃ R0 : It → Hp → Prop, t σ H R0 ∧ ∀ J H1, R0 J H1 → R J H1
def monG (t : TG) : TG := fun v σ H Q => ∃ Q0 : L2.St → Hp → Prop, t v σ H Q0 ∧ ∀ σ1 H1, Q0 σ1 H1 → Q σ1 H1
def monT (t : TT) : TT := fun σ H Q => ∃ Q0 : Bool → Hp → Prop, t σ H Q0 ∧ ∀ b H1, Q0 b H1 → Q b H1
theorem pi_mon {X : Cx} {g e : Expr} {t : TI} (h : PI X g e t) : PI X g e (monI t) := ⟨fun pins s σ H R I ⟨R0, q, i⟩ =>
  thn (h.run pins s σ H R0 I q) fun v s1 h1 => thn h1 fun u s2 ⟨it, fp, tn, J, H', a1, a2, a3, a4, a5, a6⟩ => ⟨it, fp, tn, J, H', a1, a2, a3, a4, a5, i _ _ a6⟩⟩
theorem pg_mon {X : Cx} {g : Expr} {t : TG} (h : PG X g t) : PG X g (monG t) := ⟨fun pins s σ H v u Q I r ⟨Q0, q, i⟩ =>
  thn (h.run pins s σ H v u Q0 I r q) fun _ s1 ⟨σ', H', a, b⟩ => ⟨σ', H', a, i _ _ b⟩⟩
theorem pts_mon {X : Cx} {es : List Expr} {t : TT} (h : PTs X es t) : PTs X es (monT t) := ⟨fun pins s σ H Q I ⟨Q0, q, i⟩ =>
  thn (h.run pins s σ H Q0 I q) fun b s1 ⟨H', a, c⟩ => ⟨H', a, i _ _ c⟩⟩
/-- [te for g in wi if tt]: W by the turn, a measure, the list so far -/
def tLcz (wi : TI) (g : TG) (tt : TT) (te : TE) (vs : List Nat) : TE := fun σ H Q => wi σ H fun J H1 => ∀ D, H1 D = none → ∃ W : Nat → Nat → List V → Hp → Prop, (∃ m, ∀ H2, Nw H1 D (.lst []) H2 → W 0 m [] H2) ∧
  ∀ i m acc H, H D = some (.lst acc) → W i m acc H → (J.stop i H ∧ Q (.ref D) H) ∨
    (acc.length < sizeLine ∧ J.go i H ∧ ∃ Nx : List V → Hp → Prop, (∀ a' H', Nx a' H' → ∃ m', m' < m ∧ W (i + 1) m' a' H') ∧ ∀ x H', J.yld i H x H' → g x (wipe σ vs) H' fun σ2 H2 => wipe σ2 vs = wipe σ vs ∧ tt σ2 H2 fun b H3 =>
      if b = true then te σ2 H3 fun y H4 => H4 D = some (.lst acc) ∧ ∀ H5, Wr H4 D (.lst (acc ++ [y])) H5 → Nx (acc ++ [y]) H5 else H3 D = some (.lst acc) ∧ Nx acc H3)
theorem tLcz_of {wi : TI} {g : TG} {tt : TT} {te : TE} {vs : List Nat} {σ : L2.St} {H : Hp} {Q : VK} (h : tLcz wi g tt te vs σ H Q) : tLc (monI wi) (monG g) (monT tt) (mon te) vs σ H Q := by
  refine ⟨_, h, fun J H1 h1 D hD => ?_⟩
  obtain ⟨W, ⟨m, w0⟩, step⟩ := h1 D hD
  refine ⟨fun i m H => ∃ acc, H D = some (.lst acc) ∧ W i m acc H, ⟨m, [], upd_same, w0 _ (nw hD)⟩, ?_⟩
  rintro i m H ⟨acc, hacc, w⟩
  rcases step i m acc H hacc w with q | ⟨hz, go, Nx, hN, body⟩
  · exact .inl q
  · refine .inr ⟨go, fun H' => ∃ acc, H' D = some (.lst acc) ∧ Nx acc H', fun H' ⟨a', e, n⟩ => ?_, fun x H' y => ?_⟩
    · obtain ⟨m', l, w'⟩ := hN a' H' n
      exact ⟨m', l, a', e, w'⟩
    · refine ⟨_, body x H' y, fun σ2 H2 ⟨e, h2⟩ => ⟨e, _, h2, fun b H3 h3 => ?_⟩⟩
      cases b with
      | true =>
        rw [if_pos rfl] at h3 ⊢
        exact ⟨_, h3, fun z H4 h4 => ⟨acc, h4.1, hz, _, upd_same, h4.2 _ wr⟩⟩
      | false =>
        rw [if_neg Bool.false_ne_true] at h3 ⊢
        exact ⟨acc, h3.1, h3.2⟩
theorem pe_lcz {X : Cx} {elt tg iter : Expr} {ifs : List Expr} {scope : Scope} {own : List (Str × Nat)} {pos : Pos} {wi : TI} {g : TG} {tt : TT} {te : TE} (hc : X.calm = true) (hN : X.N.Nodup) (hi : PI X tg iter wi) (ok : BlkOk X.N X.env.scope scope own)
    (hg : ∀ (s : Shared) (H : Hp) (C : Addr) (cl : List (Str × Addr)) (fp : List Addr), PG (X.blk s H scope (compEnvC scope cl C X.env) fp) tg g) (ht : ∀ (s : Shared) (H : Hp) (C : Addr) (cl : List (Str × Addr)) (fp : List Addr), PTs (X.blk s H scope (compEnvC scope cl C X.env) fp) ifs tt)
    (he : ∀ (s : Shared) (H : Hp) (C : Addr) (cl : List (Str × Addr)) (fp : List Addr), PE (X.blk s H scope (compEnvC scope cl C X.env) fp) elt te) (hs : ∀ x, foldedSetIterable iter X.env x = pure x := by intro _; rfl) :
    PE X (.ListComp elt [⟨tg, iter, ifs, 0⟩] scope pos) (tLcz wi g tt te (own.map (·.2))) :=
  pe_w (pe_lc hc hN (pi_mon hi) ok (fun s H C cl fp => pg_mon (hg s H C cl fp)) (fun s H C cl fp => pts_mon (ht s H C cl fp)) (fun s H C cl fp => pe_mon (he s H C cl fp)) hs) fun σ H Q h => tLcz_of h
theorem ps_setLcz {X : Cx} {i : Nat} {y : Str} {py : Pos} {elt tg iter : Expr} {ifs : List Expr} {scope : Scope} {own : List (Str × Nat)} {pos spos : Pos} {wi : TI} {g : TG} {tt : TT} {te : TE} (hc : X.calm = true) (hN : X.N.Nodup) (hy : X.N[i]? = some y) (hyl : X.env.scope.names.lookup y = some .local)
    (hsw : swapsWith (.ListComp elt [⟨tg, iter, ifs, 0⟩] scope pos) (some (.Name y py)) spos.line X.env = pure true) (hi : PI X tg iter wi) (ok : BlkOk X.N X.env.scope scope own)
    (hg : ∀ (s : Shared) (H : Hp) (C : Addr) (cl : List (Str × Addr)) (fp : List Addr), PG (X.blk s H scope (compEnvC scope cl C X.env) fp) tg g) (ht : ∀ (s : Shared) (H : Hp) (C : Addr) (cl : List (Str × Addr)) (fp : List Addr), PTs (X.blk s H scope (compEnvC scope cl C X.env) fp) ifs tt)
    (he : ∀ (s : Shared) (H : Hp) (C : Addr) (cl : List (Str × Addr)) (fp : List Addr), PE (X.blk s H scope (compEnvC scope cl C X.env) fp) elt te) (hs : ∀ x, foldedSetIterable iter X.env x = pure x := by intro _; rfl) :
    PS X (.Assign [.Name y py] (.ListComp elt [⟨tg, iter, ifs, 0⟩] scope pos) spos) (tAsg (tLcz wi g tt te (own.map (·.2))) (gName i)) :=
  ps_w (ps_setLc hc hN hy hyl hsw (pi_mon hi) ok (fun s H C cl fp => pg_mon (hg s H C cl fp)) (fun s H C cl fp => pts_mon (ht s H C cl fp)) (fun s H C cl fp => pe_mon (he s H C cl fp)) hs) fun D σ H h => tLcz_of h
/-- a comprehension over known items: the invariant by the turn and the list so far -/
theorem lc_w {J : It} {items : List V} {S : Hp → Prop} (wk : Wk J items S) (hz : items.length ≤ 1000000) {g : TG} {tt : TT} {te : TE} {vs : List Nat} {σ : L2.St} {H1 : Hp} {D : Addr} {Qd : Hp → Prop} (Pv : Nat → List V → Hp → Prop) (h0 : ∀ H2, Nw H1 D (.lst []) H2 → Pv 0 [] H2)
    (hS : ∀ i acc H, Pv i acc H → S H) (hL : ∀ i acc H, Pv i acc H → acc.length ≤ i)
    (hs : ∀ i x acc H, items[i]? = some x → H D = some (.lst acc) → Pv i acc H → g x (wipe σ vs) H fun σ2 H2 => wipe σ2 vs = wipe σ vs ∧ tt σ2 H2 fun b H3 =>
      if b = true then te σ2 H3 fun y H4 => H4 D = some (.lst acc) ∧ ∀ H5, Wr H4 D (.lst (acc ++ [y])) H5 → Pv (i + 1) (acc ++ [y]) H5 else H3 D = some (.lst acc) ∧ Pv (i + 1) acc H3)
    (hd : ∀ acc H, acc.length ≤ items.length → H D = some (.lst acc) → Pv items.length acc H → Qd H) :
    ∃ W : Nat → Nat → List V → Hp → Prop, (∃ m, ∀ H2, Nw H1 D (.lst []) H2 → W 0 m [] H2) ∧
  ∀ i m acc H, H D = some (.lst acc) → W i m acc H → (J.stop i H ∧ Qd H) ∨
    (acc.length < sizeLine ∧ J.go i H ∧ ∃ Nx : List V → Hp → Prop, (∀ a' H', Nx a' H' → ∃ m', m' < m ∧ W (i + 1) m' a' H') ∧ ∀ x H', J.yld i H x H' → g x (wipe σ vs) H' fun σ2 H2 => wipe σ2 vs = wipe σ vs ∧ tt σ2 H2 fun b H3 =>
      if b = true then te σ2 H3 fun y H4 => H4 D = some (.lst acc) ∧ ∀ H5, Wr H4 D (.lst (acc ++ [y])) H5 → Nx (acc ++ [y]) H5 else H3 D = some (.lst acc) ∧ Nx acc H3) := by
  have hs1 : 1000000 < sizeLine := by decide
  -- the list is never longer than the turns done
  refine ⟨fun i m acc H => m = items.length - i ∧ i ≤ items.length ∧ Pv i acc H, ⟨items.length, fun H2 n => ⟨by omega, Nat.zero_le _, h0 H2 n⟩⟩, ?_⟩
  rintro i m acc H hacc ⟨rfl, hi, p⟩
  have hl := hL i acc H p
  have s := hS i acc H p
  rcases Nat.lt_or_ge i items.length with hlt | hge
  · refine .inr ⟨by omega, wk.go i H s hlt, Pv (i + 1), fun a' H' p' => ⟨items.length - (i + 1), by omega, rfl, hlt, p'⟩, fun x H' y => ?_⟩
    obtain ⟨rfl, hx⟩ := wk.yld i H x H' s hlt y
    exact hs i x acc _ hx hacc p
  · have e : i = items.length := Nat.le_antisymm hi hge
    subst e
    exact .inl ⟨wk.stop H s, hd acc H hl hacc p⟩

/-! ### constants of the module, permutations -/
theorem pe_gk {X : Cx} {x : Str} {v : V} {pos : Pos} (h : ∃ u, X.mg x = some u ∧ RelV v u) (hg : Gl X x := by rfl) (hd : (x == ("__debug__" : Str)) = false := by decide) : PE X (.Name x pos) (tC v) := by
  obtain ⟨u, hm, r⟩ := h
  exact pe_glob hg hm r hd
def zNeg : V → Hp → VK → Prop := fun x H Q => match x with
  | .int i => Q (.int (-i)) H
  | _ => False
theorem un_negZ {X : Cx} : UnR X (unaryOp .USub) zNeg :=
  fun pins s σ H x v Q I r h => by
    unfold zNeg at h
    split at h
    · exact un_neg pins s σ H _ v Q I r ⟨_, rfl, h⟩
    · exact h.elim
def perm_0 {α : Type} (l : List α) : List α := l
theorem perm_0_ok {zs : List V} {ws : List Value} (r : Vals zs ws) : Vals (perm_0 zs) (perm_0 ws) := r
def perm_1_0 {α : Type} : List α → List α
  | [a, b] => [b, a]
  | _ => []
theorem perm_1_0_ok {zs : List V} {ws : List Value} (r : Vals zs ws) : Vals (perm_1_0 zs) (perm_1_0 ws) := by
  match zs, ws, r with
  | [], [], _ => exact .nil
  | [_], [_], _ => exact .nil
  | [_, _], [_, _], .cons a (.cons b .nil) => exact .cons b (.cons a .nil)
  | _ :: _ :: _ :: _, _ :: _ :: _ :: _, _ => exact .nil

/-! ### the same rules over the written part by its own name (a block's rules must not speak of the block) -/
section
variable {X : Cx} (K : PySem.W.Frag)
theorem k_add (hK : X.K = K := by rfl) : OpR X (binaryOp .Add) (zAdd K) := hK ▸ o_add
theorem k_eq (hu : X.A.units + 64 < cLine) (hK : X.K = K := by rfl) : OpR X (compareOp .Eq) (zEq K false) := hK ▸ o_eq hu
theorem k_ne (hu : X.A.units + 64 < cLine) (hK : X.K = K := by rfl) : OpR X (compareOp .NotEq) (zEq K true) := hK ▸ o_ne hu
theorem k_in (hK : X.K = K := by rfl) : OpR X (compareOp .In) (zIn K false) := hK ▸ o_in
theorem k_nin (hK : X.K = K := by rfl) : OpR X (compareOp .NotIn) (zIn K true) := hK ▸ o_nin
theorem k_ix (hK : X.K = K := by rfl) : IxR X (zIx K) := hK ▸ o_ix
theorem k_sl (hK : X.K = K := by rfl) : SlR X (zSl K) := hK ▸ o_sl
theorem k_len (hK : X.K = K := by rfl) : CallR X (.builtin "len") (zLen K) := hK ▸ c_len
theorem k_sum (hc : X.calm = true) (hK : X.K = K := by rfl) : CallR X (.builtin "sum") (zSum K) := hK ▸ c_sum hc
theorem k_all (hc : X.calm = true) (hK : X.K = K := by rfl) : CallR X (.builtin "all") (zAll K) := hK ▸ c_all hc
theorem k_list (hK : X.K = K := by rfl) : CallR X (.type "list") (zList K) := hK ▸ c_list
theorem k_tuple (hK : X.K = K := by rfl) : CallR X (.type "tuple") (zTuple K) := hK ▸ c_tuple
theorem k_isi (hK : X.K = K := by rfl) : CallR X (.builtin "isinstance") (zIsi K) := hK ▸ c_isi
theorem mk_join (hK : X.K = K := by rfl) : MtR X "str.join" (ofS (zJoin K)) := hK ▸ m_join
theorem pt_trK {a : Expr} {ta : TE} (h : PE X a ta) (hK : X.K = K := by rfl) (he : ∀ whole, isTrue a X.env whole = (do let v ← whole; standAt a.pos; holding [v] (truthy v)) := by intro _; rfl) : PT X a (tTr K ta) := hK ▸ pt_tr h he
theorem pi_lzK {tg e : Expr} {te : TE} (h : PE X e te) (hK : X.K = K := by rfl) : PI X tg e (tItL K te) := hK ▸ pi_lz h
theorem pi_tzK {tg e : Expr} {te : TE} (h : PE X e te) (hK : X.K = K := by rfl) : PI X tg e (tItT K te) := hK ▸ pi_tz h
theorem pg_tzK {es : List Expr} {k : Nat} {pos : Pos} {t : TGs} {n : Nat} (hc : X.calm = true) (h : PGs X es t) (hK : X.K = K := by rfl) (hn : (assignEach es X.env).length = n := by rfl) (hst : (assignEach es X.env).findIdx? (·.1) = none := by rfl) : PG X (.Tuple es k pos) (gTz K n t) :=
  hK ▸ pg_tz hc h hn hst
theorem pe_mlK {e o : Expr} {es : List Expr} {to : TE} {t : TA} {name : Str} {apos cpos : Pos} {id : String} {r : Addr → List V → Hp → VK → Prop} (slot : Slot "list" name id) (hty : typeOf (.builtin id) = pure (.type "method_descriptor")) (hm : MtR X id (ofL r)) (ho : PE X o to) (ha : PA X (e :: es) t)
    (hK : X.K = K := by rfl) (hbase : attributeBase o name X.env (eval o X.env) = eval o X.env := by rfl)
    (hfew : ((backTo cpos (starEach (e :: es) X.env)).all (fun x => !x.1) && (backToKw cpos (keywordEach [] X.env)).all (fun x => x.1.isSome)
      && decide ((e :: es).length + ([] : List Keyword).length + (if ([] : List Keyword).isEmpty then 0 else 1) < 30)) = true := by rfl)
    (hline : (apos.endLine == cpos.line) = true := by rfl) (hs : starEach (e :: es) X.env = (false, eval e X.env) :: starEach es X.env := by rfl) (hplain : (backTo cpos (starEach es X.env)).any (·.1) = false := by rfl) :
    PE X (.Call (.Attribute o name apos) (e :: es) [] cpos) (tMl K r to t) := hK ▸ pe_ml slot hty hm ho ha hbase hfew hline hs hplain
end

/-! ### items at a place -/
theorem atI_some {α : Type} {xs : List α} {r : Int} (h0 : 0 ≤ r) (h : r < (xs.length : Int)) : ∃ v, atI xs r = some v ∧ v ∈ xs ∧ xs[r.toNat]? = some v := by
  have hl : r.toNat < xs.length := by omega
  have q := atI_nat (List.getElem?_eq_getElem hl)
  rw [Int.toNat_of_nonneg h0] at q
  exact ⟨xs[r.toNat], q, List.getElem_mem hl, List.getElem?_eq_getElem hl⟩
/-- an int of a written list -/
theorem menuI (ms : List Int) {r : Int} (h0 : 0 ≤ r) (h : r < (ms.length : Int)) : ∃ v, atI (ms.map V.int) r = some (.int v) ∧ v ∈ ms := by
  obtain ⟨v, h1, h2, _⟩ := atI_some (xs := ms.map V.int) h0 (by rw [List.length_map]; exact h)
  obtain ⟨i, hi, rfl⟩ := List.mem_map.mp h2
  exact ⟨i, h1, hi⟩
theorem iteY {c : Bool} {A B : Prop} (h : c = true) (a : A) : if c = true then A else B := by
  rw [if_pos h]
  exact a
theorem iteN {c : Bool} {A B : Prop} (h : c = false) (b : B) : if c = true then A else B := by
  rw [if_neg (by rw [h]; exact Bool.false_ne_true)]
  exact b
/-- one of two walks -/
def tIor (a b : TI) : TI := fun σ H R => a σ H R ∨ b σ H R
theorem pi_or {X : Cx} {tg e : Expr} {a b : TI} (ha : PI X tg e a) (hb : PI X tg e b) : PI X tg e (tIor a b) := ⟨fun pins s σ H R I h => by
  rcases h with h | h
  · exact ha.run pins s σ H R I h
  · exact hb.run pins s σ H R I h⟩
theorem dT {p : Prop} [Decidable p] (h : decide p = true) : p := of_decide_eq_true h
theorem dF {p : Prop} [Decidable p] (h : ¬ decide p = true) : ¬ p := fun q => h (decide_eq_true q)
theorem signsV_len (x : Str) : (signsV x).length = x.length := by
  rw [signsV, List.length_map, Array.length_toList]
  rfl
theorem signsV_at {x : Str} {i : Nat} {v : V} (h : (signsV x)[i]? = some v) : ∃ c, x.cps.toList[i]? = some c ∧ v = signV c := by
  rw [signsV, List.getElem?_map] at h
  cases e : x.cps.toList[i]? with
  | none => rw [e] at h; cases h
  | some c =>
    rw [e] at h
    exact ⟨c, rfl, (Option.some.inj h).symm⟩

/-! ### the end -/
section
variable {P : Program} {w : World} {K : PySem.W.Frag} {mg : Str → Option Value} {base : Heap}
theorem df_mk {h : Heap} (X : K.In h) (G : h.Ns mainGlobals mg) {x : Str} {st : Stmt} {ps : List Str} {f : Addr} {oc : Value} {od an : Option Addr} {osl : Array (Option Value)} {kV doc pm cdv ct : Value} (a : PySem.W.nsIn K mainGlobals x = some (some (.ref f)))
    (l : K.lookup f = some ⟨oc, od, .func (PySem.W.fnOf x x (defArgs st) (defBody st) (defScope st) .none kV doc pm an cdv ct), osl⟩) (c : PySem.W.codeIn K cdv x = true) (k : PySem.W.keepIn K (.ref f) = true)
    (b : ∀ (kV doc pm : Value) (an : Option Addr) (cdv ct : Value) (us : List Value), us.length = ps.length → bindArgs (PySem.W.fnOf x x (defArgs st) (defBody st) (defScope st) .none kV doc pm an cdv ct) ⟨us, []⟩ = pure (ps.zip us)) : Df K mg x st ps :=
  ⟨f, _, fun_mk l c k, PySem.W.mg_of X G a, (fun_mk l c k).binds b⟩
theorem law_fn {CX : CXT} {k : Nat} {x : Str} {ps : List Str} {sp : Sp} {fa : Addr} {fd : FuncData} {oc : Value} {od : Option Addr} {osl : Array (Option Value)} (C : Ct P w K mg base CX k x ps sp) (hfa : mg x = some (.ref fa))
    (l : K.lookup fa = some ⟨oc, od, .func fd, osl⟩) : FnOk P w K mg base CX k fa fd ps sp := by
  obtain ⟨f, fd', hm, _, _, F, oc', od', osl', hl⟩ := C.ex
  have e : f = fa := by
    rw [hm] at hfa
    cases hfa
    rfl
  subst e
  have e2 : fd' = fd := by
    rw [hl] at l
    cases l
    rfl
  subst e2
  exact F
end
end Z

/-! G: defs that call repr: what the room says of the guards is known. -/
namespace Z
open PySem PySem.Spec PyProof.Rows L2

/-- room, and nothing is being shown -/
structure RoomG (k : Nat) (A : Around) : Prop where
  room : Room k A
  free : A.guards = some []
theorem RoomG.mono {j k : Nat} {A : Around} (r : RoomG k A) (h : j ≤ k) : RoomG j A := ⟨r.room.mono h, r.free⟩
theorem RoomG.down {k : Nat} {A : Around} (r : RoomG (k + 1) A) (env : Env) : RoomG k (A.deeper env) := ⟨r.room.deeper env, r.free⟩
/-- one call of a def, at one place -/
theorem one_call {CX : CXT} {P : Program} {w : World} {K : PySem.W.Frag} {mg : Str → Option Value} {base : Heap} {k : Nat} {x qual : Str} {st : Stmt} {f : Addr} {fd : FuncData} {N ps : List Str} (F : Fun K x qual st f fd) (S : FnScope N ps (defScope st))
    {A : Around} {outer : List Env} {s : Shared} {H : Hp} {args : Args} {us : List Value} {vs : List V} {Q : VK} {E : XK} (hr : Room (k + 1) A) (e0 : Env0 P w K mg base A outer s H) (hb : BindsTo s fd args (ps.zip us)) (r : Vals vs us) (hl : vs.length = ps.length)
    (body : ∀ cdv : Value, ∃ t, PSs (cxOf CX P w K mg base N qual (defScope st) f cdv A outer s H E) (defBody st) t ∧ t { nx := fun _ H' => Q .non H', rt := Q } (start N vs) H) :
    codeAny (model P w) A (.call (.ref f) args) (CR CX outer P w H s Q E) s := by
  obtain ⟨oc, od, kV, doc, pm, an, cdv, ct, osl, e, lk, hcd⟩ := F.ex
  subst e
  obtain ⟨t, ht, hq⟩ := body cdv
  have grow : ∀ b o, base.get? b = some o → s.heap.get? b = some o := fun b o q => (e0.bs b o q).1
  have inK := e0.mod.kin.keeps grow
  have seen : ∀ y ∈ ps.zip us, (defScope st).names.lookup y.1 = some .local ∨ ((defScope st).names.lookup y.1 = some .cell ∧ ((cellsFrom (s.heap.objs.size + 1) (defScope st).names []).lookup y.1).isSome = true) := by
    intro y hy
    exact (S.par y.1 (List.of_mem_zip (a := y.1) (b := y.2) hy).1).imp_right fun q => ⟨q, PySem.W.cellsFrom_some _ _ _ (.inl q)⟩
  apply codeAny_call_function hr.depth (inK _ _ lk) rfl S.co S.gen rfl (PySem.W.codeRec_of inK hcd)
  apply hb
  apply wpAny_newFunctionEnv_cells S.kind seen
  rintro env rfl s1 x1
  refine And.intro ((e0.mod.nolimit.keeps grow).keeps x1.toInCall.keep) (codeAny_func ?_)
  have I := inv_start (CX := CX) (E := E) S hr.hd e0 hl r x1
  refine wpAny_mono (ht.run [] s1 (start N vs) H _ I hq) ?_ (fun _ _ z => z)
  have out : ∀ (s' : Shared) (σ' : L2.St) (H' : Hp) (v : V) (u : Value), Inv (cxOf CX P w K mg base N qual (defScope st) f cdv A outer s H E) [] σ' H' s' → RelV v u → Q v H' → CE outer P w H s Q u s' :=
    fun s' σ' H' v u J rv z => ⟨v, H', J.os, J.bare, J.base, J.hok, rv, z⟩
  intro fl s' hs
  match fl, hs with
  | .ret u, ⟨v, σ', H', J, rv, z⟩ => exact out s' σ' H' v u J rv z
  | .next, ⟨σ', H', J, z⟩ => exact out s' σ' H' .non .none J rfl z
  | .brk, ⟨_, _, _, z⟩ => exact z.elim
  | .cont, ⟨_, _, _, z⟩ => exact z.elim
/-- a def's promise where nothing is being shown -/
structure FnG (P : Program) (w : World) (K : PySem.W.Frag) (mg : Str → Option Value) (base : Heap) (CX : CXT) (k : Nat) (f : Addr) (fd : FuncData) (ps : List Str) (sp : Sp) : Prop where
  many : ∀ vs H Q E, sp vs H Q E → vs.length = ps.length
  call : ∀ (A : Around) (outer : List Env) (s : Shared) (H : Hp) (args : Args) (us : List Value) (vs : List V) (Q : VK) (E : XK), RoomG k A → Env0 P w K mg base A outer s H → BindsTo s fd args (ps.zip us) → Vals vs us → sp vs H Q E →
    codeAny (model P w) A (.call (.ref f) args) (CR CX outer P w H s Q E) s
structure Cg (P : Program) (w : World) (K : PySem.W.Frag) (mg : Str → Option Value) (base : Heap) (CX : CXT) (k : Nat) (x : Str) (ps : List Str) (sp : Sp) : Prop where
  ex : ∃ f fd, mg x = some (.ref f) ∧ PySem.W.keepIn K (.ref f) = true ∧ Binds K fd ps [] ∧ FnG P w K mg base CX k f fd ps sp ∧ ∃ oc od osl, K.lookup f = some ⟨oc, od, .func fd, osl⟩
theorem Ct.g {P : Program} {w : World} {K : PySem.W.Frag} {mg : Str → Option Value} {base : Heap} {CX : CXT} {k : Nat} {x : Str} {ps : List Str} {sp : Sp} (C : Ct P w K mg base CX k x ps sp) : Cg P w K mg base CX k x ps sp := by
  obtain ⟨f, fd, a, b, c, F, d⟩ := C.ex
  exact ⟨f, fd, a, b, c, ⟨F.len, fun A outer s H args us vs Q E r => F.run A outer s H args us vs Q E r.room⟩, d⟩
section
variable {X : Cx} {CX : CXT} {k : Nat} {x : Str} {ps : List Str} {sp : Sp} {E : XK} {p pos : Pos} {e : Expr} {es : List Expr} {t : TA}
/-- the callee runs -/
theorem fng_at {f : Addr} {fd : FuncData} {pins : List (Addr × Obj)} {σ : L2.St} {H : Hp} {s : Shared} {Q : VK} {us : List Value} {vs : List V} (F : FnG X.prog X.w X.K X.mg X.base CX k f fd ps sp) (hr : RoomG k X.A) (hb : Binds X.K fd ps []) (hx : Passes CX X E)
    (I : Inv X pins σ H s) (r : Vals vs us) (h : sp vs H Q E) : wpAny (model X.prog X.w) X.A (call (.ref f) us) (EP X pins σ Q) X.xe s := by
  have hl : us.length = ps.length := r.length.symm.trans (F.many _ _ _ _ h)
  have b := hb s us I.kIn (by simpa using hl)
  rw [List.append_nil] at b
  refine wpAny_call (codeAny_mono (F.call X.A X.stack s H ⟨us, []⟩ us vs Q E hr I.env0 b r h) ?_)
  intro r s' hq
  match r, hq with
  | .error e, hq => exact hx pins σ H s e s' I hq
  | .ok (.ret u), hq => exact I.after hq
  | .ok .next, hq => exact False.elim hq
  | .ok .brk, hq => exact False.elim hq
  | .ok .cont, hq => exact False.elim hq
theorem pe_cg (C : Cg X.prog X.w X.K X.mg X.base CX k x ps sp) (hr : RoomG k X.A) (hx : Passes CX X E) (ha : PA X (e :: es) t) (hg : Gl X x := by rfl)
    (hdb : (x == ("__debug__" : Str)) = false := by decide)
    (he : starEach (e :: es) X.env = (false, eval e X.env) :: starEach es X.env := by rfl) (hpl : (backTo pos (starEach es X.env)).any (·.1) = false := by rfl) : PE X (.Call (.Name x p) (e :: es) [] pos) (tCl sp E t) := by
  obtain ⟨f, fd, hm, hk, hb, F, _⟩ := C.ex
  exact ⟨fun pins s σ H Q I h => wpAny_Call_Name_kw (ld_glob I hg hm (PySem.W.callWith_K (h₀ := X.base) I.ok.mod.kin hk (thn (ha.run pos pins s σ H _ I h) fun us s1 ⟨vs, H1, I1, r, q⟩ => ⟨I1.kIn, fng_at F hr hb hx I1 r q⟩) he hpl) hdb)⟩
end
section
variable {P : Program} {w : World} {K : PySem.W.Frag} {mg : Str → Option Value} {base : Heap}
theorem fng {x : Str} {st : Stmt} {f : Addr} {fd : FuncData} {N ps : List Str} {k : Nat} {sp : Sp} (F : Fun K x x st f fd) (S : FnScope N ps (defScope st)) (len : ∀ vs H Q E, sp vs H Q E → vs.length = ps.length)
    (body : ∀ (cdv : Value) (A : Around) (outer : List Env) (s : Shared) (H : Hp) (vs : List V) (Q : VK) (E : XK), RoomG k (A.deeper (envOfC x (defScope st) s.heap.objs.size f cdv)) → sp vs H Q E →
      ∃ t, PSs (cxOf CX0 P w K mg base N x (defScope st) f cdv A outer s H E).nox (defBody st) t ∧ t { nx := fun _ H' => Q .non H', rt := Q } (start N vs) H) : FnG P w K mg base CX0 (k + 1) f fd ps sp :=
  ⟨len, fun A outer s H args us vs Q E hr e0 hb r h => one_call F S hr.room e0 hb r (len _ _ _ _ h) fun cdv => by
    obtain ⟨t, a, b⟩ := body cdv A outer s H vs Q E (hr.down _) h
    exact ⟨t, a.nox, b⟩⟩
theorem cg0 {x : Str} {st : Stmt} {N : List Str} {k : Nat} {p : Hp → VK → XK → Prop} (D : Df K mg x st []) (S : FnScope N [] (defScope st))
    (body : ∀ (f : Addr) (cdv : Value) (A : Around) (outer : List Env) (s : Shared) (H : Hp) (Q : VK) (E : XK), RoomG k (A.deeper (envOfC x (defScope st) s.heap.objs.size f cdv)) → p H Q E →
      ∃ t, PSs (cxOf CX0 P w K mg base N x (defScope st) f cdv A outer s H E).nox (defBody st) t ∧ t { nx := fun _ H' => Q .non H', rt := Q } (start N []) H) : Cg P w K mg base CX0 (k + 1) x [] (fun vs H Q E => vs = [] ∧ p H Q E) := by
  obtain ⟨f, fd, F, hm, hb⟩ := D.ex
  refine ⟨f, fd, hm, F.kp, hb, fng F S (fun vs H Q E h => by rw [h.1]; rfl) (fun cdv A outer s H vs Q E hr h => ?_), fun_at F⟩
  obtain ⟨rfl, h⟩ := h
  exact body f cdv A outer s H Q E hr h
theorem cg1 {x : Str} {st : Stmt} {a : Str} {N : List Str} {k : Nat} {p : V → Hp → VK → XK → Prop} (D : Df K mg x st [a]) (S : FnScope N [a] (defScope st))
    (body : ∀ (f : Addr) (cdv : Value) (A : Around) (outer : List Env) (s : Shared) (H : Hp) (u : V) (Q : VK) (E : XK), RoomG k (A.deeper (envOfC x (defScope st) s.heap.objs.size f cdv)) → p u H Q E →
      ∃ t, PSs (cxOf CX0 P w K mg base N x (defScope st) f cdv A outer s H E).nox (defBody st) t ∧ t { nx := fun _ H' => Q .non H', rt := Q } (start N [u]) H) : Cg P w K mg base CX0 (k + 1) x [a] (sp1 p) := by
  obtain ⟨f, fd, F, hm, hb⟩ := D.ex
  refine ⟨f, fd, hm, F.kp, hb, fng F S (fun vs H Q E h => ?_) (fun cdv A outer s H vs Q E hr h => ?_), fun_at F⟩
  · obtain ⟨u, rfl, _⟩ := sp1_of h
    rfl
  · obtain ⟨u, rfl, h⟩ := sp1_of h
    exact body f cdv A outer s H u Q E hr h
theorem cg2 {x : Str} {st : Stmt} {a b : Str} {N : List Str} {k : Nat} {p : V → V → Hp → VK → XK → Prop} (D : Df K mg x st [a, b]) (S : FnScope N [a, b] (defScope st))
    (body : ∀ (f : Addr) (cdv : Value) (A : Around) (outer : List Env) (s : Shared) (H : Hp) (u v : V) (Q : VK) (E : XK), RoomG k (A.deeper (envOfC x (defScope st) s.heap.objs.size f cdv)) → p u v H Q E →
      ∃ t, PSs (cxOf CX0 P w K mg base N x (defScope st) f cdv A outer s H E).nox (defBody st) t ∧ t { nx := fun _ H' => Q .non H', rt := Q } (start N [u, v]) H) : Cg P w K mg base CX0 (k + 1) x [a, b] (sp2 p) := by
  obtain ⟨f, fd, F, hm, hb⟩ := D.ex
  refine ⟨f, fd, hm, F.kp, hb, fng F S (fun vs H Q E h => ?_) (fun cdv A outer s H vs Q E hr h => ?_), fun_at F⟩
  · obtain ⟨u, v, rfl, _⟩ := sp2_of h
    rfl
  · obtain ⟨u, v, rfl, h⟩ := sp2_of h
    exact body f cdv A outer s H u v Q E hr h
theorem cg3 {x : Str} {st : Stmt} {a b c : Str} {N : List Str} {k : Nat} {p : V → V → V → Hp → VK → XK → Prop} (D : Df K mg x st [a, b, c]) (S : FnScope N [a, b, c] (defScope st))
    (body : ∀ (f : Addr) (cdv : Value) (A : Around) (outer : List Env) (s : Shared) (H : Hp) (u v v3 : V) (Q : VK) (E : XK), RoomG k (A.deeper (envOfC x (defScope st) s.heap.objs.size f cdv)) → p u v v3 H Q E →
      ∃ t, PSs (cxOf CX0 P w K mg base N x (defScope st) f cdv A outer s H E).nox (defBody st) t ∧ t { nx := fun _ H' => Q .non H', rt := Q } (start N [u, v, v3]) H) : Cg P w K mg base CX0 (k + 1) x [a, b, c] (sp3 p) := by
  obtain ⟨f, fd, F, hm, hb⟩ := D.ex
  refine ⟨f, fd, hm, F.kp, hb, fng F S (fun vs H Q E h => ?_) (fun cdv A outer s H vs Q E hr h => ?_), fun_at F⟩
  · obtain ⟨u, v, v3, rfl, _⟩ := sp3_of h
    rfl
  · obtain ⟨u, v, v3, rfl, h⟩ := sp3_of h
    exact body f cdv A outer s H u v v3 Q E hr h
end
end Z

/-! D: data with dicts, as it stands in the abstract heap; repr. -/
namespace Z
open PySem PySem.Spec PyProof.V PyProof.Rows L2

def keyD : Key → PyData
  | .inl i => .int i
  | .inr x => .str x
mutual
/-- a value as data; g: the lists do not lie where the modules do (what is asked where a dict is shown, too) -/
inductive Dz (g : Bool) (H : Hp) : V → PyData → Prop
  | non : Dz g H .non .none
  | bl (b : Bool) : Dz g H (.bl b) (.bool b)
  | int (i : Int) : Dz g H (.int i) (.int i)
  | str (x : Str) : Dz g H (.str x) (.str x)
  | lst {a : Addr} {xs : List V} {ds : List PyData} : H a = some (.lst xs) → (g = true → a ≠ sysModules) → DzAll g H xs ds → Dz g H (.ref a) (.list ds)
  | tup {a : Addr} {xs : List V} {ds : List PyData} : H a = some (.tup xs) → DzAll g H xs ds → Dz g H (.ref a) (.tuple ds)
  | dic {a : Addr} {kvs : List (Key × V)} {D : List (PyData × PyData)} : H a = some (.dK kvs) → DzKv g H kvs D → Dz g H (.ref a) (.dict D)
inductive DzAll (g : Bool) (H : Hp) : List V → List PyData → Prop
  | nil : DzAll g H [] []
  | cons {v : V} {vs : List V} {d : PyData} {ds : List PyData} : Dz g H v d → DzAll g H vs ds → DzAll g H (v :: vs) (d :: ds)
inductive DzKv (g : Bool) (H : Hp) : List (Key × V) → List (PyData × PyData) → Prop
  | nil : DzKv g H [] []
  | cons {k : Key} {v : V} {kvs : List (Key × V)} {d : PyData} {D : List (PyData × PyData)} : Dz g H v d → DzKv g H kvs D → DzKv g H ((k, v) :: kvs) ((keyD k, d) :: D)
end
mutual
theorem Dz.same {g : Bool} {H H2 : Hp} (s : Same H H2) : ∀ {v : V} {d : PyData}, Dz g H v d → Dz g H2 v d
  | _, _, .non => .non
  | _, _, .bl b => .bl b
  | _, _, .int i => .int i
  | _, _, .str x => .str x
  | _, _, .lst h n a => .lst (s _ _ h) n (DzAll.same s a)
  | _, _, .tup h a => .tup (s _ _ h) (DzAll.same s a)
  | _, _, .dic h a => .dic (s _ _ h) (DzKv.same s a)
theorem DzAll.same {g : Bool} {H H2 : Hp} (s : Same H H2) : ∀ {vs : List V} {ds : List PyData}, DzAll g H vs ds → DzAll g H2 vs ds
  | _, _, .nil => .nil
  | _, _, .cons h t => .cons (Dz.same s h) (DzAll.same s t)
theorem DzKv.same {g : Bool} {H H2 : Hp} (s : Same H H2) : ∀ {kvs : List (Key × V)} {D : List (PyData × PyData)}, DzKv g H kvs D → DzKv g H2 kvs D
  | _, _, .nil => .nil
  | _, _, .cons h t => .cons (Dz.same s h) (DzKv.same s t)
end
theorem key_reads {h : Heap} : ∀ (k : Key) (key : Value), keyIs k key = true → Reads h key (keyD k) [] := fun k key e => by
  rcases keyIs_shape e with ⟨i, t, rfl, rfl⟩ | ⟨x, t, rfl, rfl⟩
  · exact .int i t
  · exact .str x t
section
variable {g : Bool} {X : Cx} {pins : List (Addr × Obj)} {σ : L2.St} {H : Hp} {s : Shared}
mutual
theorem Dz.reads (I : Inv X pins σ H s) : ∀ {v : V} {d : PyData} (u : Value), Dz g H v d → RelV v u → ∃ as, Reads s.heap u d as ∧ (g = true → sysModules ∉ as)
  | _, _, u, .non, r => by
    cases r
    exact ⟨_, .none, fun _ => by simp⟩
  | _, _, u, .bl b, r => by
    cases r
    exact ⟨_, .bool b, fun _ => by simp⟩
  | _, _, u, .int i, r => by
    obtain ⟨t, rfl⟩ := r
    exact ⟨_, .int i t, fun _ => by simp⟩
  | _, _, u, .str x, r => by
    obtain ⟨t, rfl⟩ := r
    exact ⟨_, .str x t, fun _ => by simp⟩
  | _, _, u, .lst h n a, r => by
    cases r
    obtain ⟨_, its, m, rv, e⟩ := I.hok _ _ h
    obtain ⟨as, q, w⟩ := DzAll.reads I its a rv
    exact ⟨_, .list e rfl rfl (by simpa using q), fun e => by simp only [List.mem_cons, not_or]; exact ⟨fun z => n e z.symm, w e⟩⟩
  | _, _, u, .tup h a, r => by
    cases r
    obtain ⟨_, its, rv, o, ho, hc, m, hd⟩ := I.hok _ _ h
    obtain ⟨as, q, w⟩ := DzAll.reads I its a rv
    exact ⟨_, .tuple ho hc hd (by simpa using q), w⟩
  | _, _, u, .dic h a, r => by
    cases r
    obtain ⟨_, n, vs, rv, e⟩ := I.hok _ _ h
    obtain ⟨bs, q, w⟩ := DzKv.reads I vs a rv
    exact ⟨_, reads_dictOf key_reads e q, fun e => by simp only [List.mem_cons, not_or]; exact ⟨fun z => by rw [← z] at n; exact absurd n (by decide), w e⟩⟩
theorem DzAll.reads (I : Inv X pins σ H s) : ∀ {vs : List V} {ds : List PyData} (us : List Value), DzAll g H vs ds → Vals vs us → ∃ as, ReadsAll s.heap us ds as ∧ (g = true → sysModules ∉ as)
  | _, _, us, .nil, r => by
    cases r
    exact ⟨_, .nil, fun _ => by simp⟩
  | _, _, us, .cons h t, r => by
    cases r with
    | cons r1 r2 =>
      obtain ⟨as, q1, w1⟩ := Dz.reads I _ h r1
      obtain ⟨bs, q2, w2⟩ := DzAll.reads I _ t r2
      exact ⟨_, .cons q1 q2, fun e z => (List.mem_append.mp z).elim (w1 e) (w2 e)⟩
theorem DzKv.reads (I : Inv X pins σ H s) : ∀ {kvs : List (Key × V)} {D : List (PyData × PyData)} (vs : List (Key × Value)), DzKv g H kvs D → KV kvs vs → ∃ as, PairsRead s.heap keyD vs D as ∧ (g = true → sysModules ∉ as)
  | _, _, vs, .nil, r => by
    cases r
    exact ⟨_, .nil, fun _ => by simp⟩
  | _, _, vs, .cons h t, r => by
    cases r with
    | @cons _ b _ _ r1 r2 =>
      obtain ⟨k, u⟩ := b
      obtain ⟨rfl, r1⟩ := r1
      obtain ⟨as, q1, w1⟩ := Dz.reads I _ h r1
      obtain ⟨bs, q2, w2⟩ := DzKv.reads I _ t r2
      exact ⟨_, .cons q1 q2, fun e z => (List.mem_append.mp z).elim (w1 e) (w2 e)⟩
end
end
/-- repr(x) of data -/
def zRepr : List V → Hp → VK → Prop := fun vs H Q => match vs with
  | [v] => ∃ g d, Dz g H v d ∧ (d.hasDict = true → g = true) ∧ d.showable = true ∧ d.depth ≤ 60 ∧ d.shown.length ≤ sizeLine ∧ Q (.str d.shown) H
  | _ => False
theorem c_repr {X : Cx} {k : Nat} (hr : RoomG k X.A) : CallR X (.builtin "repr") zRepr := by
  intro pins s σ H xs us Q I r h
  unfold zRepr at h
  split at h
  · obtain ⟨g, d, hd, hg, hs, hp, hz, q⟩ := h
    obtain ⟨u, rfl, ru⟩ := vals1 r
    have un := hr.room.un
    obtain ⟨as, rd, w⟩ := Dz.reads I u hd ru
    have keep : ∀ {t : Nat} {h' : Heap}, (∀ b o, s.heap.get? b = some o → h'.get? b = some o) → ∀ t', EP X pins σ Q (.str d.shown t') { s with heap := h', toks := t } := fun hk t' => ⟨.str d.shown, H, I.kept hk, ⟨_, rfl⟩, q⟩
    cases rd with
    | none => exact PySem.P.repr_of_none ⟨.str _, H, I.tok _, ⟨_, rfl⟩, q⟩
    | bool b => exact PySem.P.repr_of_bool ⟨.str _, H, I.tok _, ⟨_, rfl⟩, by cases b <;> exact q⟩
    | int i t => exact PySem.P.repr_of_int (by simpa [PyData.showable] using hs) ⟨.str _, H, I.tok _, ⟨_, rfl⟩, q⟩
    | str x t => exact PySem.P.repr_of_str ⟨.str _, H, I.tok _, ⟨_, rfl⟩, q⟩ hz
    | list a b c e => exact repr_of_reads' (Reads.list a b c e) hs (fun z => w (hg z)) hr.free (by omega) (fun _ _ z => z) (fun h' u tk hk => keep hk _) hz
    | tuple a b c e => exact repr_of_reads' (Reads.tuple a b c e) hs (fun z => w (hg z)) hr.free (by omega) (fun _ _ z => z) (fun h' u tk hk => keep hk _) hz
    | dict a b c e f => exact repr_of_reads' (Reads.dict a b c e f) hs (fun z => w (hg z)) hr.free (by omega) (fun _ _ z => z) (fun h' u tk hk => keep hk _) hz
  · exact h.elim
/-- a list display, not where the modules are -/
def tLzS (t : TA) : TE := fun σ H Q => t σ H fun xs H1 => xs.length ≤ sizeLine ∧ ∀ p H2, Nw H1 p (.lst xs) H2 → p ≠ sysModules → Q (.ref p) H2
theorem pe_lzS {X : Cx} {es : List Expr} {t : TA} {pos : Pos} (h : PA X es t) : PE X (.List es pos) (tLzS t) := by
  constructor
  intro pins s σ H Q I hq
  refine wpAny_List_spliced (thn (h.run pos pins s σ H _ I hq) ?_)
  rintro us s1 ⟨xs, H1, I1, r, z, q⟩
  have free : H1 s1.heap.objs.size = none := I1.hok.fresh (Nat.le_refl _)
  have far : s1.heap.objs.size ≠ sysModules := Nat.ne_of_gt I1.big
  refine ⟨by rw [← r.length]; exact z, .ref _, _, I1.laid (t' := s1.toks) (o := .lst xs) (fun b u e => Heap.get?_push_of_some _ e) (Nat.le_refl _) ⟨z, us, 0, r, Heap.get?_push_size _ rfl⟩, rfl, q _ _ (nw free) far⟩
end Z

/-! E: the end of a law whose def calls repr. -/
namespace Z
open PySem PySem.Spec PyProof.Rows L2

/-- the script alone is tracked, if the object does not know it -/
def scriptH (K : PySem.W.Frag) (a : Addr) (o : Obj) (ns : List Int) : Hp := fun b => if b = a ∧ (K.lookup a).isNone = true then some (.frz o (.lst (ns.map V.int))) else none
theorem scriptH_at {K : PySem.W.Frag} {a b : Addr} {o : Obj} {ns : List Int} {u : HO} (h : scriptH K a o ns b = some u) : b = a ∧ K.lookup a = none ∧ u = .frz o (.lst (ns.map V.int)) := by
  unfold scriptH at h
  split at h
  · rename_i c
    exact ⟨c.1, Option.isNone_iff_eq_none.mp c.2, (Option.some.inj h).symm⟩
  · cases h
theorem walk_g {l : PySem.W.OpenLaw} {n k : Nat} {q : Program} {loose : List Str} {XP : (Str → Option Value) → Heap → Prop} {YP : World → Heap → Prop} {d : DefRec} {K : Params → PySem.W.Frag} {CX : CXT} {sp : World → Sp} {x : Str}
    (hn : l.most = some n) (hn2 : n ≤ sizeLine) (hdf : d.params.defaults = []) (hr : RoomG k callerA) (hY : ∀ (w : World) (h : Heap), YP w h → (K w.params).In h)
    (F : ∀ (w : World) (mg : Str → Option Value) (fa : Addr) (h : Heap), (K w.params).In h → h.Ns mainGlobals mg → mg d.name = some (.ref fa) →
      ∃ fd : FuncData, (∀ (s : Shared) (u : Value), BindsTo s fd ⟨[u], []⟩ [(x, u)]) ∧ ∀ base : Heap, (K w.params).In base → base.Ns mainGlobals mg → FnG l.prog w (K w.params) mg base CX k fa fd [x] (sp w))
    (hsp : ∀ (w : World) (H : Hp) (a : Addr) (ns : List Int), ns.length ≤ n → SqL (K w.params) H a (ns.map V.int) → sp w [.ref a] H (fun v _ => v = .bl true) fun _ _ _ => False)
    (hCX : ∀ (H : Hp) (s : Shared) (e : Value) (s' : Shared), CX [] H s (fun _ _ _ => False) e s' → False) :
    PySem.W.WalkO q loose XP YP l.row.toRowW d [] (fun f vs => PySem.call f vs) := by
  refine Att.attach_call hn hdf ?_
  intro w s₀ s₁ mg mb fa o pm cd doc a vs ns G Y _ _ _ hmg ha hints hlen hg
  have KX := hY w _ Y
  obtain ⟨fd, hbind, hF⟩ := F w mg fa _ KX G.T.g hmg
  have hspw := hsp w
  generalize K w.params = K at *
  generalize eo : ({ cls := .type "list", data := .seq vs.toArray } : Obj) = obj at ha
  have rv := vals_ints hints
  have lenV := hints.length
  have hS : SqL K (scriptH K a obj ns) a (ns.map V.int) := by
    cases hk : K.lookup a with
    | none => exact .inl (.inr ⟨obj, if_pos ⟨rfl, by rw [hk]; rfl⟩⟩)
    | some o2 =>
      have e2 := KX a o2 hk
      rw [ha] at e2
      cases e2
      subst eo
      exact .inr ⟨_, vs.toArray, _, hk, rfl, rfl, rfl, by rw [List.size_toArray, lenV]; exact Nat.le_trans hlen hn2, by simpa using rv⟩
  have seen : ∀ {b : Addr} {u : Obj}, s₁.heap.get? b = some u → (b = a → K.lookup a = some u ∨ False) → (hidT s₁.heap (scriptH K a obj ns)).get? b = some u := fun {b u} e c => hidT_get e (by
    cases z : scriptH K a obj ns b with
    | none => rfl
    | some v =>
      obtain ⟨e1, e2, _⟩ := scriptH_at z
      rcases c e1 with c | c
      · rw [e2] at c; cases c
      · exact c.elim)
  have inK : K.In (hidT s₁.heap (scriptH K a obj ns)) := fun b u e => seen (KX b u e) fun z => .inl (by rw [← z]; exact e)
  have names : ∀ {b : Addr} {m : Str → Option Value}, s₁.heap.Ns b m → (hidT s₁.heap (scriptH K a obj ns)).Ns b m := fun {b m} ⟨u, es, ep, e, dd, rest⟩ => ⟨u, es, ep, seen e (fun z => by
    subst z
    rw [ha] at e
    cases e
    subst eo
    exact nomatch dd), dd, rest⟩
  obtain ⟨mc, lim1, lim2⟩ := G.T.nolimit
  have world : Env0 l.prog w K mg (hidT s₁.heap (scriptH K a obj ns)) callerA [] s₁ (scriptH K a obj ns) := by
    constructor
    · rfl
    · exact ⟨inK, names G.T.g, ⟨mb, names G.T.b, G.T.builtins⟩, ⟨mc, names lim1, lim2⟩⟩
    · exact fun b u e => of_hidT e
    · exact Nat.le_of_eq (hidT_size _ _)
    · trivial
    · exact fun b z => absurd (show b ∈ ([] : List Addr) from z) List.not_mem_nil
    · intro b u e
      obtain ⟨rfl, _, rfl⟩ := scriptH_at e
      exact ⟨ha, by rw [List.length_map]; exact Nat.le_trans hlen hn2, vs, 0, rv, by rw [ha, ← eo]⟩
    · exact .of_eq hg
  have run := (hF _ inK (names G.T.g)).call callerA [] s₁ (scriptH K a obj ns) ⟨[.ref a], []⟩ [.ref a] [.ref a] (fun v _ => v = .bl true) (fun _ _ _ => False) hr world (hbind s₁ (.ref a)) (.cons rfl .nil) (hspw _ a ns hlen hS)
  refine codeAny_mono run ?_
  intro r s' h
  match r, h with
  | .error e, h => exact (hCX _ _ e s' h).elim
  | .ok .next, h => exact False.elim h
  | .ok .brk, h => exact False.elim h
  | .ok .cont, h => exact False.elim h
  | .ok (.ret u), ⟨v, H', os, bare, un, hok', r', hv⟩ =>
    have hv : v = .bl true := hv
    subst hv
    have r' : u = Value.bool true := r'
    subst r'
    refine ⟨rfl, OldK.of_keep ?_, os, bare⟩
    intro b u e
    cases z : scriptH K a obj ns b with
    | none => exact un.keep b u e z (fun c => absurd (show b ∈ ([] : List Addr) from c) List.not_mem_nil) List.not_mem_nil
    | some v =>
      obtain ⟨rfl, _, rfl⟩ := scriptH_at z
      have e2 := (hok' _ _ (un.frzs _ _ _ z)).1
      rw [ha] at e
      cases e
      exact e2
/-- dict(..) of a list of pairs, of a dict -/
def zDict (K : PySem.W.Frag) : List V → Hp → VK → Prop := fun vs H Q => match vs with
  | [.ref a] => (∃ (ps : List Addr) (kvs : List (Key × V)), SqL K H a (ps.map V.ref) ∧ Paired (fun p kv => SqT K H p [kV kv.1, kv.2]) ps kvs ∧ ∀ p H2, Nw H p (.dK (mergeK [] kvs)) H2 → Q (.ref p) H2) ∨
    ∃ kvs, H a = some (.dK kvs) ∧ ∀ p H2, Nw H p (.dK kvs) H2 → Q (.ref p) H2
  | _ => False
theorem c_dict {X : Cx} (hc : X.calm = true) : CallR X (.type "dict") (zDict X.K) := by
  intro pins s σ H xs us Q I r h
  unfold zDict at h
  split at h
  · rename_i a
    rcases h with ⟨ps, kvs, h1, h2, q⟩ | ⟨kvs, h1, q⟩
    · exact call_dictP hc pins s σ H _ us Q I r ⟨a, ps, kvs, rfl, h1, h2, fun p hp => q p _ (nw hp)⟩
    · obtain ⟨u, rfl, ru⟩ := vals1 r
      cases ru
      exact d_copyOf I (.inl h1) fun p s' hp J => ⟨.ref p, _, J, rfl, q p _ (nw hp)⟩
  · exact h.elim
theorem k_dict {X : Cx} (K : PySem.W.Frag) (hc : X.calm = true) (hK : X.K = K := by rfl) : CallR X (.type "dict") (zDict K) := hK ▸ c_dict hc
theorem law_gn {P : Program} {w : World} {K : PySem.W.Frag} {mg : Str → Option Value} {base : Heap} {CX : CXT} {k : Nat} {x : Str} {ps : List Str} {sp : Sp} {fa : Addr} {fd : FuncData} {oc : Value} {od : Option Addr} {osl : Array (Option Value)} (C : Cg P w K mg base CX k x ps sp) (hfa : mg x = some (.ref fa))
    (l : K.lookup fa = some ⟨oc, od, .func fd, osl⟩) : FnG P w K mg base CX k fa fd ps sp := by
  obtain ⟨f, fd', hm, _, _, F, oc', od', osl', hl⟩ := C.ex
  obtain rfl : f = fa := by
    rw [hm] at hfa
    cases hfa
    rfl
  obtain rfl : fd' = fd := by
    rw [hl] at l
    cases l
    rfl
  exact F
end Z

/-! X: own errors over an own class over Exception. -/
namespace Z
open PySem PySem.Spec PyProof.Rows L2

abbrev tailE : List Value := [.type "Exception", .type "BaseException", .type "object"]
/-- the classes of an error: its own, the package's, Exception's -/
def mroE (C B : Addr) : List Value := .ref C :: .ref B :: tailE
theorem mroE_has (C B : Addr) (Y : String) : (mroE C B).contains (.type Y) = tailE.contains (.type Y) := by
  unfold mroE
  rw [List.contains_cons, List.contains_cons]
  rfl
theorem mroE_pass (C B : Addr) (self : Value) : refuseLoop self "__setattr__" (mroE C B) = pure () := by
  unfold mroE
  rw [refuseLoop_ref, refuseLoop_ref]
  exact PySem.F.store_Exception.passes self
/-- what the written part says of an error's class -/
structure ErrC (K : PySem.W.Frag) (C B : Addr) : Prop where
  cls : ∃ nm q N bs sn sub ab col dd k0 k1 k2 k3 k5, K.lookup C = some (excClassObj nm q C N bs (.ref B :: tailE) true sn sub ab col dd k0 k1 k2 k3 k5 "Exception.__new__")
  sa : PySem.W.findIn K (.ref C) "__setattr__" = some (some (.builtin "object.__setattr__"))
  exC : PySem.W.subIn K (.ref C) (.type "BaseException") = some true
  tyC : PySem.W.typeIn K (.ref C) = some (.type "type")
  kC : PySem.W.keepIn K (.ref C) = true
section
open PySem.W PySem.Calls PySem.HandSPX Builtin Builtin.ObjectAttr
variable {prog : Program} {w : World} {A : Around} {R : Result → Shared → Prop} {hp : Heap} {g : Array GenState} {d : Drawn} {t : Nat} {os : OsState}
/-- the first field of an error -/
theorem first_field {K : PySem.W.Frag} {nm : Str} {tk : Tok} {v : Value} {x C B : Addr} {fv : Array Value} {cd : ClassData} (inK : K.In hp) (here : hp.get? x = some { cls := .ref C, data := .fields fv }) (kd : PySem.W.clsIn K C = some cd) (mro : cd.mro = mroE C B) (has : cd.hasDict = true)
    (own : PySem.W.findIn K (.ref C) nm = some none)
    (done : ∀ h' tk' dx, (∀ b o, b ≠ x → hp.get? b = some o → h'.get? b = some o) → hp.objs.size ≤ dx → dx ≠ x → h'.get? x = some { cls := .ref C, dict := some dx, data := .fields fv } → h'.Ns1 dx (fun y => if y = nm then some v else none) →
      R (.ok (.ret .none)) ⟨h', g, d, tk', os⟩) : codeAny (model prog w) A (.call (.builtin "object.__setattr__") ⟨[.ref x, .str nm tk, v], []⟩) R ⟨hp, g, d, t, os⟩ := by
  have at0 : PySem.W.InstAt hp x { cls := .ref C, data := .fields fv } C none := ⟨here, rfl, rfl, trivial⟩
  have far : x ≠ hp.objs.size := Nat.ne_of_lt (Heap.lt_size here)
  have obj : cd.mro.contains (.type "object") = true := by rw [mro, mroE_has]; decide +kernel
  have isObj : PySem.W.Looks (model prog w) hp (isInstance (.ref x) (.type "object")) true :=
    at0.type.andThen (PySem.W.looks_mroIn inK (by unfold PySem.W.mroIn; rw [kd, Option.bind_some, if_neg (by rw [mro]; exact Bool.false_ne_true), obj]))
  have St := PySem.F.store_object
  apply codeAny_call_builtin St.slot.plain St.entry
  apply @PySem.W.check_slot (model prog w) _ _ ⟨hp, g, d, t, os⟩ "object.__setattr__" "object" "__setattr__" (.ref x) [.str nm tk, v] [] _ St.kind St.split isObj (St.args (.ref x) (.str nm tk) v)
  have theMro : PySem.W.Looks (model prog w) hp (mroOf (.ref C)) cd.mro := PySem.W.Looks.andThen (PySem.W.looks_clsIn inK kd) .now
  have noTaker : PySem.W.Looks (model prog w) hp (storeTaker? none) none := .now
  have theCls : PySem.W.Looks (model prog w) hp (classData C) cd := PySem.W.looks_clsIn inK kd
  rw [PySem.W.osa_eq, refuse_eq]
  apply wpAny_bind
  apply wpAny_bind
  apply at0.type.at
  apply wpAny_bind
  apply theMro.at
  rw [mro, mroE_pass]
  apply wpAny_pure
  apply wpAny_bind
  apply at0.type.at
  apply wpAny_bind
  apply PySem.W.Looks.at (PySem.W.looks_findIn inK own)
  apply wpAny_bind
  apply noTaker.at
  show wpAny _ _ (storeInOwnDict (.ref x) (.ref C) (.str nm tk) nm v false) _ _ _
  cases cd with
  | mk n1 n2 n3 n4 n5 n6 n7 n8 n9 n10 n11 =>
    have n6t : n6 = true := has
    subst n6t
    unfold storeInOwnDict ownDictForStores
    repeat (first | with_reducible refine store_in_new ?_ ?_ | with_reducible refine wpAny_loadPart_at here ?_ | with_reducible refine theCls.at ?_ | wp_step)
    · exact ⟨_, #[], _, (Heap.get?_update_ne _ _ _ _ far.symm).trans (Heap.get?_push_at rfl rfl), rfl, fun e z => absurd z (by simp), fun _ => rfl⟩
    · intro h' tk' names but
      have there := Heap.get?_push_of_some { cls := .type "dict", data := .dict #[] } here
      refine done h' tk' hp.objs.size ?_ (Nat.le_refl _) far.symm ((but.2 x far).trans (Heap.get?_update_self _ there rfl)) names
      intro b o nb ob
      exact ((but.2 b (Nat.ne_of_lt (Heap.lt_size ob))).trans (Heap.get?_update_ne _ _ _ _ nb)).trans (Heap.get?_push_of_some _ ob)
end
section
variable {X : Cx} {pins : List (Addr × Obj)} {σ : L2.St} {H : Hp} {s : Shared} {a C B : Addr} {E : Value → Shared → Prop} {A : Around}
/-- the base's own part of the making: nothing of it is seen -/
theorem base_init {us : List Value} {Q : Value → Shared → Prop} (T : ErrC X.K C B) (I : Inv X pins σ H s) (e : H a = some (exo a C none)) (hl : us.length ≤ sizeLine) (h : ∀ s', Inv X pins σ H s' → Q .none s') :
    wpAny (model X.prog X.w) A (call (.builtin "Exception.__init__") (.ref a :: us)) Q E s := by
  obtain ⟨_, _, _, _, _, _, _, _, _, _, _, _, _, _, cl⟩ := T.cls
  obtain ⟨old, here⟩ := exo_at I.hok e
  cases s with
  | mk hp g d t os =>
    apply wpAny_call
    apply PySem.HandSPX.init_base PySem.F.excBase_Exception (fun Y => by rw [List.contains_cons]; rfl) (I.kIn _ _ cl) here hl
    intro h' new keep now
    have same : upd H a (exo a C none) = H := funext fun b => by
      unfold upd
      split
      · rename_i z
        rw [z, e]
      · rfl
    have J := I.write (t' := t) (x := a) (e := a) (o := exo a C none) (by rw [e]; exact True.intro) (Or.inl rfl) keep ⟨_, now⟩ (exo_ok now)
    rw [same] at J
    exact h _ J
/-- what is tracked as another kind stands elsewhere -/
theorem apart {b c : Addr} {o u : HO} (p : H b = some o) (q : H c = some u) (d : o ≠ u) : c ≠ b := fun z => d (by
  rw [z, p] at q
  exact Option.some.inj q)
/-- self.f = y, the first field -/
theorem err_set {f : Str} {y : V} {u : Value} {Q : Unit → Shared → Prop} (T : ErrC X.K C B) (I : Inv X pins σ H s) (e : H a = some (exo a C none)) (own : PySem.W.findIn X.K (.ref C) f = some none) (ry : RelV y u)
    (h : ∀ dx s', H dx = none → dx ≠ a → Inv X pins σ (upd (upd H dx (exd dx [(f, y)])) a (exo a C (some dx))) s' → Q () s') : wpAny (model X.prog X.w) A (setAttr (.ref a) f u) Q E s := by
  obtain ⟨m1, m2, m3, m4, m5, m6, m7, m8, m9, m10, m11, m12, m13, m14, cl⟩ := T.cls
  have kd : PySem.W.clsIn X.K C = some ⟨m1, m4, mroE C B, m3, m2, true, m5, m6, m7, m8, false⟩ := by
    unfold PySem.W.clsIn
    rw [cl]
    rfl
  obtain ⟨old, here⟩ := exo_at I.hok e
  cases s with
  | mk hp g d t os =>
    apply PySem.W.set_plain I.kIn (ox := { cls := .ref C, dict := none, data := .fields #[.ref old, .none, .none, .none, .bool false, .none] }) (od := none) ⟨here, rfl, rfl, trivial⟩ T.sa
    apply first_field I.kIn here kd rfl rfl own
    intro h' tk' dx keep big nd now names
    have none1 : H dx = none := I.hok.fresh big
    have off : ∀ {b : Addr} {o : Obj}, hp.get? b = some o → b ≠ dx := fun q => Nat.ne_of_lt (Nat.lt_of_lt_of_le (Heap.lt_size q) big)
    have offA : ∀ {b : Addr}, H b = none → b ≠ a := fun q z => by rw [z, e] at q; cases q
    have stays : ∀ {b : Addr} {o : HO}, H b = some o → o ≠ exo a C none → (upd (upd H dx (exd dx [(f, y)])) a (exo a C (some dx))) b = some o := fun {b o} q k => by
      rw [upd_ne (apart e q (fun z => k z.symm)), upd_ne (ne_of_none q none1)]
      exact q
    refine h dx _ none1 nd (I.un (t' := tk') ?_ ?_)
    · constructor
      · intro b o q n _ _
        exact keep b o (offA n) q
      · intro b o q n _ _
        exact ⟨o.slots, keep b o (offA n) q⟩
      · intro b o q n _
        rw [upd_ne (offA n), upd_ne (off q)]
        exact n
      · intro b o q _
        rcases Nat.decEq b a with z | z
        · exact ⟨o, keep b o z q⟩
        · exact ⟨_, z ▸ now⟩
      · intro b xs q
        exact stays q (fun z => exo_tup z.symm)
      · intro b o v q
        exact stays q (fun z => exo_frz z.symm)
      · intro b ps q
        exact ⟨#[], by rw [stays q (fun z => exo_tbl z.symm)]; simp⟩
    · intro b o q
      rcases Nat.decEq b a with z | z
      · rw [upd_ne z] at q
        rcases Nat.decEq b dx with zd | zd
        · rw [upd_ne zd] at q
          refine (I.hok b o q).stay ?_ (fun c k => stays k (fun z => exo_own z.symm)) fun c xs k => stays k (fun z => exo_tup z.symm)
          intro c v k p
          refine keep c v ?_ p
          rcases k with k | k
          · rw [k]; exact z
          · exact apart e k exo_own
        · subst zd
          rw [upd_same] at q
          cases q
          exact exd_ok names (relO_put (fs := []) ry fun _ => True.intro)
      · subst z
        rw [upd_same] at q
        cases q
        exact exo_ok now
end
section
variable {X : Cx} {C B : Addr}
/-- C(e, ..) where C's own __init__ keeps sp -/
theorem pmk_err {CX : CXT} {x : Str} {fI : Addr} {k : Nat} {fd : FuncData} {ps : List Str} {sp : Sp} {e : Expr} {es : List Expr} {ta : TA} {p pos : Pos} (T : ErrC X.K C B) (iC : PySem.W.findIn X.K (.ref C) "__init__" = some (some (.ref fI))) (tI : PySem.W.typeIn X.K (.ref fI) = some (.type "function"))
    (F1 : FnOk X.prog X.w X.K X.mg X.base CX k fI fd ps sp) (hr : Room (k + 1) X.A) (hb : Binds X.K fd ps []) (hx : Passes CX X (fun _ _ _ => False)) (hm : X.mg x = some (.ref C)) (ha : PA X (e :: es) ta) (hg : Gl X x := by rfl) (hdb : (x == ("__debug__" : Str)) = false := by decide)
    (he : starEach (e :: es) X.env = (false, eval e X.env) :: starEach es X.env := by rfl) (hpl : (backTo pos (starEach es X.env)).any (·.1) = false := by rfl) : PMk X (.Call (.Name x p) (e :: es) [] pos) (tMkO C sp [] ta) := by
  intro pins s σ H Q I h
  obtain ⟨_, _, _, _, _, _, _, _, _, _, _, _, _, _, cl⟩ := T.cls
  apply wpAny_Call_Name_kw
  refine ld_glob I hg hm (PySem.W.callWith_K (h₀ := X.base) I.ok.mod.kin T.kC ?_ he hpl) hdb
  · apply thn (ha.run pos pins s σ H _ I h)
    rintro us ⟨hp, g, dr, tk, os⟩ ⟨vs, H1, I1, r1, few, q1⟩
    refine ⟨I1.kIn, ?_⟩
    have later : hp.objs.size ≤ hp.objs.size + 1 := Nat.le_succ _
    have q2 := q1 _ (I1.hok.fresh later)
    rw [List.append_nil] at q2
    have more : ∀ b o, hp.get? b = some o → ((hp.push (PySem.W.kdv_tup us)).push (PySem.HandSPX.excO C hp.objs.size)).get? b = some o := fun _ _ z => Heap.get?_push_of_some _ (Heap.get?_push_of_some _ z)
    have new : ((hp.push (PySem.W.kdv_tup us)).push (PySem.HandSPX.excO C hp.objs.size)).get? (hp.objs.size + 1) = some (PySem.HandSPX.excO C hp.objs.size) := by heap_get
    have I2 := I1.laid (t' := tk) (o := exo (hp.objs.size + 1) C none) more later (exo_ok new)
    have r2 : Vals (V.ref (hp.objs.size + 1) :: vs) (Value.ref (hp.objs.size + 1) :: us) := .cons rfl r1
    have len : (Value.ref (hp.objs.size + 1) :: us).length = ps.length := r2.length.symm.trans (F1.len _ _ _ _ q2)
    have bind := hb _ (Value.ref (hp.objs.size + 1) :: us) I2.kIn (by simpa using len)
    rw [List.append_nil] at bind
    have fit : us.length ≤ sizeLine := by
      rw [← Paired.length r1, sizeLine_eq]
      omega
    apply wpAny_call
    apply PySem.HandSPX.call_own PySem.F.excBase_Exception (fun Y => by rw [List.contains_cons]; rfl) (I1.kIn _ _ cl) (PySem.W.looks_findIn I1.kIn iC) (fun self => PySem.W.bind_fn I1.kIn self tI) fit
    refine codeAny_mono (F1.run _ X.stack _ _ ⟨Value.ref (hp.objs.size + 1) :: us, []⟩ _ _ _ (fun _ _ _ => False) (hr.make C us []) (I2.env0.make C us []) bind r2 q2) ?_
    intro r s' z
    match r, s', z with
    | .error er, s', z => exact hx pins σ _ _ er s' I2 z
    | .ok (.ret u), ⟨h2, g2, d2, t2, os'⟩, ⟨v, H2, sos, sbare, sun, sok, rv, ev, d, fs, ea, ed, hd1, q3⟩ =>
      subst ev
      exact ⟨rv, mk_end (raises_own T.exC T.tyC) I1 later more sun sok sos sbare ea ed hd1 q3⟩
    | .ok .next, _, z => exact False.elim z
    | .ok .brk, _, z => exact False.elim z
    | .ok .cont, _, z => exact False.elim z
/-- self.f = e, the first field of an error -/
def tErr (K : PySem.W.Frag) (f : Str) (to te : TE) : TS := fun D σ H => te σ H fun y H1 => to σ H1 fun x H2 => ∃ a C B : Addr, x = .ref a ∧ ErrC K C B ∧ PySem.W.findIn K (.ref C) f = some none ∧ H2 a = some (exo a C none) ∧
  ∀ dx, H2 dx = none → dx ≠ a → D.nx σ (upd (upd H2 dx (exd dx [(f, y)])) a (exo a C (some dx)))
theorem ps_err {o e : Expr} {to te : TE} {f : Str} {p' pos : Pos} (ho : PE X o to) (he : PE X e te) (hs : swapsWith e (some (.Attribute o f p')) pos.line X.env = pure false := by rfl) : PS X (.Assign [.Attribute o f p'] e pos) (tErr X.K f to te) := by
  constructor
  intro pins s σ H D I h
  apply plainObj_wpAny_Assign_Attribute _ hs
  apply thn (he.run pins s σ H _ I h)
  rintro v s1 ⟨y, H1, I1, r1, q1⟩
  apply thn (ho.run pins s1 σ H1 _ I1 q1)
  rintro u s2 ⟨x, H2, I2, r2, a, C, B, rfl, T, own, ea, q⟩
  obtain rfl : u = Value.ref a := r2
  exact err_set T I2 ea own r1 fun dx s' n ne J => ⟨σ, _, J, q dx n ne⟩
/-- Base.__init__(self, ..) by the class's name -/
def tBI (K : PySem.W.Frag) (ta : TA) : TE := fun σ H Q => ta σ H fun vs H1 => ∃ (a C B : Addr) (ws : List V), vs = .ref a :: ws ∧ ws.length ≤ 1000 ∧ ErrC K C B ∧ H1 a = some (exo a C none) ∧ Q .non H1
theorem pe_binit {x : Str} {D : Addr} {mc : Value} {e : Expr} {es : List Expr} {ta : TA} {p1 p2 pos : Pos} {pl : Sem Bool} (hm : X.mg x = some (.ref D)) (sg : PySem.W.specialIn X.K (.ref D) "__getattribute__" = some (some (.builtin "type.__getattribute__"))) (rd : PySem.W.readsIn X.K D mc = true)
    (fv : PySem.W.findCls X.K (.ref D) mc "__init__" = some (.val (.builtin "Exception.__init__"))) (ha : PA X (e :: es) ta) (hg : Gl X x := by rfl) (hdb : (x == ("__debug__" : Str)) = false := by decide)
    (hc : eval (.Call (.Attribute (.Name x p1) "__init__" p2) (e :: es) [] pos) X.env = (do
      let ov ← eval (.Name x p1) X.env
      standAt p2.atName
      let (f, first) ← holding [ov] (getMethod ov "__init__" pl)
      callWith pos f first (backTo pos (starEach (e :: es) X.env)) (backToKw pos (keywordEach [] X.env))) := by rfl)
    (he : starEach (e :: es) X.env = (false, eval e X.env) :: starEach es X.env := by rfl) (hpl : (backTo pos (starEach es X.env)).any (·.1) = false := by rfl) : PE X (.Call (.Attribute (.Name x p1) "__init__" p2) (e :: es) [] pos) (tBI X.K ta) := by
  constructor
  intro pins s σ H Q I h
  refine PySem.W.methodCall_KW (ld_glob I hg hm ?_ hdb) hc
  refine PySem.W.method_cls I.kIn sg (PySem.W.cls_value I.kIn rd fv (by decide +kernel) ?_)
  refine callWith_method1 (thn (ha.run pos pins _ σ H _ (I.tok _) h) ?_) he hpl
  rintro us s1 ⟨vs, H1, I1, r1, a, C, B, ws, rfl, few, T, ea, q⟩
  cases r1 with
  | @cons _ u0 _ ur ra rest =>
    obtain rfl : u0 = Value.ref a := ra
    exact base_init T I1 ea (by rw [← Paired.length rest, sizeLine_eq]; omega) fun s' J => ⟨.non, H1, J, rfl, q⟩
end
end Z

/-! Y: defs that raise own errors, and try around them. -/
namespace Z
open PySem PySem.Spec PyProof.Rows L2

/-! ### defs that may raise -/
section
variable {P : Program} {w : World} {K : PySem.W.Frag} {mg : Str → Option Value} {base : Heap}
theorem cx1 {x : Str} {st : Stmt} {a : Str} {N : List Str} {k : Nat} {p : V → Hp → VK → XK → Prop} (D : Df K mg x st [a]) (S : FnScope N [a] (defScope st))
    (body : ∀ (f : Addr) (cdv : Value) (A : Around) (outer : List Env) (s : Shared) (H : Hp) (u : V) (Q : VK) (E : XK), Room k (A.deeper (envOfC x (defScope st) s.heap.objs.size f cdv)) → p u H Q E →
      ∃ t, PSs (cxOf (L2.CX P w) P w K mg base N x (defScope st) f cdv A outer s H E) (defBody st) t ∧ t { nx := fun _ H' => Q .non H', rt := Q } (start N [u]) H) : Ct P w K mg base (L2.CX P w) (k + 1) x [a] (sp1 p) := by
  obtain ⟨f, fd, F, hm, hb⟩ := D.ex
  refine ⟨f, fd, hm, F.kp, hb, F.okX S ?_ ?_, fun_at F⟩
  · intro vs H Q E h
    obtain ⟨u, rfl, _⟩ := sp1_of h
    rfl
  · intro cdv A outer s H vs Q E hr h
    obtain ⟨u, rfl, h⟩ := sp1_of h
    exact body f cdv A outer s H u Q E hr h
theorem cx2 {x : Str} {st : Stmt} {a b : Str} {N : List Str} {k : Nat} {p : V → V → Hp → VK → XK → Prop} (D : Df K mg x st [a, b]) (S : FnScope N [a, b] (defScope st))
    (body : ∀ (f : Addr) (cdv : Value) (A : Around) (outer : List Env) (s : Shared) (H : Hp) (u v : V) (Q : VK) (E : XK), Room k (A.deeper (envOfC x (defScope st) s.heap.objs.size f cdv)) → p u v H Q E →
      ∃ t, PSs (cxOf (L2.CX P w) P w K mg base N x (defScope st) f cdv A outer s H E) (defBody st) t ∧ t { nx := fun _ H' => Q .non H', rt := Q } (start N [u, v]) H) : Ct P w K mg base (L2.CX P w) (k + 1) x [a, b] (sp2 p) := by
  obtain ⟨f, fd, F, hm, hb⟩ := D.ex
  refine ⟨f, fd, hm, F.kp, hb, F.okX S ?_ ?_, fun_at F⟩
  · intro vs H Q E h
    obtain ⟨u, v, rfl, _⟩ := sp2_of h
    rfl
  · intro cdv A outer s H vs Q E hr h
    obtain ⟨u, v, rfl, h⟩ := sp2_of h
    exact body f cdv A outer s H u v Q E hr h
/-- an __init__ of two parameters -/
theorem ini2 {q : Str} {st : Stmt} {f : Addr} {fd : FuncData} {a b : Str} {N : List Str} {k : Nat} {p : V → V → Hp → VK → XK → Prop} (F : Fun K "__init__" q st f fd) (S : FnScope N [a, b] (defScope st))
    (body : ∀ (cdv : Value) (A : Around) (outer : List Env) (s : Shared) (H : Hp) (u v : V) (Q : VK) (E : XK), Room k (A.deeper (envOfC q (defScope st) s.heap.objs.size f cdv)) → p u v H Q E →
      ∃ t, PSs (cxOf CX0 P w K mg base N q (defScope st) f cdv A outer s H E).nox (defBody st) t ∧ t { nx := fun _ H' => Q .non H', rt := Q } (start N [u, v]) H) : FnOk P w K mg base CX0 (k + 1) f fd [a, b] (sp2 p) := by
  refine F.ok S ?_ ?_
  · intro vs H Q E h
    obtain ⟨u, v, rfl, _⟩ := sp2_of h
    rfl
  · intro cdv A outer s H vs Q E hr h
    obtain ⟨u, v, rfl, h⟩ := sp2_of h
    exact body cdv A outer s H u v Q E hr h
end
/-- what an error's own __init__ leaves: its one field -/
def spIni (C : Addr) (f : Str) : Sp := sp2 fun u v H Q _ => ∃ a, u = .ref a ∧ H a = some (exo a C none) ∧ ∀ dx, H dx = none → dx ≠ a → Q .non (upd (upd H dx (exd dx [(f, v)])) a (exo a C (some dx)))
/-- an error's class, under its name -/
structure Er (P : Program) (w : World) (K : PySem.W.Frag) (mg : Str → Option Value) (base : Heap) (k : Nat) (x f : Str) (C : Addr) : Prop where
  name : mg x = some (.ref C)
  ex : ∃ (B fI : Addr) (fd : FuncData) (ps : List Str), ErrC K C B ∧ PySem.W.findIn K (.ref C) "__init__" = some (some (.ref fI)) ∧ PySem.W.typeIn K (.ref fI) = some (.type "function") ∧ FnOk P w K mg base CX0 k fI fd ps (spIni C f) ∧ Binds K fd ps []
/-- what is asked of a caught error -/
structure Es (K : PySem.W.Frag) (C : Addr) : Prop where
  xf : XfC K C
  ty : PySem.W.typeIn K (.ref C) = some (.type "type")
  ha : PySem.W.findIn K (.ref C) "__class__" = some (some (.builtin "object.__class__"))
  hn : PySem.W.specialIn K (.builtin "object.__class__") "__get__" = some (some (.builtin "getset_descriptor.__get__"))
  ht : PySem.W.takesIn K (.builtin "object.__class__") = some true
  hm : PySem.W.mroIn K C (.type "object") = some true
theorem Es.exm {K : PySem.W.Frag} {C : Addr} {c : Value} {b : Bool} (S : Es K C) (h : PySem.W.subIn K c (.ref C) = some b) : PySem.W.exmOne K c (.ref C) = some b := PySem.W.exm_ref S.xf.exC S.xf.hdC S.ty h
section
variable {X : Cx}
/-- raise C(e) -/
def tRz (C : Addr) (f : Str) (t : TA) (W : WX) : TS := fun _ σ H => t σ H fun vs H1 => match vs with
  | [v] => ∀ d H2, Nw H1 d (.xd [(f, v)]) H2 → W (.ref C) (some d) σ H2
  | _ => False
theorem ps_rz {W : WX} {k : Nat} {x f : Str} {C : Addr} {e : Expr} {t : TA} {p p2 pos : Pos} (hc : X.calm = true) (tk : Takes X W) (R : Er X.prog X.w X.K X.mg X.base k x f C) (hr : Room (k + 1) X.A) (ha : PA X [e] t) (hg : Gl X x := by rfl) (hdb : (x == ("__debug__" : Str)) = false := by decide)
    (he : starEach [e] X.env = (false, eval e X.env) :: starEach [] X.env := by rfl) (hpl : (backTo p2 (starEach [] X.env)).any (·.1) = false := by rfl) : PS X (.Raise (some (.Call (.Name x p) [e] [] p2)) none pos) (tRz C f t W) := by
  obtain ⟨B, fI, fd, ps, T, iC, tI, F, hb⟩ := R.ex
  refine ps_w (ps_raise hc tk (pmk_err T iC tI F hr hb pass0 R.name (pa_mon ha) hg hdb he hpl)) ?_
  intro D σ H h
  refine ⟨_, h, ?_⟩
  intro vs H1 h1
  split at h1
  · rename_i v
    refine ⟨by show 1 ≤ 1000; decide, fun a na => ?_⟩
    refine ⟨a, rfl, upd_same, fun dx nd ne => ⟨rfl, dx, [(f, v)], upd_same, ?_, ?_, ?_⟩⟩
    · rw [upd_ne ne, upd_same]
    · rw [upd_ne ne] at nd
      exact nd
    · rw [upd_ne ne] at nd
      have e : upd (del (upd (upd (upd H1 a (exo a C none)) dx (exd dx [(f, v)])) a (exo a C (some dx))) a) dx (.xd [(f, v)]) = upd H1 dx (.xd [(f, v)]) := by
        funext b
        by_cases z : b = dx
        · rw [z, upd_same, upd_same]
        · rw [upd_ne z, upd_ne z]
          by_cases y : b = a
          · rw [y, del_same, na]
          · rw [del_ne y, upd_ne y, upd_ne z, upd_ne y]
      rw [e]
      exact h1 dx _ (nw nd)
  · exact h1.elim
/-- a call that may let an error out -/
theorem pe_clS {W : WX} {k : Nat} {x : Str} {ps : List Str} {sp : Sp} {p pos : Pos} {e : Expr} {es : List Expr} {t : TA} (C : Ct X.prog X.w X.K X.mg X.base (L2.CX X.prog X.w) k x ps sp) (hr : Room k X.A) (tk : Takes X W) (ha : PA X (e :: es) t) (hg : Gl X x := by rfl)
    (hdb : (x == ("__debug__" : Str)) = false := by decide) (he : starEach (e :: es) X.env = (false, eval e X.env) :: starEach es X.env := by rfl) (hpl : (backTo pos (starEach es X.env)).any (·.1) = false := by rfl) : PE X (.Call (.Name x p) (e :: es) [] pos) (tCallS sp (WE W) t) := by
  obtain ⟨f, fd, hm, hk, hb, F, _⟩ := C.ex
  exact pe_callS F hr hg hm hk hb (passAt tk) ha hdb he hpl
def tClKS (g : {α : Type} → List α → List α) (sp : Sp) (E : L2.St → XK) (t : TA) : TE := fun σ H Q => t σ H fun zs H1 => sp (g zs) H1 Q (E σ)
theorem pe_clKS {W : WX} {k : Nat} {x : Str} {ps ks : List Str} {g : {α : Type} → List α → List α} {sp : Sp} {p pos : Pos} {kws : List Keyword} {t : TA} (C : CtK X.prog X.w X.K X.mg X.base (L2.CX X.prog X.w) k x ps ks g sp) (hr : Room k X.A) (tk : Takes X W)
    (hkw : PK X kws t) (hg : Gl X x := by rfl) (hall : (backToKw pos (keywordEach kws X.env)).all (·.1.isSome) = true := by rfl) (hks : (backToKw pos (keywordEach kws X.env)).filterMap (·.1) = ks := by rfl)
    (hdb : (x == ("__debug__" : Str)) = false := by decide) (hpl : ((backTo pos (starEach [] X.env)).any (·.1) || (backToKw pos (keywordEach kws X.env)).any (·.1.isNone)) = false := by rfl) :
    PE X (.Call (.Name x p) [] kws pos) (tClKS g sp (WE W) t) := by
  obtain ⟨f, fd, hm, hk, hb, hrel, F⟩ := C.ex
  constructor
  intro pins s σ H Q I h
  apply wpAny_Call_Name_kw
  refine ld_glob I hg hm (PySem.W.callWith_KW0 (h₀ := X.base) I.ok.mod.kin hk hall ?_ hpl) hdb
  apply thn (hkw.run pos pins s σ H _ I h)
  rintro ws s1 ⟨zs, H1, I1, rz, q⟩
  refine ⟨I1.kIn, ?_⟩
  rw [hks]
  have r2 := hrel rz
  have hl : (g ws).length = ps.length := r2.length.symm.trans (F.len _ _ _ _ q)
  apply wpAny_call
  refine codeAny_mono (F.run X.A X.stack s1 H1 ⟨[], ks.zip ws⟩ (g ws) (g zs) Q (WE W σ) hr I1.env0 (hb s1 ws hl) r2 q) ?_
  intro r s' z
  match r, z with
  | .error er, z => exact passAt tk σ pins H1 s1 er s' I1 z
  | .ok (.ret u), z => exact I1.after z
  | .ok .next, z => exact False.elim z
  | .ok .brk, z => exact False.elim z
  | .ok .cont, z => exact False.elim z
end

/-! ### try with several clauses, each with a name -/
/-- behind a clause its name is gone -/
def gone (i : Nat) (D : Ends) : Ends := { nx := fun σ' H' => D.nx (σ'.set i none) H', rt := D.rt, bk := fun σ' H' => D.bk (σ'.set i none) H', ct := fun σ' H' => D.ct (σ'.set i none) H' }
/-- what the clauses wish of an error: its class, the place of its name, what is read there -/
def wClauses (K : PySem.W.Frag) (Wout : WX) (D : Ends) : List (Value × Nat × (Addr → Value → Option Addr → TS)) → WX
  | [] => Wout
  | (c, i, ts) :: r => fun cls d σ H => ∃ b, PySem.W.exmOne K cls c = some b ∧ (b = true → ∀ a, H a = none → ts a cls d (gone i D) (σ.set i (some (.ref a))) H) ∧ (b = false → wClauses K Wout D r cls d σ H)
inductive Clauses (X : Cx) : List ExceptHandler → List (Value × Nat × (Addr → Value → Option Addr → TS)) → Prop
  | nil : Clauses X [] []
  | cons {x n : Str} {c : Value} {i : Nat} {ts : Addr → Value → Option Addr → TS} {first : Stmt} {more : List Stmt} {np hp : Pos} {hds : List ExceptHandler} {l : List (Value × Nat × (Addr → Value → Option Addr → TS))} (names : Names X x c) (slot : X.N[i]? = some n) (loc : X.env.kindOf n = some .local)
      (suite : ∀ (a : Addr) (oe : Obj) (cls : Value) (d : Option Addr) (pn : List (Addr × Obj)), Zc cls d oe → (∃ vs, oe.data = .fields vs) → PSs (X.suite a ((a, oe) :: pn)) (first :: more) (ts a cls d)) (rest : Clauses X hds l) :
      Clauses X (.ExceptHandler (some (.Name x np)) (some n) (first :: more) hp :: hds) ((c, i, ts) :: l)
  | bare {x : Str} {c : Value} {i : Nat} {ts : Addr → Value → Option Addr → TS} {first : Stmt} {more : List Stmt} {np hp : Pos} {hds : List ExceptHandler} {l : List (Value × Nat × (Addr → Value → Option Addr → TS))} (names : Names X x c) (far : X.N.length ≤ i)
      (suite : ∀ (a : Addr) (oe : Obj) (cls : Value) (d : Option Addr) (pn : List (Addr × Obj)), Zc cls d oe → (∃ vs, oe.data = .fields vs) → PSs (X.suite a ((a, oe) :: pn)) (first :: more) (ts a cls d)) (rest : Clauses X hds l) :
      Clauses X (.ExceptHandler (some (.Name x np)) none (first :: more) hp :: hds) ((c, i, ts) :: l)
section
variable {X : Cx} {body : List Stmt} {h1 : ExceptHandler} {hds : List ExceptHandler} {l : List (Value × Nat × (Addr → Value → Option Addr → TS))} {pos : Pos} {tb : WX → TS} {Wout : WX}
theorem ps_tryC (hs : X.stack = X.env :: X.outer) (hf : X.env.frame = some X.env.locals) (hN : X.N.Nodup) (tk : Takes X Wout)
    (hb : ∀ (W : WX) (pn : List (Addr × Obj)) (xe : Value → Shared → Prop), Takes (X.tr pn xe) W → PassesOwn (model X.prog X.w) X.A X.env xe → PSs (X.tr pn xe) body (tb W))
    (cl : Clauses X (h1 :: hds) l) : PS X (.Try body (h1 :: hds) [] [] pos) (fun D σ H => tb (wClauses X.K Wout D l) D σ H) := by
  constructor
  intro pins s σ H D I h
  have ok := I.ok
  have frames : X.A.frames = some (X.env :: X.outer) := by
    rw [ok.frames, hs]
  apply wpAny_Try_except
  refine wpAny_mono ((hb (wClauses X.K Wout D l) (X.pn ++ pins) (fun e z1 => wpAny (model X.prog X.w) X.A (noteFrame e X.env) (fun _ z2 => wpAny (model X.prog X.w) X.A (setFlight e none) (fun _ z3 =>
    wpAny (model X.prog X.w) X.A (handleBy e X.env (h1 :: hds)) (SP X pins D) X.xe z3) X.xe z2) X.xe z1) ?_ PassesOwn.looking).run [] s σ H D (I.toTry _) h) ?_ (fun _ _ z => z)
  · rintro u s' ⟨a, G, sI, pins', σ1, Ha, cls, d, rfl, Jt, apart, up, sky, na, os, ag, wish⟩
    have J : Inv X pins σ1 Ha sI := Jt.ofTry ok
    rw [show (X.tr (X.pn ++ pins) _).stack = X.stack from rfl, hs] at sky
    show wpAny (model X.prog X.w) X.A (noteFrame (.ref a) X.env) _ _ _
    apply Sky.land Zc.steady frames hf sky
    intro hp fly upp
    have Jh : Inv X pins σ1 Ha { s' with heap := hp } := J.landed apart fly.1 (up.trans upp) os ag
    obtain ⟨oe, fv, here, hz, hd⟩ := fly.there
    have noFrame : a ∉ frs (X.env :: X.outer) := by
      intro m
      obtain ⟨_, o', e', nf⟩ := fly.2.2.1.mem m
      rw [here] at e'
      cases e'
      exact nf _ hd
    have offL : a ≠ X.env.locals := by
      intro z
      apply noFrame
      apply List.mem_filterMap.mpr
      exact ⟨X.env, List.mem_cons_self, by rw [hf, z]⟩
    have offF : a ∉ X.fs := by
      intro m
      obtain ⟨e, he, q⟩ := List.mem_filterMap.mp m
      exact noFrame (List.mem_filterMap.mpr ⟨e, List.mem_cons_of_mem _ he, q⟩)
    have Js := Jh.suite here hd na offL offF
    have all : ∀ {hds' : List ExceptHandler} {l' : List (Value × Nat × (Addr → Value → Option Addr → TS))}, Clauses X hds' l' → wClauses X.K Wout D l' cls d σ1 Ha → wpAny (model X.prog X.w) X.A (handleBy (.ref a) X.env hds') (SP X pins D) X.xe { s' with heap := hp } := by
      intro hds' l' c
      induction c with
      | nil =>
        intro wish
        apply wpAny_handleBy_nil
        obtain ⟨_, _, _, _, _, T, _, _, there, _, dd, one, _⟩ := id fly
        unfold PySem.passOn
        apply wpAny_bind
        apply wpAny_field there dd one
        rw [if_neg (show ¬ ((Value.ref T == Value.none) = true) by simp)]
        have fin : wpAny (model X.prog X.w) X.A (setFlight (.ref a) X.env.frame) (fun _ z => wpAny (model X.prog X.w) X.A (throw (.ref a) : Sem Flow) (SP X pins D) X.xe z) X.xe { s' with heap := hp } := by
          rw [hf]
          apply HandSPX.setFlight_upZ fly
          intro h4 held upq
          apply wpAny_throw
          apply tk
          exact ⟨a, G, sI, pins, σ1, Ha, cls, d, rfl, J, apart, (up.trans upp).trans upq, .inr (.inr (by rw [hs]; exact held)), na, os, ag, wish⟩
        first
          | exact wpAny_bind (wpAny_pure (wpAny_bind fin))
          | exact wpAny_bind fin
      | @cons x n c i ts first more np hpos hds2 l2 names slot loc suite rest ih =>
        rintro ⟨b, ask, yes, no⟩
        apply wpAny_handleBy_cons _ (by intro q; cases q)
        apply codeAny_handlers_test
        have looks : PySem.W.Looks (model X.prog X.w) hp (typeOf (.ref a)) cls := fun A Q E z k q => wpAny_typeOf_ref (k _ _ here) (by rw [hz.1]; exact q)
        have named : ∀ {Q : Value → Shared → Prop} {E : Value → Shared → Prop}, Q c { s' with heap := hp } → wpAny (model X.prog X.w) (X.A.mark (some (.ref a))) (eval (.Name x np) X.env) Q E { s' with heap := hp } := by
          intro Q E q
          obtain ⟨hg, hdb, hm | ⟨hm, hv, hnn⟩⟩ := names
          · exact ld_glob (X := X.suite a ((a, oe) :: (X.pn ++ pins))) Js hg hm q hdb
          · exact ld_blt (X := X.suite a ((a, oe) :: (X.pn ++ pins))) Js hg hm hv q hnn hdb
        apply named
        apply (PySem.W.exm_one (M := model X.prog X.w) Jh.kIn looks ask).here
        cases b with
        | false => exact ih (no rfl)
        | true =>
          apply codeAny_handlers_suite_as
          apply HandSPX.lands_againZ fly
          intro h4 fly4 up4
          have J4 : Inv X pins σ1 Ha { s' with heap := h4 } := J.landed apart fly4.1 ((up.trans upp).trans up4) os ag
          obtain ⟨oe4, fv4, here4, hz4, hd4⟩ := fly4.there
          have S4 := J4.suite here4 hd4 na offL offF
          refine store_ok (X := X.suite a ((a, oe4) :: (X.pn ++ pins))) (v := .ref a) S4 hN slot (.inl loc) rfl ?_ (.inr loc)
          intro s5 S5
          have fin : ∀ {σ6 : L2.St} {H6 : Hp} {s6 : Shared} {Q : Shared → Prop}, Inv (X.suite a ((a, oe4) :: (X.pn ++ pins))) [] σ6 H6 s6 → (∀ s7, Inv X pins (σ6.set i none) H6 s7 → Q s7) →
              wpAny (model X.prog X.w) X.A (do bindName X.env n .none; unbindBehindTheSuite X.env n hpos) (fun _ s7 => Q s7) X.xe s6 := fun S6 hq => gone_ok (S6.unsuite ok) hN slot loc hq
          refine wpAny_mono ((suite a oe4 cls d (X.pn ++ pins) hz4 ⟨_, hd4⟩).run [] s5 _ Ha _ S5 (yes rfl a na)) ?_ (fun _ _ z => False.elim z)
          intro f s6 out
          cases f with
          | next =>
            obtain ⟨_, _, S6, q⟩ := out
            exact fin S6 fun _ J7 => ⟨_, _, J7, q⟩
          | brk =>
            obtain ⟨_, _, S6, q⟩ := out
            exact fin S6 fun _ J7 => ⟨_, _, J7, q⟩
          | cont =>
            obtain ⟨_, _, S6, q⟩ := out
            exact fin S6 fun _ J7 => ⟨_, _, J7, q⟩
          | ret u =>
            obtain ⟨_, _, _, S6, rv, q⟩ := out
            exact fin S6 fun _ J7 => ⟨_, _, _, J7, rv, q⟩
      | @bare x c i ts first more np hpos hds2 l2 names far suite rest ih =>
        rintro ⟨b, ask, yes, no⟩
        apply wpAny_handleBy_cons _ (by intro q; cases q)
        apply codeAny_handlers_test
        have looks : PySem.W.Looks (model X.prog X.w) hp (typeOf (.ref a)) cls := fun A Q E z k q => wpAny_typeOf_ref (k _ _ here) (by rw [hz.1]; exact q)
        have named : ∀ {Q : Value → Shared → Prop} {E : Value → Shared → Prop}, Q c { s' with heap := hp } → wpAny (model X.prog X.w) (X.A.mark (some (.ref a))) (eval (.Name x np) X.env) Q E { s' with heap := hp } := by
          intro Q E q
          obtain ⟨hg, hdb, hm | ⟨hm, hv, hnn⟩⟩ := names
          · exact ld_glob (X := X.suite a ((a, oe) :: (X.pn ++ pins))) Js hg hm q hdb
          · exact ld_blt (X := X.suite a ((a, oe) :: (X.pn ++ pins))) Js hg hm hv q hnn hdb
        apply named
        apply (PySem.W.exm_one (M := model X.prog X.w) Jh.kIn looks ask).here
        cases b with
        | false => exact ih (no rfl)
        | true =>
          apply codeAny_handlers_suite
          apply HandSPX.lands_againZ fly
          intro h4 fly4 up4
          have J4 : Inv X pins σ1 Ha { s' with heap := h4 } := J.landed apart fly4.1 ((up.trans upp).trans up4) os ag
          obtain ⟨oe4, fv4, here4, hz4, hd4⟩ := fly4.there
          have S4 := J4.suite here4 hd4 na offL offF
          have same : ∀ {σ' : L2.St} {v : Option V}, σ'.length = X.N.length → σ'.set i v = σ' := fun {σ' v} hl => List.set_eq_of_length_le (by rw [hl]; exact far)
          have yes' := yes rfl a na
          rw [same J.len] at yes'
          refine wpAny_mono ((suite a oe4 cls d (X.pn ++ pins) hz4 ⟨_, hd4⟩).run [] _ _ Ha _ S4 yes') ?_ (fun _ _ z => False.elim z)
          intro f s6 out
          cases f with
          | next =>
            obtain ⟨_, _, S6, q⟩ := out
            have q : D.nx _ _ := q
            rw [same S6.len] at q
            exact ⟨_, _, S6.unsuite ok, q⟩
          | brk =>
            obtain ⟨_, _, S6, q⟩ := out
            have q : D.bk _ _ := q
            rw [same S6.len] at q
            exact ⟨_, _, S6.unsuite ok, q⟩
          | cont =>
            obtain ⟨_, _, S6, q⟩ := out
            have q : D.ct _ _ := q
            rw [same S6.len] at q
            exact ⟨_, _, S6.unsuite ok, q⟩
          | ret u =>
            obtain ⟨_, _, _, S6, rv, q⟩ := out
            exact ⟨_, _, _, S6.unsuite ok, rv, q⟩
    exact all cl wish
  · intro f s1 out
    cases f with
    | next =>
      obtain ⟨_, _, Jt, q⟩ := out
      exact wpAny_execs_nil ⟨_, _, Jt.ofTry ok, q⟩
    | brk =>
      obtain ⟨_, _, Jt, q⟩ := out
      exact ⟨_, _, Jt.ofTry ok, q⟩
    | cont =>
      obtain ⟨_, _, Jt, q⟩ := out
      exact ⟨_, _, Jt.ofTry ok, q⟩
    | ret u =>
      obtain ⟨_, _, _, Jt, rv, q⟩ := out
      exact ⟨_, _, _, Jt.ofTry ok, rv, q⟩
end
/-- isinstance(e, c) of the error that a clause holds -/
def rIsC (K : PySem.W.Frag) (cls : Value) (d : Option Addr) (a : Addr) : List V → Hp → VK → Prop := fun xs H Q => match xs with
  | [.ref a', .ref c] => ∃ (C dd : Addr) (fs : List (Str × V)) (b : Bool), a' = a ∧ cls = .ref C ∧ d = some dd ∧ H dd = some (.xd fs) ∧ Es K C ∧ PySem.W.kitOne K (.ref C) (.ref c) = some b ∧ Q (.bl b) H
  | _ => False
theorem c_isC {X : Cx} {a : Addr} {oe : Obj} {cls : Value} {d : Option Addr} {pn : List (Addr × Obj)} (hz : Zc cls d oe) (hf : ∃ vs, oe.data = .fields vs) : CallR (X.suite a ((a, oe) :: pn)) (.builtin "isinstance") (rIsC X.K cls d a) := by
  intro pins s σ H xs us Q I r h
  unfold rIsC at h
  split at h
  · rename_i a' c
    obtain ⟨C, dd, fs, b, rfl, rfl, rfl, hx, S, ask, q⟩ := h
    cases r with
    | cons r1 rr =>
      cases rr with
      | cons r2 rr =>
        cases rr
        cases r1
        cases r2
        obtain ⟨here, _⟩ := I.pin (a', oe) (List.mem_append.mpr (.inl List.mem_cons_self))
        obtain ⟨vs, hd⟩ := hf
        obtain ⟨mA, ns, _⟩ := (show ObjOk X.prog X.w H s.heap dd (.xd fs) from I.hok dd _ hx)
        obtain ⟨od, ho, _⟩ := lookIn_ns ns
        have J : PySem.W.InstAt s.heap a' oe C (some od) := ⟨here, hz.1, by unfold PySem.W.notCls; rw [hd] <;> rfl, by rw [hz.2]; exact ho⟩
        have cl : (PySem.W.clsIn X.K C).isSome = true := by
          obtain ⟨cd, hc, _⟩ := PySem.W.any_some S.xf.hdC
          rw [hc]
          rfl
        exact PySem.W.kia_one (PySem.W.kitx_exc cl S.xf.ga S.xf.gg S.xf.exC S.ha S.hn S.ht S.hm) I.kIn J ask (fun z => nomatch z) fun tk => ⟨.bl b, H, I.tok _, rfl, q⟩
  · exact h.elim
theorem k_isC {X : Cx} (K : PySem.W.Frag) {a : Addr} {oe : Obj} {cls : Value} {d : Option Addr} {pn : List (Addr × Obj)} (hz : Zc cls d oe) (hf : ∃ vs, oe.data = .fields vs) (hK : X.K = K := by rfl) : CallR (X.suite a ((a, oe) :: pn)) (.builtin "isinstance") (rIsC K cls d a) := hK ▸ c_isC hz hf
/-- the class of that name at the top -/
def clsAt (K : PySem.W.Frag) (x : Str) (C : Addr) : Prop := PySem.W.nsIn K mainGlobals x = some (some (.ref C))
theorem clsAt.one {K : PySem.W.Frag} {x : Str} {C D : Addr} (a : clsAt K x C) (b : clsAt K x D) : C = D := by
  unfold clsAt at a b
  rw [a] at b
  cases b
  rfl
/-- what is asked of the base whose __init__ is called by its name -/
structure BaseC (K : PySem.W.Frag) (B : Addr) : Prop where
  ex : ∃ mc, PySem.W.specialIn K (.ref B) "__getattribute__" = some (some (.builtin "type.__getattribute__")) ∧ PySem.W.readsIn K B mc = true ∧ PySem.W.findCls K (.ref B) mc "__init__" = some (.val (.builtin "Exception.__init__"))
/-- an error of the class x with this field leaves -/
def Rz (K : PySem.W.Frag) (x f : Str) (v : V) (H : Hp) (E : XK) : Prop := ∀ C d H2, clsAt K x C → Same H H2 → H2 d = some (.xd [(f, v)]) → E (.ref C) (some d) H2
theorem Rz.go {K : PySem.W.Frag} {x f : Str} {v : V} {H H1 H2 : Hp} {E : XK} {C d : Addr} (h : Rz K x f v H E) (c : clsAt K x C) (s : Same H H1) (n : Nw H1 d (.xd [(f, v)]) H2) : E (.ref C) (some d) H2 := h C d H2 c (s.trans n.same) n.here
/-- a list some times over -/
def zRepL : R2 := fun x y H Q => match x, y with
  | .ref l, .int k => ∃ xs, H l = some (.lst xs) ∧ -(2 ^ 63) ≤ k ∧ k < 2 ^ 63 ∧ xs.length * k.toNat ≤ sizeLine ∧ ∀ p H2, Nw H p (.lst (List.replicate k.toNat xs).flatten) H2 → Q (.ref p) H2
  | _, _ => False
theorem o_repL {X : Cx} : OpR X (binaryOp .Mult) zRepL := by
  intro pins s σ H x y v u Q I rx ry h
  unfold zRepL at h
  split at h
  · obtain ⟨xs, h1, h2, h3, h4, q⟩ := h
    exact op_rep pins s σ H _ _ v u Q I rx ry ⟨_, _, xs, rfl, rfl, h1, h2, h3, h4, fun p hp => q p _ (nw hp)⟩
  · exact h.elim
/-- what stands in a class -/
def clsB : Stmt → List Stmt
  | .ClassDef (body := inside) .. => inside
  | _ => []
theorem ct0 {P : Program} {w : World} {K : PySem.W.Frag} {mg : Str → Option Value} {base : Heap} {x : Str} {st : Stmt} {N : List Str} {k : Nat} {p : Hp → VK → XK → Prop} (D : Df K mg x st []) (S : FnScope N [] (defScope st))
    (body : ∀ (f : Addr) (cdv : Value) (A : Around) (outer : List Env) (s : Shared) (H : Hp) (Q : VK) (E : XK), Room k (A.deeper (envOfC x (defScope st) s.heap.objs.size f cdv)) → p H Q E →
      ∃ t, PSs (cxOf CX0 P w K mg base N x (defScope st) f cdv A outer s H E).nox (defBody st) t ∧ t { nx := fun _ H' => Q .non H', rt := Q } (start N []) H) : Ct P w K mg base CX0 (k + 1) x [] (fun vs H Q E => vs = [] ∧ p H Q E) := by
  obtain ⟨f, fd, F, hm, hb⟩ := D.ex
  refine ⟨f, fd, hm, F.kp, hb, F.ok S ?_ ?_, fun_at F⟩
  · intro vs H Q E h
    rw [h.1]
    rfl
  · intro cdv A outer s H vs Q E hr h
    obtain ⟨rfl, h⟩ := h
    exact body f cdv A outer s H Q E hr h
/-- d[k] = v -/
def zSetD : V → V → V → Hp → (Hp → Prop) → Prop := fun o i v H Q => match o with
  | .ref a => ∃ kvs k, H a = some (.dK kvs) ∧ i = kV k ∧ kvs.length < sizeLine ∧ ∀ H2, Wr H a (.dK (putK kvs k v)) H2 → Q H2
  | _ => False
theorem s_dict {X : Cx} (hu : X.A.units + 1 < cLine) : PSet X zSetD := by
  intro pins s σ H o i v ov iv u Q I ro ri rv h
  unfold zSetD at h
  split at h
  · obtain ⟨kvs, k, ea, rfl, hl, q⟩ := h
    cases ro
    exact d_setItem hu I (DPut.k ea hl) ri rv fun s' J => ⟨_, J, q _ wr⟩
  · exact h.elim
/-- range(a, b) -/
def tRng2 (ta : TA) : TI := fun σ H R => ta σ H fun vs H1 => match vs with
  | [.int i, .int j] => -(2 ^ 62) ≤ i ∧ i < 2 ^ 62 ∧ -(2 ^ 62) ≤ j ∧ j < 2 ^ 62 ∧ R (Itr i (j - i).toNat) H1
  | _ => False
theorem pi_rng2 {X : Cx} {tg a b : Expr} {ta : TA} {p pos : Pos} (hg : Gl X "range") (hm : X.mg "range" = none) (ha : PA X [a, b] ta) (hs : starEach [a, b] X.env = [(false, eval a X.env), (false, eval b X.env)] := by rfl) (hs2 : starEach [b] X.env = [(false, eval b X.env)] := by rfl) :
    PI X tg (.Call (.Name "range" p) [a, b] [] pos) (tRng2 ta) :=
  pi_w (pi_range2 hg hm (pa_mon ha) hs hs2) fun σ H R h => ⟨_, h, fun vs H1 h1 => by
    split at h1
    · obtain ⟨a1, a2, a3, a4, q⟩ := h1
      exact ⟨_, _, rfl, ⟨a1, a2, a3, a4⟩, q⟩
    · exact h1.elim⟩
/-! ### lists that may be shown beside a dict: they do not lie where the modules do -/
def zAddS (K : PySem.W.Frag) : R2 := fun x y H Q => match x, y with
  | .ref l, .ref b => ∃ xs zs, H l = some (.lst xs) ∧ H b = some (.lst zs) ∧ xs.length + zs.length ≤ sizeLine ∧ ∀ p H2, Nw H p (.lst (xs ++ zs)) H2 → p ≠ sysModules → Q (.ref p) H2
  | x, y => zAdd K x y H Q
theorem o_addS {X : Cx} : OpR X (binaryOp .Add) (zAddS X.K) := by
  intro pins s σ H x y v u Q I rx ry h
  unfold zAddS at h
  split at h
  · rename_i l b
    obtain ⟨xs, zs, h1, h2, hz, q⟩ := h
    cases rx
    cases ry
    obtain ⟨z1, its, n, r, hl, e⟩ := I.lstM h1
    obtain ⟨z2, its2, n2, r2, hl2, e2⟩ := I.lstM h2
    refine PySem.P.add_list e e2 ?_ (by rw [List.size_toArray, List.size_toArray]; omega)
    rw [show its.toArray ++ its2.toArray = (its ++ its2).toArray by simp]
    exact ⟨.ref _, _, I.lnew (t' := s.toks) (r.append r2) (by rw [List.length_append]; omega), rfl, q _ _ (nw I.fresh) (Nat.ne_of_gt I.big)⟩
  · exact o_add pins s σ H _ _ v u Q I rx ry h
theorem k_addS {X : Cx} (K : PySem.W.Frag) (hK : X.K = K := by rfl) : OpR X (binaryOp .Add) (zAddS K) := hK ▸ o_addS
def zListS (K : PySem.W.Frag) : List V → Hp → VK → Prop := fun vs H Q => match vs with
  | [.ref p] => ∃ ys, (SqL K H p ys ∨ SqT K H p ys) ∧ ∀ l H2, Nw H l (.lst ys) H2 → l ≠ sysModules → Q (.ref l) H2
  | _ => False
theorem c_listS {X : Cx} : CallR X (.type "list") (zListS X.K) := by
  intro pins s σ H xs us Q I r h
  unfold zListS at h
  split at h
  · rename_i p
    obtain ⟨ys, hq, q⟩ := h
    obtain ⟨u, rfl, ru⟩ := vals1 r
    cases ru
    have put : ∀ (its : List Value), Vals ys its → ys.length ≤ sizeLine → ∀ (h' : Heap) (n : Nat), (∀ b o, s.heap.get? b = some o → h'.get? b = some o) →
        h'.get? s.heap.objs.size = some { cls := .type "list", dict := none, data := .seq its.toArray n, slots := #[] } → EP X pins σ Q (.ref s.heap.objs.size) { s with heap := h' } := by
      intro its rv hz h' n kp e
      exact ⟨.ref _, _, I.laid (t' := s.toks) kp (Nat.le_refl _) (show ObjOk X.prog X.w _ h' _ (.lst ys) from ⟨hz, its, n, rv, e⟩), rfl, q _ _ (nw (I.hok.fresh (Nat.le_refl _))) (Nat.ne_of_gt I.big)⟩
    rcases hq with hq | hq
    · obtain ⟨its, rv, pl, hz⟩ := I.list hq
      have ll := rv.length
      obtain ⟨o, ho, hc, n, hd⟩ := pl.isList
      refine call_list_seq p (.inl rfl) ho hc hd (fun h' n' kp e => put its rv hz h' n' kp e) ?_
      simp only [List.size_toArray] <;> omega
    · obtain ⟨its, rv, ⟨o, ho, hc, n, hd⟩, hz⟩ := I.tuple hq
      have ll := rv.length
      refine call_list_seq p (.inr rfl) ho hc hd (fun h' n' kp e => put its rv hz h' n' kp e) ?_
      simp only [List.size_toArray] <;> omega
  · exact h.elim
theorem k_listS {X : Cx} (K : PySem.W.Frag) (hK : X.K = K := by rfl) : CallR X (.type "list") (zListS K) := hK ▸ c_listS
/-- isinstance of an error, by what the classes say of each other -/
theorem kit_sub {K : PySem.W.Frag} {C D : Addr} {b : Bool} (h : PySem.W.subIn K (.ref C) (.ref D) = some b) (self : PySem.W.subIn K (.ref C) (.ref C) = some true) (hd : PySem.W.hasDictIn K D = true) (ty : PySem.W.typeIn K (.ref D) = some (.type "type")) : PySem.W.kitOne K (.ref C) (.ref D) = some b := by
  unfold PySem.W.kitOne
  split
  · rename_i e
    have e : C = D := Value.ref.inj (eq_of_beq e)
    subst e
    rw [self] at h
    exact h
  · obtain ⟨cd, hc, _⟩ := PySem.W.any_some hd
    have e2 : ((PySem.W.clsIn K D).isSome && PySem.W.typeIn K (.ref D) == some (.type "type")) = true := by rw [hc, ty] <;> rfl
    show (if ((PySem.W.clsIn K D).isSome && PySem.W.typeIn K (.ref D) == some (.type "type")) = true then PySem.W.subIn K (.ref C) (.ref D) else none) = some b
    rw [if_pos e2]
    exact h
end Z

/-! C: own classes: their methods, which may raise, by place and by name. -/
namespace Z
open PySem PySem.Spec PyProof.Rows L2

/-- a method's contract -/
structure Mt (P : Program) (w : World) (K : PySem.W.Frag) (mg : Str → Option Value) (base : Heap) (CX : CXT) (k : Nat) (C : Addr) (m : Str) (ps : List Str) (sp : Sp) : Prop where
  ex : ∃ f fd, Cls K C ∧ Meth K C m f ∧ Binds K fd ps [] ∧ FnOk P w K mg base CX k f fd ps sp ∧ ∃ oc od osl, K.lookup f = some ⟨oc, od, .func fd, osl⟩
/-- a method's def as it stands -/
structure Dm (K : PySem.W.Frag) (C : Addr) (m qual : Str) (st : Stmt) (ps : List Str) : Prop where
  ex : ∃ f fd, Fun K m qual st f fd ∧ Cls K C ∧ Meth K C m f ∧ Binds K fd ps []
section
variable {P : Program} {w : World} {K : PySem.W.Frag} {mg : Str → Option Value} {base : Heap} {C : Addr} {m qual : Str} {st : Stmt}
theorem mt_of {N ps : List Str} {k : Nat} {sp : Sp} (D : Dm K C m qual st ps) (S : FnScope N ps (defScope st)) (len : ∀ vs H Q E, sp vs H Q E → vs.length = ps.length)
    (body : ∀ (f : Addr) (cdv : Value) (A : Around) (outer : List Env) (s : Shared) (H : Hp) (vs : List V) (Q : VK) (E : XK), Room k (A.deeper (envOfC qual (defScope st) s.heap.objs.size f cdv)) → sp vs H Q E →
      ∃ t, PSs (cxOf CX0 P w K mg base N qual (defScope st) f cdv A outer s H E).nox (defBody st) t ∧ t { nx := fun _ H' => Q .non H', rt := Q } (start N vs) H) : Mt P w K mg base CX0 (k + 1) C m ps sp := by
  obtain ⟨f, fd, F, hc, hm, hb⟩ := D.ex
  exact ⟨f, fd, hc, hm, hb, F.ok S len fun cdv A outer s H vs Q E hr h => body f cdv A outer s H vs Q E hr h, fun_at F⟩
theorem mx_of {N ps : List Str} {k : Nat} {sp : Sp} (D : Dm K C m qual st ps) (S : FnScope N ps (defScope st)) (len : ∀ vs H Q E, sp vs H Q E → vs.length = ps.length)
    (body : ∀ (f : Addr) (cdv : Value) (A : Around) (outer : List Env) (s : Shared) (H : Hp) (vs : List V) (Q : VK) (E : XK), Room k (A.deeper (envOfC qual (defScope st) s.heap.objs.size f cdv)) → sp vs H Q E →
      ∃ t, PSs (cxOf (L2.CX P w) P w K mg base N qual (defScope st) f cdv A outer s H E) (defBody st) t ∧ t { nx := fun _ H' => Q .non H', rt := Q } (start N vs) H) : Mt P w K mg base (L2.CX P w) (k + 1) C m ps sp := by
  obtain ⟨f, fd, F, hc, hm, hb⟩ := D.ex
  exact ⟨f, fd, hc, hm, hb, F.okX S len fun cdv A outer s H vs Q E hr h => body f cdv A outer s H vs Q E hr h, fun_at F⟩
theorem len1 {p : V → Hp → VK → XK → Prop} {a : Str} (vs : List V) (H : Hp) (Q : VK) (E : XK) (h : sp1 p vs H Q E) : vs.length = [a].length := by
  obtain ⟨u, rfl, _⟩ := sp1_of h
  rfl
theorem len2 {p : V → V → Hp → VK → XK → Prop} {a b : Str} (vs : List V) (H : Hp) (Q : VK) (E : XK) (h : sp2 p vs H Q E) : vs.length = [a, b].length := by
  obtain ⟨u, v, rfl, _⟩ := sp2_of h
  rfl
theorem len3 {p : V → V → V → Hp → VK → XK → Prop} {a b c : Str} (vs : List V) (H : Hp) (Q : VK) (E : XK) (h : sp3 p vs H Q E) : vs.length = [a, b, c].length := by
  obtain ⟨u, v, y, rfl, _⟩ := sp3_of h
  rfl
/-- methods of one to three parameters, self first -/
theorem mt1 {a : Str} {N : List Str} {k : Nat} {p : V → Hp → VK → XK → Prop} (D : Dm K C m qual st [a]) (S : FnScope N [a] (defScope st))
    (body : ∀ (f : Addr) (cdv : Value) (A : Around) (outer : List Env) (s : Shared) (H : Hp) (u : V) (Q : VK) (E : XK), Room k (A.deeper (envOfC qual (defScope st) s.heap.objs.size f cdv)) → p u H Q E →
      ∃ t, PSs (cxOf CX0 P w K mg base N qual (defScope st) f cdv A outer s H E).nox (defBody st) t ∧ t { nx := fun _ H' => Q .non H', rt := Q } (start N [u]) H) : Mt P w K mg base CX0 (k + 1) C m [a] (sp1 p) :=
  mt_of D S len1 fun f cdv A outer s H vs Q E hr h => by
    obtain ⟨u, rfl, h⟩ := sp1_of h
    exact body f cdv A outer s H u Q E hr h
theorem mt2 {a b : Str} {N : List Str} {k : Nat} {p : V → V → Hp → VK → XK → Prop} (D : Dm K C m qual st [a, b]) (S : FnScope N [a, b] (defScope st))
    (body : ∀ (f : Addr) (cdv : Value) (A : Around) (outer : List Env) (s : Shared) (H : Hp) (u v : V) (Q : VK) (E : XK), Room k (A.deeper (envOfC qual (defScope st) s.heap.objs.size f cdv)) → p u v H Q E →
      ∃ t, PSs (cxOf CX0 P w K mg base N qual (defScope st) f cdv A outer s H E).nox (defBody st) t ∧ t { nx := fun _ H' => Q .non H', rt := Q } (start N [u, v]) H) : Mt P w K mg base CX0 (k + 1) C m [a, b] (sp2 p) :=
  mt_of D S len2 fun f cdv A outer s H vs Q E hr h => by
    obtain ⟨u, v, rfl, h⟩ := sp2_of h
    exact body f cdv A outer s H u v Q E hr h
theorem mx1 {a : Str} {N : List Str} {k : Nat} {p : V → Hp → VK → XK → Prop} (D : Dm K C m qual st [a]) (S : FnScope N [a] (defScope st))
    (body : ∀ (f : Addr) (cdv : Value) (A : Around) (outer : List Env) (s : Shared) (H : Hp) (u : V) (Q : VK) (E : XK), Room k (A.deeper (envOfC qual (defScope st) s.heap.objs.size f cdv)) → p u H Q E →
      ∃ t, PSs (cxOf (L2.CX P w) P w K mg base N qual (defScope st) f cdv A outer s H E) (defBody st) t ∧ t { nx := fun _ H' => Q .non H', rt := Q } (start N [u]) H) : Mt P w K mg base (L2.CX P w) (k + 1) C m [a] (sp1 p) :=
  mx_of D S len1 fun f cdv A outer s H vs Q E hr h => by
    obtain ⟨u, rfl, h⟩ := sp1_of h
    exact body f cdv A outer s H u Q E hr h
theorem mx2 {a b : Str} {N : List Str} {k : Nat} {p : V → V → Hp → VK → XK → Prop} (D : Dm K C m qual st [a, b]) (S : FnScope N [a, b] (defScope st))
    (body : ∀ (f : Addr) (cdv : Value) (A : Around) (outer : List Env) (s : Shared) (H : Hp) (u v : V) (Q : VK) (E : XK), Room k (A.deeper (envOfC qual (defScope st) s.heap.objs.size f cdv)) → p u v H Q E →
      ∃ t, PSs (cxOf (L2.CX P w) P w K mg base N qual (defScope st) f cdv A outer s H E) (defBody st) t ∧ t { nx := fun _ H' => Q .non H', rt := Q } (start N [u, v]) H) : Mt P w K mg base (L2.CX P w) (k + 1) C m [a, b] (sp2 p) :=
  mx_of D S len2 fun f cdv A outer s H vs Q E hr h => by
    obtain ⟨u, v, rfl, h⟩ := sp2_of h
    exact body f cdv A outer s H u v Q E hr h
theorem mx3 {a b c : Str} {N : List Str} {k : Nat} {p : V → V → V → Hp → VK → XK → Prop} (D : Dm K C m qual st [a, b, c]) (S : FnScope N [a, b, c] (defScope st))
    (body : ∀ (f : Addr) (cdv : Value) (A : Around) (outer : List Env) (s : Shared) (H : Hp) (u v y : V) (Q : VK) (E : XK), Room k (A.deeper (envOfC qual (defScope st) s.heap.objs.size f cdv)) → p u v y H Q E →
      ∃ t, PSs (cxOf (L2.CX P w) P w K mg base N qual (defScope st) f cdv A outer s H E) (defBody st) t ∧ t { nx := fun _ H' => Q .non H', rt := Q } (start N [u, v, y]) H) : Mt P w K mg base (L2.CX P w) (k + 1) C m [a, b, c] (sp3 p) :=
  mx_of D S len3 fun f cdv A outer s H vs Q E hr h => by
    obtain ⟨u, v, y, rfl, h⟩ := sp3_of h
    exact body f cdv A outer s H u v y Q E hr h
/-- the same method called by names behind self: g puts the values in the parameters' order -/
structure MtK (P : Program) (w : World) (K : PySem.W.Frag) (mg : Str → Option Value) (base : Heap) (CX : CXT) (k : Nat) (C : Addr) (m : Str) (ps ks : List Str) (g : {α : Type} → List α → List α) (sp : Sp) : Prop where
  ex : ∃ f fd, Cls K C ∧ Meth K C m f ∧ (∀ (s : Shared) (u : Value) (ws : List Value), (u :: g ws).length = ps.length → BindsTo s fd ⟨[u], ks.zip ws⟩ (ps.zip (u :: g ws))) ∧ (∀ {zs : List V} {ws : List Value}, Vals zs ws → Vals (g zs) (g ws)) ∧ FnOk P w K mg base CX k f fd ps sp
theorem Mt.kw {CX : CXT} {k : Nat} {ps ks : List Str} {g : {α : Type} → List α → List α} {sp : Sp} (M : Mt P w K mg base CX k C m ps sp) (D : Dm K C m qual st ps)
    (h : ∀ (kV doc pm : Value) (an : Option Addr) (cdv ct : Value) (u : Value) (ws : List Value), (u :: g ws).length = ps.length → bindArgs (PySem.W.fnOf m qual (defArgs st) (defBody st) (defScope st) .none kV doc pm an cdv ct) ⟨[u], ks.zip ws⟩ = pure (ps.zip (u :: g ws)))
    (hg : ∀ {zs : List V} {ws : List Value}, Vals zs ws → Vals (g zs) (g ws)) : MtK P w K mg base CX k C m ps ks g sp := by
  obtain ⟨f, fd, hc, hm, hb, F, oc, od, osl, hl⟩ := M.ex
  obtain ⟨f', fd', F', _, hm', _⟩ := D.ex
  have e : f = f' := by
    have a := hm.at_
    rw [hm'.at_] at a
    cases a
    rfl
  subst e
  obtain ⟨oc', od', kV, doc, pm, an, cdv, ct, osl', rfl, hl', _⟩ := F'.ex
  have e2 : fd = PySem.W.fnOf m qual (defArgs st) (defBody st) (defScope st) .none kV doc pm an cdv ct := by
    rw [hl] at hl'
    cases hl'
    rfl
  subst e2
  exact ⟨f, _, hc, hm, fun s u ws hlen => .of_eq (h kV doc pm an cdv ct u ws hlen), hg, F⟩
end
/-- o.m(..): the receiver, then the values -/
def tMt (C : Addr) (m : Str) (sp : Sp) (E : L2.St → XK) (ta : TE) (t : TA) : TE := fun σ H Q => ta σ H fun x H1 => match x with
  | .ref a => ∃ dx fs, H1 a = some (.ins C dx fs) ∧ fs.lookup m = none ∧ t σ H1 fun vs H2 => sp (.ref a :: vs) H2 Q (E σ)
  | _ => False
def tMtK (C : Addr) (m : Str) (g : {α : Type} → List α → List α) (sp : Sp) (E : L2.St → XK) (ta : TE) (t : TA) : TE := fun σ H Q => ta σ H fun x H1 => match x with
  | .ref a => ∃ dx fs, H1 a = some (.ins C dx fs) ∧ fs.lookup m = none ∧ t σ H1 fun vs H2 => sp (.ref a :: g vs) H2 Q (E σ)
  | _ => False
section
variable {X : Cx} {CX : CXT} {k : Nat} {C : Addr} {m : Str} {ps ks : List Str} {sp : Sp} {E : L2.St → XK} {pos apos : Pos} {e o : Expr} {es : List Expr} {ta : TE} {t : TA} {kws : List Keyword}
theorem pe_mtA {pl : Sem Bool} (M : Mt X.prog X.w X.K X.mg X.base CX k C m ps sp) (hr : Room k X.A) (hx : ∀ σ, PassesAt CX X σ (E σ)) (ho : PE X o ta) (ha : PA X (e :: es) t)
    (hst : starEach (e :: es) X.env = (false, eval e X.env) :: starEach es X.env := by rfl) (hpl : (backTo pos (starEach es X.env)).any (·.1) = false := by rfl)
    (ht : eval (.Call (.Attribute o m apos) (e :: es) [] pos) X.env = (do
      let ov ← eval o X.env
      standAt apos.atName
      let (f, first) ← holding [ov] (getMethod ov m pl)
      callWith pos f first (backTo pos (starEach (e :: es) X.env)) (backToKw pos (keywordEach [] X.env))) := by rfl) : PE X (.Call (.Attribute o m apos) (e :: es) [] pos) (tMt C m sp E ta t) := by
  obtain ⟨f, fd, hc, hm, hb, F, _⟩ := M.ex
  constructor
  intro pins s σ H Q I h
  refine PySem.W.methodCall_KW (pl := pl) (thn (ho.run pins s σ H _ I h) ?_) ht
  rintro u s1 ⟨x, H1, I1, rx, h1⟩
  split at h1
  · rename_i a
    obtain ⟨dx, fs, ea, l, q⟩ := h1
    obtain rfl : u = Value.ref a := rx
    apply getmeth_ok I1 ea hc hm l
    refine PySem.W.callWith_K (first := [.ref a]) (h₀ := X.base) I.ok.mod.kin hm.kp (thn (ha.run pos pins s1 σ H1 _ I1 q) ?_) hst hpl
    rintro us s2 ⟨vs, H2, I2, r, q2⟩
    exact ⟨I2.kIn, run_fnS (us := .ref a :: us) (vs := .ref a :: vs) F hr hb (hx σ) I2 (.cons rfl r) q2⟩
  · exact h1.elim
theorem pe_mtA0 {pl : Sem Bool} (M : Mt X.prog X.w X.K X.mg X.base CX k C m ps sp) (hr : Room k X.A) (hx : ∀ σ, PassesAt CX X σ (E σ)) (ho : PE X o ta)
    (ht : eval (.Call (.Attribute o m apos) [] [] pos) X.env = (do
      let ov ← eval o X.env
      standAt apos.atName
      let (f, first) ← holding [ov] (getMethod ov m pl)
      callWith pos f first (backTo pos (starEach [] X.env)) (backToKw pos (keywordEach [] X.env))) := by rfl) : PE X (.Call (.Attribute o m apos) [] [] pos) (tMt C m sp E ta tNil) := by
  obtain ⟨f, fd, hc, hm, hb, F, _⟩ := M.ex
  constructor
  intro pins s σ H Q I h
  refine PySem.W.methodCall_KW (pl := pl) (thn (ho.run pins s σ H _ I h) ?_) ht
  rintro u s1 ⟨x, H1, I1, rx, h1⟩
  split at h1
  · rename_i a
    obtain ⟨dx, fs, ea, l, q⟩ := h1
    obtain rfl : u = Value.ref a := rx
    apply getmeth_ok I1 ea hc hm l
    exact PySem.W.callWith_K0 (first := [.ref a]) I1.kIn hm.kp (run_fnS (us := [.ref a]) (vs := [.ref a]) F hr hb (hx σ) I1 (.cons rfl .nil) q)
  · exact h1.elim
theorem pe_mtK {pl : Sem Bool} {g : {α : Type} → List α → List α} (M : MtK X.prog X.w X.K X.mg X.base CX k C m ps ks g sp) (hr : Room k X.A) (hx : ∀ σ, PassesAt CX X σ (E σ)) (ho : PE X o ta) (hkw : PK X kws t)
    (hall : (backToKw pos (keywordEach kws X.env)).all (·.1.isSome) = true := by rfl) (hks : (backToKw pos (keywordEach kws X.env)).filterMap (·.1) = ks := by rfl)
    (hpl : ((backTo pos (starEach [] X.env)).any (·.1) || (backToKw pos (keywordEach kws X.env)).any (·.1.isNone)) = false := by rfl)
    (ht : eval (.Call (.Attribute o m apos) [] kws pos) X.env = (do
      let ov ← eval o X.env
      standAt apos.atName
      let (f, first) ← holding [ov] (getMethod ov m pl)
      callWith pos f first (backTo pos (starEach [] X.env)) (backToKw pos (keywordEach kws X.env))) := by rfl) : PE X (.Call (.Attribute o m apos) [] kws pos) (tMtK C m g sp E ta t) := by
  obtain ⟨f, fd, hc, hm, hb, hrel, F⟩ := M.ex
  constructor
  intro pins s σ H Q I h
  refine PySem.W.methodCall_KW (pl := pl) (thn (ho.run pins s σ H _ I h) ?_) ht
  rintro u s1 ⟨x, H1, I1, rx, h1⟩
  split at h1
  · rename_i a
    obtain ⟨dx, fs, ea, l, q⟩ := h1
    obtain rfl : u = Value.ref a := rx
    apply getmeth_ok I1 ea hc hm l
    refine PySem.W.callWith_KW0 (first := [.ref a]) (h₀ := X.base) I.ok.mod.kin hm.kp hall (thn (hkw.run pos pins s1 σ H1 _ I1 q) ?_) hpl
    rintro ws s2 ⟨zs, H2, I2, rz, q2⟩
    refine ⟨I2.kIn, ?_⟩
    rw [hks]
    have r2 : Vals (V.ref a :: g zs) (Value.ref a :: g ws) := .cons rfl (hrel rz)
    have hl : (Value.ref a :: g ws).length = ps.length := r2.length.symm.trans (F.len _ _ _ _ q2)
    apply wpAny_call
    refine codeAny_mono (F.run X.A X.stack s2 H2 ⟨[.ref a], ks.zip ws⟩ (.ref a :: g ws) (.ref a :: g zs) Q (E σ) hr I2.env0 (hb s2 (.ref a) ws hl) r2 q2) ?_
    intro r s' z
    match r, z with
    | .error er, z => exact hx σ pins H2 s2 er s' I2 z
    | .ok (.ret u), z => exact I2.after z
    | .ok .next, z => exact False.elim z
    | .ok .brk, z => exact False.elim z
    | .ok .cont, z => exact False.elim z
  · exact h1.elim
/-- nothing is let out, of a def that may not; of a def that may, but does not here -/
theorem at0 (σ : L2.St) : PassesAt CX0 X σ ((fun _ => E0) σ) := fun _ _ _ _ _ _ h => h.elim
theorem atL (σ : L2.St) : PassesAt (L2.CX X.prog X.w) X σ ((fun _ => E0) σ) := fun _ _ _ _ _ _ h => by
  obtain ⟨_, _, _, _, _, _, _, _, _, _, _, _, z⟩ := h
  exact z.elim
/-- C(): the class under its name, its __init__ alone of self -/
structure Kn (P : Program) (w : World) (K : PySem.W.Frag) (mg : Str → Option Value) (base : Heap) (k : Nat) (x : Str) (C : Addr) (sp : Sp) : Prop where
  ex : ∃ f fd ps, Mk K C f ∧ FnOk P w K mg base CX0 k f fd ps sp ∧ mg x = some (.ref C) ∧ Binds K fd ps []
def tNew (C : Addr) (sp : Sp) : TE := fun _ H Q => ∀ a dx, H a = none → H dx = none → dx ≠ a → sp [.ref a] (upd (upd H dx (.own a)) a (.ins C dx [])) (fun v H2 => v = .non ∧ Q (.ref a) H2) E0
theorem pe_new0 {x : Str} {p : Pos} (c : Kn X.prog X.w X.K X.mg X.base k x C sp) (hr : Room (k + 1) X.A) (hg : Gl X x := by rfl) (hdb : (x == ("__debug__" : Str)) = false := by decide) : PE X (.Call (.Name x p) [] [] pos) (tNew C sp) := by
  obtain ⟨f, fd, ps, M, F, hm, b⟩ := c.ex
  refine pe_w (pe_make0 (E := E0) M F hr hg hm b .nil pass0 hdb) ?_
  intro σ H Q h a dx na nd ne
  exact h a dx na nd ne
end
/-! ### fields -/
section
variable {X : Cx} {C : Addr} {f : Str} {o e value : Expr} {pos pos' tpos : Pos} {ta tv : TE}
def tFdC (C : Addr) (ta : TE) (f : Str) : TE := fun σ H Q => ta σ H fun x H1 => match x with
  | .ref a => ∃ dx fs v, H1 a = some (.ins C dx fs) ∧ fs.lookup f = some v ∧ Q v H1
  | _ => False
theorem pe_fdC (c : Cls X.K C) (n : NoAttr X.K C f) (he : PE X e ta) (hb : attributeBase e f X.env (eval e X.env) = eval e X.env := by rfl) : PE X (.Attribute e f pos) (tFdC C ta f) :=
  pe_w (pe_fld (pe_mon he) hb) fun σ H Q h => ⟨_, h, fun x H1 h1 => by
    split at h1
    · obtain ⟨dx, fs, v, ea, l, q⟩ := h1
      exact ⟨_, C, dx, fs, v, rfl, ea, c, n, l, q⟩
    · exact h1.elim⟩
def sFdC (C : Addr) (ta tv : TE) (f : Str) : TS := fun D σ H => tv σ H fun y H1 => ta σ H1 fun x H2 => match x with
  | .ref a => ∃ dx fs, H2 a = some (.ins C dx fs) ∧ fs.length < 1000 ∧ ∀ H3, Wr H2 a (.ins C dx (putF f y fs)) H3 → D.nx σ H3
  | _ => False
theorem ps_fdC (c : Cls X.K C) (n : NoAttr X.K C f) (ha : PE X o ta) (hv : PE X value tv) (hs : swapsWith value (some (.Attribute o f pos')) pos.line X.env = pure false := by rfl) : PS X (.Assign [.Attribute o f pos'] value pos) (sFdC C ta tv f) :=
  ps_w (ps_fld (pe_mon ha) (pe_mon hv) hs) fun D σ H h => ⟨_, h, fun y H1 h1 => ⟨_, h1, fun x H2 h2 => by
    split at h2
    · obtain ⟨dx, fs, ea, l, q⟩ := h2
      exact ⟨_, C, dx, fs, rfl, ea, c, n, l, q _ wr⟩
    · exact h2.elim⟩⟩
def sFaC (C : Addr) (ta tv : TE) (rd : V → V → Hp → VK → Prop) (f : Str) : TS := fun D σ H => ta σ H fun x H1 => match x with
  | .ref a => ∃ dx fs v, H1 a = some (.ins C dx fs) ∧ fs.lookup f = some v ∧ tv σ H1 fun y H2 => rd v y H2 fun z H3 => ∃ dx' fs', H3 a = some (.ins C dx' fs') ∧ fs'.length < 1000 ∧ ∀ H4, Wr H3 a (.ins C dx' (putF f z fs')) H4 → D.nx σ H4
  | _ => False
end
section
variable {X : Cx} {C : Addr} {f : Str} {o value : Expr} {pos tpos : Pos} {ta tv : TE}
theorem inop_mon {op : Operator} {rd : V → V → Hp → VK → Prop} (h : InOp X op rd) : InOp X op (fun x y H Q => ∃ Q0 : VK, rd x y H Q0 ∧ ∀ z H1, Q0 z H1 → Q z H1) := fun pins s σ H x y u v Q I rx ry ⟨Q0, q, i⟩ =>
  thn (h pins s σ H x y u v Q0 I rx ry q) fun w s' ⟨z, H', J, r, q'⟩ => ⟨z, H', J, r, i z H' q'⟩
theorem ps_faC {op : Operator} {rd : V → V → Hp → VK → Prop} (c : Cls X.K C) (n : NoAttr X.K C f) (ha : PE X o ta) (hv : PE X value tv) (hop : InOp X op rd) : PS X (.AugAssign (.Attribute o f tpos) op value pos) (sFaC C ta tv rd f) :=
  ps_w (ps_fldaug (pe_mon ha) (pe_mon hv) (inop_mon hop)) fun D σ H h => ⟨_, h, fun x H1 h1 => by
    split at h1
    · obtain ⟨dx, fs, v, ea, l, q⟩ := h1
      exact ⟨_, C, dx, fs, v, rfl, ea, c, n, l, _, q, fun y H2 q2 => ⟨_, q2, fun z H3 q3 => by
        obtain ⟨dx', fs', e3, l3, q3⟩ := q3
        exact ⟨dx', fs', e3, l3, q3 _ wr⟩⟩⟩
    · exact h1.elim⟩
end
/-! ### dicts -/
section
variable {X : Cx} {o i e f : Expr} {td ty tx : TE} {pos apos cpos : Pos}
def tDG (td ty : TE) : TE := fun σ H Q => td σ H fun x H1 => match x with
  | .ref a => (∃ kvs, H1 a = some (.dK kvs)) ∧ ty σ H1 fun y H2 => ∃ kvs k v, H2 a = some (.dK kvs) ∧ y = kV k ∧ valV kvs k = some v ∧ Q v H2
  | _ => False
theorem pe_dg (hu : X.A.units + 1 < cLine) (ho : PE X o td) (hi : PE X i ty) (hs : NoSl i) : PE X (.Subscript o i pos) (tDG td ty) :=
  pe_w (pe_dget hu (pe_mon ho) (pe_mon hi) hs) fun σ H Q h => ⟨_, h, fun x H1 h1 => by
    split at h1
    · obtain ⟨⟨kvs, e⟩, q⟩ := h1
      exact ⟨_, q, fun y H2 q2 => by
        obtain ⟨kvs2, k, v, e2, rfl, hv, q2⟩ := q2
        exact ⟨_, v, rfl, hv ▸ DGet.k e2, q2⟩⟩
    · exact h1.elim⟩
def tDG2 (td ty tx : TE) : TE := fun σ H Q => td σ H fun x H1 => match x with
  | .ref a => (∃ kvs, H1 a = some (.dK kvs)) ∧ ty σ H1 fun y H2 => tx σ H2 fun z H3 => ∃ kvs k, H3 a = some (.dK kvs) ∧ y = kV k ∧ Q ((valV kvs k).getD z) H3
  | _ => False
theorem pe_dg2 (hu : X.A.units + 1 < cLine) (ho : PE X o td) (he : PE X e ty) (hf : PE X f tx) (m : M2 X o "get" apos e f cpos) : PE X (.Call (.Attribute o "get" apos) [e, f] [] cpos) (tDG2 td ty tx) :=
  pe_w (pe_dget2 hu (pe_mon ho) (pe_mon he) (pe_mon hf) m) fun σ H Q h => ⟨_, h, fun x H1 h1 => by
    split at h1
    · obtain ⟨⟨kvs, e⟩, q⟩ := h1
      exact ⟨_, rfl, .inl ⟨kvs, .inl e⟩, _, q, fun y H2 q2 => ⟨_, q2, fun z H3 q3 => by
        obtain ⟨kvs2, k, e3, rfl, q3⟩ := q3
        exact ⟨_, DGet.k e3, q3⟩⟩⟩
    · exact h1.elim⟩
def zInD (neg : Bool) : R2 := fun x y H Q => match y with
  | .ref a => ∃ kvs k, H a = some (.dK kvs) ∧ x = kV k ∧ Q (.bl (neg ^^ (valV kvs k).isSome)) H
  | _ => False
theorem o_inZ (hu : X.A.units + 1 < cLine) : OpR X (compareOp .In) (zInD false) := by
  intro pins s σ H x y v u Q I rx ry h
  unfold zInD at h
  split at h
  · obtain ⟨kvs, k, e, rfl, q⟩ := h
    cases ry
    exact d_in hu I (DGet.k e) rx fun s' J => ⟨.bl _, H, J, rfl, by simpa using q⟩
  · exact h.elim
theorem o_ninZ (hu : X.A.units + 1 < cLine) : OpR X (compareOp .NotIn) (zInD true) := by
  intro pins s σ H x y v u Q I rx ry h
  unfold zInD at h
  split at h
  · obtain ⟨kvs, k, e, rfl, q⟩ := h
    cases ry
    exact d_notIn hu I (DGet.k e) rx fun s' J => ⟨.bl _, H, J, rfl, by simpa using q⟩
  · exact h.elim
def zListD : List V → Hp → VK → Prop := fun vs H Q => match vs with
  | [.ref a] => ∃ kvs, H a = some (.dK kvs) ∧ ∀ p H2, Nw H p (.lst (kvs.map fun kv => kV kv.1)) H2 → Q (.ref p) H2
  | _ => False
theorem c_listD (hc : X.calm = true) : CallR X (.type "list") zListD := callr_w (call_listD hc) fun vs H Q h => by
  unfold zListD at h
  split at h
  · obtain ⟨kvs, e, q⟩ := h
    exact ⟨_, kvs, rfl, .inl e, fun p hp => q p _ (nw hp)⟩
  · exact h.elim
def zSortS (K : PySem.W.Frag) : List V → Hp → VK → Prop := fun vs H Q => match vs with
  | [.ref a] => ∃ xs : List Str, SqL K H a (xs.map V.str) ∧ xs.length < 64 ∧ ∀ (ys : List Str) (p : Addr) (H2 : Hp), ys.Perm xs → sortedS ys = true → Nw H p (.lst (ys.map V.str)) H2 → Q (.ref p) H2
  | _ => False
theorem c_sortS : CallR X (.builtin "sorted") (zSortS X.K) := callr_w cr_sortedS fun vs H Q h => by
  unfold zSortS at h
  split at h
  · obtain ⟨xs, e, l, q⟩ := h
    exact ⟨_, xs, rfl, e, l, fun ys p a b hp => q ys p _ a b (nw hp)⟩
  · exact h.elim
theorem k_sortS (K : PySem.W.Frag) (hK : X.K = K := by rfl) : CallR X (.builtin "sorted") (zSortS K) := hK ▸ c_sortS
def tRv (K : PySem.W.Frag) (te : TE) : TE := fun σ H Q => te σ H fun x H1 => match x with
  | .ref a => ∃ xs, SqL K H1 a xs ∧ ∀ p H2, Nw H1 p (.lst xs.reverse) H2 → Q (.ref p) H2
  | _ => False
theorem pe_rv {k : Nat} {p1 p2 p3 : Pos} (K : PySem.W.Frag) (he : PE X e td) (hK : X.K = K := by rfl) : PE X (.Subscript e (.Slice none none (some (.UnaryOp .USub (.Constant (.int 1) k p1) p2)) p3) pos) (tRv K td) :=
  hK ▸ pe_w (pe_revL (pe_mon he)) fun σ H Q h => ⟨_, h, fun x H1 h1 => by
    split at h1
    · obtain ⟨xs, e, q⟩ := h1
      exact ⟨_, xs, rfl, e, fun p hp => q p _ (nw hp)⟩
    · exact h1.elim⟩
end
/-- an __init__ of self alone -/
theorem ini1 {P : Program} {w : World} {K : PySem.W.Frag} {mg : Str → Option Value} {base : Heap} {q : Str} {st : Stmt} {f : Addr} {fd : FuncData} {a : Str} {N : List Str} {k : Nat} {p : V → Hp → VK → XK → Prop} (F : Fun K "__init__" q st f fd) (S : FnScope N [a] (defScope st))
    (body : ∀ (cdv : Value) (A : Around) (outer : List Env) (s : Shared) (H : Hp) (u : V) (Q : VK) (E : XK), Room k (A.deeper (envOfC q (defScope st) s.heap.objs.size f cdv)) → p u H Q E →
      ∃ t, PSs (cxOf CX0 P w K mg base N q (defScope st) f cdv A outer s H E).nox (defBody st) t ∧ t { nx := fun _ H' => Q .non H', rt := Q } (start N [u]) H) : FnOk P w K mg base CX0 (k + 1) f fd [a] (sp1 p) := by
  refine F.ok S len1 ?_
  intro cdv A outer s H vs Q E hr h
  obtain ⟨u, rfl, h⟩ := sp1_of h
  exact body cdv A outer s H u Q E hr h

/-! ### a < b < c as a test, five parameters -/
section
variable {X : Cx} {ta tb tc : TE} {a b c : Expr} {pos : Pos}
theorem pt_chT {op op' : CmpOp} {r r' : R2} (ho : OpR X (compareOp op) r) (ho' : OpR X (compareOp op') r') (ha : PE X a ta) (hb : PE X b tb) (hc : PE X c tc) (hm : lastMarks [op, op'] [b, c] = false := by with_unfolding_all rfl) :
    PT X (.Compare a [op, op'] [b, c] pos) (tBz (tChZ r r' ta tb tc)) :=
  pt_w (pt_chain (opr_mon ho) (opr_mon ho') (pe_mon ha) (pe_mon hb) (pe_mon hc) hm) fun σ H Q h => ⟨_, h, fun x H1 h1 => ⟨_, h1, fun y H2 h2 => ⟨_, h2, fun z H3 h3 => by
    obtain ⟨k, e, h4⟩ := zB_of h3
    refine ⟨k, e, ?_⟩
    cases k with
    | false => exact zB_of h4
    | true => exact ⟨_, h4, fun w' H4 h5 => ⟨_, h5, fun z' H5 h6 => zB_of h6⟩⟩⟩⟩⟩
end
def sp5 (p : V → V → V → V → V → Hp → VK → XK → Prop) : Sp := fun vs H Q E => match vs with
  | [a, b, c, d, e] => p a b c d e H Q E
  | _ => False
theorem sp5_of {p : V → V → V → V → V → Hp → VK → XK → Prop} {vs : List V} {H : Hp} {Q : VK} {E : XK} (h : sp5 p vs H Q E) : ∃ a b c d e, vs = [a, b, c, d, e] ∧ p a b c d e H Q E := by
  unfold sp5 at h
  split at h
  · exact ⟨_, _, _, _, _, rfl, h⟩
  · exact h.elim
section
variable {P : Program} {w : World} {K : PySem.W.Frag} {mg : Str → Option Value} {base : Heap}
theorem ct5 {x : Str} {st : Stmt} {a b c d e : Str} {N : List Str} {k : Nat} {p : V → V → V → V → V → Hp → VK → XK → Prop} (D : Df K mg x st [a, b, c, d, e]) (S : FnScope N [a, b, c, d, e] (defScope st))
    (body : ∀ (f : Addr) (cdv : Value) (A : Around) (outer : List Env) (s : Shared) (H : Hp) (u v y z q : V) (Q : VK) (E : XK), Room k (A.deeper (envOfC x (defScope st) s.heap.objs.size f cdv)) → p u v y z q H Q E →
      ∃ t, PSs (cxOf CX0 P w K mg base N x (defScope st) f cdv A outer s H E).nox (defBody st) t ∧ t { nx := fun _ H' => Q .non H', rt := Q } (start N [u, v, y, z, q]) H) : Ct P w K mg base CX0 (k + 1) x [a, b, c, d, e] (sp5 p) := by
  obtain ⟨f, fd, F, hm, hb⟩ := D.ex
  refine ⟨f, fd, hm, F.kp, hb, F.ok S (fun vs H Q E h => ?_) (fun cdv A outer s H vs Q E hr h => ?_), fun_at F⟩
  · obtain ⟨u, v, y, z, q, rfl, _⟩ := sp5_of h
    rfl
  · obtain ⟨u, v, y, z, q, rfl, h⟩ := sp5_of h
    exact body f cdv A outer s H u v y z q Q E hr h
end
end Z

/-! C7: unpacking a list, enumerate of a list, != of two dicts, startswith. -/
namespace Z
open PySem PySem.Spec PyProof.Rows L2

section
variable {X : Cx} {pos : Pos}
def gLz (K : PySem.W.Frag) (n : Nat) (t : TGs) : TG := fun v σ H Q => match v with
  | .ref a => ∃ xs, SqL K H a xs ∧ xs.length = n ∧ t xs σ H Q
  | _ => False
theorem pg_lzK {es : List Expr} {k : Nat} {t : TGs} {n : Nat} (K : PySem.W.Frag) (hc : X.calm = true) (h : PGs X es t) (hK : X.K = K := by rfl) (hn : (assignEach es X.env).length = n := by rfl) (hst : (assignEach es X.env).findIdx? (·.1) = none := by rfl) :
    PG X (.Tuple es k pos) (gLz K n t) :=
  hK ▸ pg_w (pg_lst hc h hn hst) fun v σ H Q h => by
    unfold gLz at h
    split at h
    · obtain ⟨xs, h1, h2, q⟩ := h
      exact ⟨_, xs, rfl, h1, h2, q⟩
    · exact h.elim
end
/-- enumerate(list) -/
def iEnL (K : PySem.W.Frag) (ta : TA) : TI := fun σ H R => ta σ H fun vs H1 => match vs with
  | [.ref a] => (∃ xs, SqL K H1 a xs) ∧ R (Ite K a) H1
  | _ => False
theorem pi_enL {X : Cx} (K : PySem.W.Frag) {e : Expr} {ta : TA} {p pos tpos : Pos} {elts : List Expr} {kk : Nat} (hg : Gl X "enumerate") (hm : X.mg "enumerate" = none) (ha : PA X [e] ta) (hK : X.K = K := by rfl) (hs : starEach [e] X.env = [(false, eval e X.env)] := by rfl) :
    PI X (.Tuple elts kk tpos) (.Call (.Name "enumerate" p) [e] [] pos) (iEnL K ta) :=
  hK ▸ pi_w (pi_enum hg hm (pa_mon ha) hs) fun σ H R h => ⟨_, h, fun vs H1 h1 => by
    split at h1
    · obtain ⟨⟨xs, h2⟩, q⟩ := h1
      exact ⟨_, xs, rfl, h2, q⟩
    · exact h1.elim⟩
/-- for over a list with its places -/
theorem for_eL {K : PySem.W.Frag} {a : Addr} {items : List V} {g : TG} {tb : TS} {D : Ends} {σ : L2.St} {H : Hp} (Pv : Nat → L2.St → Hp → Prop) (h0 : Pv 0 σ H) (hS : ∀ i σ H, Pv i σ H → SqL K H a items)
    (hs : ∀ i x σ H T H2, items[i]? = some x → Pv i σ H → Nw H T (.tup [.int (i : Nat), x]) H2 → g (.ref T) σ H2 fun σ2 H3 => tb { D with nx := Pv (i + 1), ct := Pv (i + 1), bk := D.nx } σ2 H3) (hd : ∀ σ H, Pv items.length σ H → D.nx σ H) :
    ∃ W : Nat → Nat → L2.St → Hp → Prop, (∃ m, W 0 m σ H) ∧ ∀ i m σ H, W i m σ H →
      ((Ite K a).stop i H ∧ D.nx σ H) ∨ ((Ite K a).go i H ∧ ∃ N : L2.St → Hp → Prop, (∀ σ' H', N σ' H' → ∃ m', m' < m ∧ W (i + 1) m' σ' H') ∧ ∀ x H', (Ite K a).yld i H x H' → g x σ H' fun σ2 H2 => tb { D with nx := N, ct := N, bk := D.nx } σ2 H2) := by
  refine ⟨fun i m σ H => m = items.length - i ∧ i ≤ items.length ∧ Pv i σ H, ⟨_, rfl, Nat.zero_le _, h0⟩, ?_⟩
  rintro i m σ H ⟨rfl, hi, p⟩
  have s := hS i σ H p
  rcases Nat.lt_or_ge i items.length with hlt | hge
  · refine .inr ⟨⟨items, items[i], s, by simp [hlt]⟩, Pv (i + 1), fun σ' H' p' => ⟨items.length - (i + 1), by omega, rfl, hlt, p'⟩, fun x H' y => ?_⟩
    obtain ⟨T, x, rfl, hT, rfl, hx⟩ := y
    exact hs i x σ _ T _ (hx _ s) p (nw hT)
  · have e : i = items.length := Nat.le_antisymm hi hge
    subst e
    exact .inl ⟨⟨items, s, Nat.le_refl _⟩, hd σ H p⟩
/-- startswith -/
def zSw : Str → List V → Hp → VK → Prop := fun a xs H Q => match xs with
  | [.str b] => Q (.bl (Txt.startswith a b)) H
  | _ => False
theorem m_startswith {X : Cx} : MtR X "str.startswith" (ofS zSw) := mt_w mt_startswith fun x vs H Q ⟨a, e, h⟩ => by
  unfold zSw at h
  split at h
  · exact ⟨a, _, e, rfl, h⟩
  · exact h.elim
/-! ### d != e of two dicts that are equal -/
open PySem.W in
theorem nePairs {prog : Program} {w : World} {κ : Type} [DecidableEq κ] {knd : KeyKind prog w κ} {A : Around} {E : Value → Shared → Prop} {s : Shared} {a b : Addr} {us ws : List (κ × Value)} {r : Bool} {Q : Value → Shared → Prop} (m1 : (a == sysModules) = false) (m2 : (b == sysModules) = false)
    (d1 : s.heap.DictOf knd a us) (d2 : s.heap.DictOf knd b ws) (room : A.units < cLine) (all : us.length = ws.length → KeqHitsP prog w A.in1 s ws us r) (h : Q (.bool (!(us.length == ws.length && r))) s) : wpAny (model prog w) A (compareOp .NotEq (.ref a) (.ref b)) Q E s := by
  have t1 := d1.typeIs
  have t2 := d2.typeIs
  refine wpAny_richCompare_same_room (op := .NotEq) t1 t2 PySem.F.slot_dict_ne (wpAny_call_entry PySem.F.slot_dict_ne t1 PySem.F.entry_dict_ne ?_ (PySem.F.args_dict_ne_2 _ _)) room
  show wpAny _ _ (Builtin.Dict.dictSlotArgs "__ne__" ⟨[Value.ref a, Value.ref b], []⟩ >>= _) _ _ s
  apply wpAny_bind
  unfold Builtin.Dict.dictSlotArgs
  apply wpAny_bind
  refine wpAny_notOrdered_dict t1 ?_
  show wpAny _ _ (pure ((Value.ref a : Value), (Value.ref b : Value))) _ _ s
  apply wpAny_pure
  refine wpAny_bind (wpAny_isInstance (T := "dict") t2 PySem.F.sub_dict_dict ?_)
  simp only [Bool.not_true, Bool.false_eq_true, if_false]
  apply wpAny_bind
  apply wpAny_pure
  apply wpAny_bind
  apply wpAny_pure
  refine wpAny_bind (samePairsP m1 m2 d1 d2 all ?_)
  refine wpAny_pure ⟨_, rfl, ?_, ?_⟩
  · intro z
    cases z
  · simpa using h
def zNeD (K : PySem.W.Frag) : R2 := fun x y H Q => match x, y with
  | .ref a, .ref b => ∃ ks ls, H a = some (.dK ks) ∧ H b = some (.dK ls) ∧ ks.length = ls.length ∧ (∀ p ∈ ks, ∃ u, valV ls p.1 = some u ∧ EqV K H 5 p.2 u) ∧ Q (.bl false) H
  | _, _ => False
theorem o_neDD {X : Cx} (hu : X.A.units + 64 < cLine) : OpR X (compareOp .NotEq) (zNeD X.K) := by
  intro pins s σ H x y v u Q I rx ry h
  unfold zNeD at h
  split at h
  · obtain ⟨ks, ls, ha, hb, hl, hp, q⟩ := h
    cases rx
    cases ry
    obtain ⟨_, ya, va, ra, da⟩ := I.hok _ _ ha
    obtain ⟨_, yb, vb, rb, db⟩ := I.hok _ _ hb
    have e : va.length = vb.length := by
      rw [← ra.length, ← rb.length]
      exact hl
    refine nePairs (knd := mixKind X.prog X.w) (r := true) ya yb da db (by omega) (fun _ => hits_run (eqV_run I 5 X.A.in1 (by show X.A.units + 1 + 5 < cLine; omega)) rb ra hp) ⟨.bl false, H, I, ?_, q⟩
    show Value.bool _ = Value.bool false
    rw [e]
    simp
  · exact h.elim
theorem k_neDD {X : Cx} (K : PySem.W.Frag) (hu : X.A.units + 64 < cLine) (hK : X.K = K := by rfl) : OpR X (compareOp .NotEq) (zNeD K) := hK ▸ o_neDD hu
section
variable {P : Program} {w : World} {K : PySem.W.Frag} {mg : Str → Option Value} {base : Heap}
theorem cg5 {x : Str} {st : Stmt} {a b c d e : Str} {N : List Str} {k : Nat} {p : V → V → V → V → V → Hp → VK → XK → Prop} (D : Df K mg x st [a, b, c, d, e]) (S : FnScope N [a, b, c, d, e] (defScope st))
    (body : ∀ (f : Addr) (cdv : Value) (A : Around) (outer : List Env) (s : Shared) (H : Hp) (u v v3 v4 v5 : V) (Q : VK) (E : XK), RoomG k (A.deeper (envOfC x (defScope st) s.heap.objs.size f cdv)) → p u v v3 v4 v5 H Q E →
      ∃ t, PSs (cxOf CX0 P w K mg base N x (defScope st) f cdv A outer s H E).nox (defBody st) t ∧ t { nx := fun _ H' => Q .non H', rt := Q } (start N [u, v, v3, v4, v5]) H) : Cg P w K mg base CX0 (k + 1) x [a, b, c, d, e] (sp5 p) := by
  obtain ⟨f, fd, F, hm, hb⟩ := D.ex
  refine ⟨f, fd, hm, F.kp, hb, fng F S (fun vs H Q E h => ?_) (fun cdv A outer s H vs Q E hr h => ?_), fun_at F⟩
  · obtain ⟨u, v, v3, v4, v5, rfl, _⟩ := sp5_of h
    rfl
  · obtain ⟨u, v, v3, v4, v5, rfl, h⟩ := sp5_of h
    exact body f cdv A outer s H u v v3 v4 v5 Q E hr h
end
end Z

/-! P8: raise C() of a class with nothing of its own; == of dicts; == and != of own objects; a list in texts. -/
namespace PySem.W
open PySem PySem.Spec PySem.Calls PyProof.Rows Builtin
section
variable {prog : Program} {w : World} {A : Around} {E : Value → Shared → Prop} {s : Shared} {K : Frag} {x C f : Addr} {ox : Obj} {od : Option Obj} {b tb : Value}
/-- a builtin that a class has under a special name -/
theorem ifBuiltin_K {M : Model} {name : Str} {id T : String} {args : List Value} {Q : Option Value → Shared → Prop} (X : K.In s.heap) (I : InstAt s.heap x ox C od) (hs : findIn K (.ref C) name = some (some (.builtin id))) (S : Slot T name id)
    (h : wpAny M A (call (.builtin id) (.ref x :: args)) (fun v => Q (some v)) E s) : wpAny M A (callSpecialIfBound? (.ref x) name args) Q E s := by
  simp only [callSpecialIfBound?, bindSpecialIfBound?]
  refine wpAny_holding (wpAny_bind (wpAny_bind (wpAny_bind (I.type.here ((looks_findIn X hs).here ?_)))))
  simp only [S.bind]
  refine wpAny_bind (wpAny_askSetting (wpAny_ite ?_))
  have fin : wpAny M A (call (.builtin id) ([.ref x] ++ args) >>= fun v => pure (some v)) Q E s := wpAny_bind (wpAny_mono h (fun v s' h' => wpAny_pure h') fun _ _ h' => h')
  split
  · exact wpAny_bind (wpAny_pure (wpAny_pure fin))
  · exact wpAny_tryCatch (wpAny_bind (wpAny_pure (wpAny_pure fin)))
theorem objNe_K {Q : Fin → Shared → Prop} (hu : A.units < cLine) (X : K.In s.heap) (I : InstAt s.heap x ox C od) (hs : findIn K (.ref C) "__eq__" = some (some (.ref f))) (hf : isFn K (.ref f) = true)
    (h : wpAny (model prog w) A (call (.ref f) [.ref x, b]) (fun v s' => ∃ k, v = .bool k ∧ Q (.done (.ret (.bool (!k)))) s') E s) : wpAny (model prog w) A (Builtin.«object.__ne__» ⟨[.ref x, b], []⟩) Q E s := by
  unfold Builtin.«object.__ne__»
  repeat (first
    | with_reducible refine wpAny_cRoomFor hu ?_
    | (refine wpAny_bind (m := callSpecialIfBound? (.ref x) (Str.ofString "__eq__") [b])
        (ifBound_K X I hs hf (wpAny_mono h (fun r s' hr => by
          obtain ⟨b, rfl, hq⟩ := hr
          repeat (first | exact hq | exact wpAny_pure hq | exact wpAny_truthy_bool hq | (refine wpAny_bind (m := truthy (.bool _)) (wpAny_truthy_bool ?_)) | wp_step)) fun _ _ e => e)))
    | wp_step)
theorem ne_own_K {Q : Value → Shared → Prop} (hu : A.units + 1 < cLine) (X : K.In s.heap) (I : InstAt s.heap x ox C od) (hb : Looks (model prog w) s.heap (typeOf b) tb) (hn : notFirst K C tb = true)
    (hne : findIn K (.ref C) "__ne__" = some (some (.builtin "object.__ne__"))) (hm : mroIn K C (.type "object") = some true) (hs : findIn K (.ref C) "__eq__" = some (some (.ref f))) (hf : isFn K (.ref f) = true)
    (h : wpAny (model prog w) A.in1 (call (.ref f) [.ref x, b]) (fun v s' => ∃ k, v = .bool k ∧ Q (.bool (!k)) s') E s) : wpAny (model prog w) A (richCompare .NotEq (.ref x) b) Q E s := by
  have one : wpAny (model prog w) A (tryCompare (.ref x) "__ne__" b) (fun r s' => ∃ k, r = some (.bool (!k)) ∧ Q (.bool (!k)) s') E s := by
    unfold tryCompare
    refine wpAny_bind (ifBuiltin_K X I hne PySem.F.slot_object_ne (wpAny_call (codeAny_call_builtin PySem.F.slot_object_ne.plain F.cmpEntry_ne ?_)))
    have inst : Looks (model prog w) s.heap (isInstance (.ref x) (.type "object")) true := I.type.andThen (looks_mroIn X hm)
    obtain ⟨hp, g, d, t, os⟩ := s
    refine @check_slot (model prog w) _ _ ⟨hp, g, d, t, os⟩ "object.__ne__" "object" "__ne__" (.ref x) [b] [] _ F.cmpKind_ne F.cmpSplit_ne inst (F.cmpArgs_ne _ _) ?_
    refine objNe_K (A := A.in1) hu X I hs hf (wpAny_mono h (fun v s' hv => ?_) fun _ _ e => e)
    obtain ⟨k, rfl, hq⟩ := hv
    first | exact ⟨k, rfl, wpAny_pure ⟨k, rfl, hq⟩⟩ | exact ⟨k, rfl, ⟨k, rfl, hq⟩⟩ | exact ⟨k, rfl, wpAny_pure (wpAny_pure ⟨k, rfl, hq⟩)⟩
  unfold richCompare
  simp only [oneThing_ref]
  refine wpAny_holding (wpAny_bind (wpAny_cRoomFor (by omega) ?_))
  rw [cmpInfo_NotEq]
  dsimp only
  refine wpAny_bind (I.type.here (wpAny_bind (hb.here ?_)))
  split
  · rename_i q
    have e : subIn K tb (.ref C) = some false := by
      rcases Bool.or_eq_true_iff.mp hn with e | e
      · rw [beq_iff_eq.mp e] at q; simp at q
      · exact beq_iff_eq.mp e
    refine wpAny_bind ((looks_subIn X e).here ?_)
    simp only [Bool.false_eq_true, if_false]
    refine wpAny_bind (wpAny_mono one (fun r s' z => ?_) fun _ _ e => e)
    obtain ⟨v, rfl, hq⟩ := z
    exact wpAny_pure hq
  · refine wpAny_bind (wpAny_pure ?_)
    simp only [Bool.false_eq_true, if_false]
    refine wpAny_bind (wpAny_mono one (fun r s' z => ?_) fun _ _ e => e)
    obtain ⟨v, rfl, hq⟩ := z
    exact wpAny_pure hq
end
end PySem.W
namespace Z
open PySem PySem.Spec PyProof.Rows L2
/-! ### raise C() -/
/-- an error's class with nothing of its own -/
structure Er0 (K : PySem.W.Frag) (mg : Str → Option Value) (x : Str) (C : Addr) : Prop where
  name : mg x = some (.ref C)
  q : PySem.W.excIn K C tailE "Exception.__new__" = true
  kC : PySem.W.keepIn K (.ref C) = true
  exC : PySem.W.subIn K (.ref C) (.type "BaseException") = some true
  tyC : PySem.W.typeIn K (.ref C) = some (.type "type")
theorem pmk_none {X : Cx} {x : Str} {C : Addr} {p pos : Pos} (R : Er0 X.K X.mg x C) (hg : Gl X x := by rfl) (hdb : (x == ("__debug__" : Str)) = false := by decide) : PMk X (.Call (.Name x p) [] [] pos) (fun _ H Q => Q (.ref C) none H) := by
  intro pins s σ H Q I h
  refine wpAny_Call_Name_kw (ld_glob I hg R.name ?_ hdb)
  refine PySem.W.callWith_K0 (first := []) I.kIn R.kC ?_
  obtain ⟨hp, g, d, t, os⟩ := s
  show wpAny _ _ (call (.ref C) []) _ _ _
  obtain ⟨bm, N, nm, qn, bs, hdct, sn, sub, ab, col, dd, k0, k1, k2, k3, k5, mN, hC, hN, hni, T⟩ := exc_obj I.kIn R.q
  refine wpAny_call_exc_subT PySem.F.excBase_Exception T hC hN hni (fun h' e hm => ?_) (by show 0 ≤ sizeLine; exact Nat.zero_le _)
  exact mk_of I hm (raises_own R.exC R.tyC) h (I.hok.gone hm.new)
def tRz0 (C : Addr) (W : WX) : TS := fun _ σ H => W (.ref C) none σ H
theorem ps_rz0 {X : Cx} {W : WX} {x : Str} {C : Addr} {p p2 pos : Pos} (hc : X.calm = true) (tk : Takes X W) (R : Er0 X.K X.mg x C) (hg : Gl X x := by rfl) (hdb : (x == ("__debug__" : Str)) = false := by decide) :
    PS X (.Raise (some (.Call (.Name x p) [] [] p2)) none pos) (tRz0 C W) := ps_raise hc tk (pmk_none R hg hdb)
/-- an error of the class x, with nothing in it, leaves -/
def Rz0 (K : PySem.W.Frag) (x : Str) (H : Hp) (E : XK) : Prop := ∀ C H2, clsAt K x C → Same H H2 → E (.ref C) none H2
/-! ### own == -/
section
variable {X : Cx} {C : Addr} {k : Nat} {sp : Sp}
/-- what stands to the right: a thing of a built-in kind, or one of the class -/
def RightV (K : PySem.W.Frag) (H : Hp) (C : Addr) (y : V) : Prop := (∃ t, KindV K H y t) ∨ ∃ b dx fs, y = .ref b ∧ H b = some (.ins C dx fs)
theorem right_looks {pins : List (Addr × Obj)} {σ : L2.St} {H : Hp} {s : Shared} {y : V} {u : Value} (I : Inv X pins σ H s) (r : RelV y u) (h : RightV X.K H C y) : ∃ t, PySem.W.Looks (model X.prog X.w) s.heap (typeOf u) t ∧ PySem.W.notFirst X.K C t = true := by
  rcases h with ⟨t, h⟩ | ⟨b, dx, fs, rfl, hb⟩
  · obtain ⟨h1, h2⟩ := h.tyx
    obtain ⟨P, kx, p, _⟩ := kit_of I r h1
    refine ⟨_, kx.ty _ _ I.kIn p, ?_⟩
    have nc : ∀ T ∈ ["NoneType", "bool", "int", "str", "list", "tuple", "dict"], PySem.W.subIn X.K (.type T) (.ref C) = some false := by
      intro T hT
      simp only [List.mem_cons, List.not_mem_nil, or_false] at hT
      rcases hT with rfl | rfl | rfl | rfl | rfl | rfl | rfl <;> rfl
    show (_ || PySem.W.subIn X.K (.type t) (.ref C) == some false) = true
    rw [nc t h2, Bool.or_eq_true]
    exact .inr rfl
  · cases r
    obtain ⟨mB, J, _⟩ := ins_get I.hok hb
    obtain ⟨od, J, _⟩ := J.look
    refine ⟨_, J.type, ?_⟩
    show (Value.ref C == Value.ref C || _) = true
    rw [beq_self_eq_true, Bool.true_or]
def zOwn (K : PySem.W.Frag) (C : Addr) (sp : Sp) (neg : Bool) : R2 := fun x y H Q => match x with
  | .ref a => (∃ dx fs, H a = some (.ins C dx fs)) ∧ RightV K H C y ∧ sp [.ref a, y] H (fun v H2 => ∃ b, v = .bl b ∧ Q (.bl (neg ^^ b)) H2) E0
  | _ => False
/-- what is said of the class whose == is its own -/
structure OwnC (K : PySem.W.Frag) (C f : Addr) : Prop where
  eq : PySem.W.findIn K (.ref C) "__eq__" = some (some (.ref f))
  fn : PySem.W.isFn K (.ref f) = true
  ne : PySem.W.findIn K (.ref C) "__ne__" = some (some (.builtin "object.__ne__"))
  ob : PySem.W.mroIn K C (.type "object") = some true
theorem own_run {pins : List (Addr × Obj)} {σ : L2.St} {H : Hp} {s : Shared} {A : Around} {vs : List V} {us : List Value} {f : Addr} {fd : FuncData} {ps : List Str} {Q : VK} (F : FnOk X.prog X.w X.K X.mg X.base CX0 k f fd ps sp) (hb : Binds X.K fd ps []) (hr : Room k A) (fr : A.frames = X.A.frames) (I : Inv X pins σ H s) (r : Vals vs us) (h : sp vs H Q E0) :
    wpAny (model X.prog X.w) A (call (.ref f) us) (fun v s' => EP X pins σ Q v s') X.xe s := by
  have e0 : Env0 X.prog X.w X.K X.mg X.base A X.stack s H := by
    have e := I.env0
    exact ⟨by rw [fr]; exact e.frames, e.mod, e.bs, e.bsz, e.funs, e.frf, e.hok, e.bare⟩
  have hl : us.length = ps.length := r.length.symm.trans (F.len _ _ _ _ h)
  refine wpAny_call (codeAny_mono (F.run A X.stack s H ⟨us, []⟩ us vs _ E0 hr e0 (by
    have := hb s us I.kIn (by simpa using hl)
    simpa using this) r h) fun rr s' hq => ?_)
  cases rr with
  | error e => exact (show False from hq).elim
  | ok fl =>
    cases fl with
    | ret w => exact I.after hq
    | next => exact False.elim hq
    | brk => exact False.elim hq
    | cont => exact False.elim hq
theorem o_ownEq {f : Addr} {fd : FuncData} {ps : List Str} (F : FnOk X.prog X.w X.K X.mg X.base CX0 k f fd ps sp) (hb : Binds X.K fd ps []) (O : OwnC X.K C f) (hr : Room k X.A) : OpR X (compareOp .Eq) (zOwn X.K C sp false) := by
  intro pins s σ H x y v u Q I rx ry h
  unfold zOwn at h
  split at h
  · rename_i a
    obtain ⟨⟨dx, fs, ha⟩, hR, h⟩ := h
    obtain ⟨t, lt, nf⟩ := right_looks I ry hR
    cases rx
    obtain ⟨mA, J, _⟩ := ins_get I.hok ha
    obtain ⟨od, J, _⟩ := J.look
    obtain ⟨m, hF⟩ := I.fr
    show wpAny (model X.prog X.w) X.A (richCompare .Eq _ _) _ _ _
    refine PySem.W.cmp_K (op := .Eq) hr.units0 hF I.ok.mod.kin J lt nf O.eq O.fn ?_
    refine thn (own_run (vs := [V.ref a, y]) (us := [Value.ref a, u]) F hb hr rfl I (.cons (show RelV (.ref a) (.ref a) from rfl) (.cons ry .nil)) h) fun w s' z => ?_
    obtain ⟨z, H', I', rz, b, rfl, q⟩ := z
    cases rz
    exact ⟨.bl b, H', I', rfl, by simpa using q⟩
  · exact h.elim
theorem o_ownNe {f : Addr} {fd : FuncData} {ps : List Str} (F : FnOk X.prog X.w X.K X.mg X.base CX0 k f fd ps sp) (hb : Binds X.K fd ps []) (O : OwnC X.K C f) (hr : Room (k + 1) X.A) : OpR X (compareOp .NotEq) (zOwn X.K C sp true) := by
  intro pins s σ H x y v u Q I rx ry h
  unfold zOwn at h
  split at h
  · rename_i a
    obtain ⟨⟨dx, fs, ha⟩, hR, h⟩ := h
    obtain ⟨t, lt, nf⟩ := right_looks I ry hR
    cases rx
    obtain ⟨mA, J, _⟩ := ins_get I.hok ha
    obtain ⟨od, J, _⟩ := J.look
    show wpAny (model X.prog X.w) X.A (richCompare .NotEq _ _) _ _ _
    refine PySem.W.ne_own_K (by have := hr.units; omega) I.kIn J lt nf O.ne O.ob O.eq O.fn ?_
    refine thn (own_run (vs := [V.ref a, y]) (us := [Value.ref a, u]) F hb hr.in1 rfl I (.cons (show RelV (.ref a) (.ref a) from rfl) (.cons ry .nil)) h) fun w s' z => ?_
    obtain ⟨z, H', I', rz, b, rfl, q⟩ := z
    cases rz
    exact ⟨b, rfl, .bl (!b), H', I', rfl, by simpa using q⟩
  · exact h.elim
end
end Z
namespace Z
open PySem PySem.Spec PyProof.Rows L2
/-! ### == of dicts -/
/-- whether two values are equal: flat ones, or lists as data -/
def EqB (K : PySem.W.Frag) (H : Hp) (v y : V) (e : Bool) : Prop := (flatV v = true ∧ flatV y = true ∧ e = eqV v y) ∨
  ∃ (a b : Addr) (d d' : PyData), v = .ref a ∧ y = .ref b ∧ Dp K H v d ∧ Dp K H y d' ∧ d.canLay0 = true ∧ d'.canLay0 = true ∧ d.depth ≤ 5 ∧ e = PyData.eqv d d' ∧ (a = b → d = d')
inductive HitsV (E : V → V → Bool → Prop) (ls : List (Key × V)) : List (Key × V) → Bool → Prop
  | nil : HitsV E ls [] true
  | miss {k : Key} {v : V} {r : List (Key × V)} : valV ls k = none → HitsV E ls ((k, v) :: r) false
  | hit {k : Key} {v y : V} {e b : Bool} {r : List (Key × V)} : valV ls k = some y → E v y e → HitsV E ls r b → HitsV E ls ((k, v) :: r) (e && b)
section
variable {X : Cx} {pins : List (Addr × Obj)} {σ : L2.St} {H : Hp} {s : Shared}
theorem eqB_run (I : Inv X pins σ H s) {A : Around} (hu : A.units + 10 < cLine) {x y : V} {v u : Value} {e : Bool} (h : EqB X.K H x y e) (rx : RelV x v) (ry : RelV y u) : SeqAt.EqP X.prog X.w A s v u e := by
  rcases h with ⟨f, g, rfl⟩ | ⟨a, b, d, d', rfl, rfl, hd, hd', c, c', dp, rfl, same⟩
  · exact (eqAt_V rx ry f g).eqP
  · obtain ⟨as, r1⟩ := Dp.reads I d _ v hd rx
    obtain ⟨bs, r2⟩ := Dp.reads I d' _ u hd' ry
    cases rx
    cases ry
    by_cases z : a = b
    · obtain rfl := same z
      subst z
      rw [SeqAt.eqv_refl d c]
      exact (SeqAt.EqAt.same _).eqP
    · refine SeqAt.eqP_refs z fun E Q q => ?_
      show wpAny _ _ (compareOp .Eq _ _) _ _ _
      exact SeqAt.compareEq_reads r1 r2 c c' (by have := Nat.min_le_left d.depth d'.depth; omega) q
theorem hitsV_run {P : Program} {w : World} {A : Around} {E : V → V → Bool → Prop} (ih : ∀ x y v u e, E x y e → RelV x v → RelV y u → SeqAt.EqP P w A s v u e) {ls : List (Key × V)} {vb : List (Key × Value)} (rb : KV ls vb) {ks : List (Key × V)} {va : List (Key × Value)}
    (ra : KV ks va) {r : Bool} : HitsV E ls ks r → PySem.W.KeqHitsP P w A s vb va r := by
  unfold KV at ra
  induction ra generalizing r with
  | nil =>
    intro h
    cases h
    exact .nil
  | @cons p q ps qs h t k =>
    intro hp
    obtain ⟨key, v⟩ := q
    obtain ⟨pk, pv⟩ := p
    obtain ⟨h1, h2⟩ := h
    have h1 : pk = key := h1
    subst h1
    cases hp with
    | miss hn =>
      have rr : RelO none (valueAt vb pk) := by rw [← hn]; exact rb.val pk
      refine .miss ?_
      cases e : valueAt vb pk with
      | none => rfl
      | some y =>
        rw [e] at rr
        exact rr.elim
    | @hit _ _ y0 _ _ _ hy he hr =>
      have rr : RelO (some y0) (valueAt vb pk) := by rw [← hy]; exact rb.val pk
      obtain ⟨y, hy', ry⟩ := rr.some_of
      exact .hit hy' (ih _ _ _ _ _ he h2 ry) (k hr)
end
def zEqDD (K : PySem.W.Frag) : R2 := fun x y H Q => match x, y with
  | .ref a, .ref b => ∃ ks ls r, H a = some (.dK ks) ∧ H b = some (.dK ls) ∧ (ks.length = ls.length → HitsV (EqB K H) ls ks r) ∧ Q (.bl (ks.length == ls.length && r)) H
  | _, _ => False
theorem o_eqDD {X : Cx} (hu : X.A.units + 64 < cLine) : OpR X (compareOp .Eq) (zEqDD X.K) := by
  intro pins s σ H x y v u Q I rx ry h
  unfold zEqDD at h
  split at h
  · obtain ⟨ks, ls, r, ha, hb, hp, q⟩ := h
    cases rx
    cases ry
    obtain ⟨_, ya, va, ra, da⟩ := I.hok _ _ ha
    obtain ⟨_, yb, vb, rb, db⟩ := I.hok _ _ hb
    have e1 := ra.length
    have e2 := rb.length
    show wpAny (model X.prog X.w) X.A (richCompare .Eq _ _) _ _ _
    refine PySem.W.rcP_dicts (knd := mixKind X.prog X.w) (r := r) ya yb da db (by omega) (fun e => hitsV_run (fun _ _ _ _ _ h r1 r2 => eqB_run I (by show X.A.units + 1 + 10 < cLine; omega) h r1 r2) rb ra (hp (by omega))) _ _ ⟨.bl _, H, I, rfl, ?_⟩
    rw [← e1, ← e2]
    exact q
  · exact h.elim
theorem k_eqDD {X : Cx} (K : PySem.W.Frag) (hu : X.A.units + 64 < cLine) (hK : X.K = K := by rfl) : OpR X (compareOp .Eq) (zEqDD K) := hK ▸ o_eqDD hu
/-! ### in: a list among texts -/
def zInS (K : PySem.W.Frag) (neg : Bool) : R2 := fun x y H Q => match y with
  | .ref p => ∃ xs, SqL K H p xs ∧ ((flatV x = true ∧ xs.all flatV = true ∧ Q (.bl (neg ^^ inV x xs)) H) ∨ ∃ a ys, x = .ref a ∧ SqL K H a ys ∧ (∀ z ∈ xs, ∃ t, z = .str t) ∧ Q (.bl neg) H)
  | _ => False
theorem o_inS {X : Cx} (hu : X.A.units + 64 < cLine) : OpR X (compareOp .In) (zInS X.K false) := by
  intro pins s σ H x y v u Q I rx ry h
  unfold zInS at h
  split at h
  · obtain ⟨xs, hp, ⟨h2, h3, q⟩ | ⟨a, ys, rfl, ha, hs, q⟩⟩ := h
    · exact op_in_seq pins s σ H _ _ v u Q I rx ry ⟨_, xs, rfl, .inl hp, h2, h3, by simpa using q⟩
    · cases ry
      cases rx
      obtain ⟨its, r, pl, _⟩ := I.list hp
      obtain ⟨its2, _, pl2, _⟩ := I.list ha
      have all : ∀ {xs : List V} {its : List Value}, Vals xs its → (∀ z ∈ xs, ∃ t, z = .str t) → ∀ w ∈ its, ∃ b u, w = .str b u := by
        intro xs its r
        induction r with
        | nil => intro _ w hw; cases hw
        | cons h _ ih =>
          intro hs w hw
          rcases List.mem_cons.mp hw with rfl | hw
          · obtain ⟨t, rfl⟩ := hs _ List.mem_cons_self
            obtain ⟨tk, rfl⟩ := h
            exact ⟨_, _, rfl⟩
          · exact ih (fun z hz => hs z (List.mem_cons_of_mem _ hz)) w hw
      refine SeqAt.in_listAt (fun _ => false) pl.isList (fun w hw => ?_) ⟨.bl _, H, I, rfl, ?_⟩
      · obtain ⟨b, u, rfl⟩ := all r hs w (by simpa using hw)
        exact SeqAt.EqAt.str_list b u pl2.isList (by show X.A.units + 1 < cLine; omega)
      · rw [show its.toArray.any (fun _ => false) = false by simp]
        exact q
  · exact h.elim
theorem o_ninS {X : Cx} (hu : X.A.units + 64 < cLine) : OpR X (compareOp .NotIn) (zInS X.K true) := by
  intro pins s σ H x y v u Q I rx ry h
  unfold zInS at h
  split at h
  · obtain ⟨xs, hp, ⟨h2, h3, q⟩ | ⟨a, ys, rfl, ha, hs, q⟩⟩ := h
    · exact op_notIn_seq pins s σ H _ _ v u Q I rx ry ⟨_, xs, rfl, .inl hp, h2, h3, by simpa using q⟩
    · cases ry
      cases rx
      obtain ⟨its, r, pl, _⟩ := I.list hp
      obtain ⟨its2, _, pl2, _⟩ := I.list ha
      have all : ∀ {xs : List V} {its : List Value}, Vals xs its → (∀ z ∈ xs, ∃ t, z = .str t) → ∀ w ∈ its, ∃ b u, w = .str b u := by
        intro xs its r
        induction r with
        | nil => intro _ w hw; cases hw
        | cons h _ ih =>
          intro hs w hw
          rcases List.mem_cons.mp hw with rfl | hw
          · obtain ⟨t, rfl⟩ := hs _ List.mem_cons_self
            obtain ⟨tk, rfl⟩ := h
            exact ⟨_, _, rfl⟩
          · exact ih (fun z hz => hs z (List.mem_cons_of_mem _ hz)) w hw
      refine SeqAt.notIn_listAt (fun _ => false) pl.isList (fun w hw => ?_) ⟨.bl _, H, I, rfl, ?_⟩
      · obtain ⟨b, u, rfl⟩ := all r hs w (by simpa using hw)
        exact SeqAt.EqAt.str_list b u pl2.isList (by show X.A.units + 1 < cLine; omega)
      · rw [show its.toArray.any (fun _ => false) = false by simp]
        exact q
  · exact h.elim
theorem k_inS {X : Cx} (K : PySem.W.Frag) (hu : X.A.units + 64 < cLine) (hK : X.K = K := by rfl) : OpR X (compareOp .In) (zInS K false) := hK ▸ o_inS hu
theorem k_ninS {X : Cx} (K : PySem.W.Frag) (hu : X.A.units + 64 < cLine) (hK : X.K = K := by rfl) : OpR X (compareOp .NotIn) (zInS K true) := hK ▸ o_ninS hu
end Z
namespace Z
open PySem PySem.Spec PyProof.Rows L2
/-! ### for k in d -/
def iKz (td : TE) : TI := fun σ H R => td σ H fun x H1 => match x with
  | .ref d => ∃ o kvs, H1 d = some (.frz o (.dK kvs)) ∧ R (Itk d o kvs) H1
  | _ => False
theorem pi_kz {X : Cx} {tg e : Expr} {td : TE} (he : PE X e td) : PI X tg e (iKz td) := pi_w (pi_keys (pe_mon he)) fun σ H R h => ⟨_, h, fun x H1 h1 => by
  split at h1
  · obtain ⟨o, kvs, e, q⟩ := h1
    exact ⟨_, o, rfl, .inl ⟨kvs, e, q⟩⟩
  · exact h1.elim⟩
/-- the keys of a locked dict, each once -/
theorem for_k {d : Addr} {o : Obj} {kvs : List (Key × V)} {g : TG} {tb : TS} {D : Ends} {σ : L2.St} {H : Hp} (Pv : Nat → L2.St → Hp → Prop) (h0 : Pv 0 σ H) (hS : ∀ i σ H, Pv i σ H → H d = some (.frz o (.dK kvs)))
    (hs : ∀ i k v σ H, kvs[i]? = some (k, v) → Pv i σ H → g (kV k) σ H fun σ2 H3 => tb { D with nx := Pv (i + 1), ct := Pv (i + 1), bk := D.nx } σ2 H3) (hd : ∀ σ H, Pv kvs.length σ H → D.nx σ H) :
    ∃ W : Nat → Nat → L2.St → Hp → Prop, (∃ m, W 0 m σ H) ∧ ∀ i m σ H, W i m σ H →
      ((Itk d o kvs).stop i H ∧ D.nx σ H) ∨ ((Itk d o kvs).go i H ∧ ∃ N : L2.St → Hp → Prop, (∀ σ' H', N σ' H' → ∃ m', m' < m ∧ W (i + 1) m' σ' H') ∧ ∀ x H', (Itk d o kvs).yld i H x H' → g x σ H' fun σ2 H2 => tb { D with nx := N, ct := N, bk := D.nx } σ2 H2) := by
  refine ⟨fun i m σ H => m = kvs.length - i ∧ i ≤ kvs.length ∧ Pv i σ H, ⟨_, rfl, Nat.zero_le _, h0⟩, ?_⟩
  rintro i m σ H ⟨rfl, hi, p⟩
  have s := hS i σ H p
  rcases Nat.lt_or_ge i kvs.length with hlt | hge
  · refine .inr ⟨⟨s, hlt⟩, Pv (i + 1), fun σ' H' p' => ⟨kvs.length - (i + 1), by omega, rfl, hlt, p'⟩, fun x H' y => ?_⟩
    obtain ⟨rfl, k, v, hk, rfl⟩ := y
    exact hs i k v σ _ hk p
  · have e : i = kvs.length := Nat.le_antisymm hi hge
    subst e
    exact .inl ⟨⟨s, Nat.le_refl _⟩, hd σ H p⟩
/-- d[k] of a dict that may be locked -/
def tDGR (td ty : TE) : TE := fun σ H Q => td σ H fun x H1 => match x with
  | .ref a => (∃ kvs, Rd H1 a (.dK kvs)) ∧ ty σ H1 fun y H2 => ∃ kvs k v, Rd H2 a (.dK kvs) ∧ y = kV k ∧ valV kvs k = some v ∧ Q v H2
  | _ => False
theorem pe_dgR {X : Cx} {o i : Expr} {td ty : TE} {pos : Pos} (hu : X.A.units + 1 < cLine) (ho : PE X o td) (hi : PE X i ty) (hs : NoSl i) : PE X (.Subscript o i pos) (tDGR td ty) :=
  pe_w (pe_dget hu (pe_mon ho) (pe_mon hi) hs) fun σ H Q h => ⟨_, h, fun x H1 h1 => by
    split at h1
    · obtain ⟨⟨kvs, e⟩, q⟩ := h1
      exact ⟨_, q, fun y H2 q2 => by
        obtain ⟨kvs2, k, v, e2, rfl, hv, q2⟩ := q2
        exact ⟨_, v, rfl, .inl ⟨kvs2, k, e2, rfl, hv.symm⟩, q2⟩⟩
    · exact h1.elim⟩
/-- reversed(a list) -/
def iRz (K : PySem.W.Frag) (td : TE) : TI := fun σ H R => td σ H fun x H1 => match x with
  | .ref a => ∃ xs, SqL K H1 a xs ∧ R (Itv K a xs.length) H1
  | _ => False
theorem pi_revz {X : Cx} {tg e : Expr} {te : TE} {p pos : Pos} (K : PySem.W.Frag) (hg : Gl X "reversed") (hm : X.mg "reversed" = none) (he : PE X e te) (hK : X.K = K := by rfl) (hs : starEach [e] X.env = (false, eval e X.env) :: starEach [] X.env := by rfl) : PI X tg (.Call (.Name "reversed" p) [e] [] pos) (iRz K te) :=
  hK ▸ pi_w (RT.pi_revA hg hm (pe_mon he) hs) fun σ H R h => ⟨_, h, fun x H1 h1 => by
    split at h1
    · obtain ⟨xs, e, q⟩ := h1
      exact ⟨_, xs, rfl, .inl ⟨e, q⟩⟩
    · exact h1.elim⟩
/-! ### {k: v, ..} -/
def tDisz (trs : List (TE × TE)) : TE := fun σ H Q => ∀ p H1, Nw H p (.dK []) H1 → tPairs trs σ H1 fun ps H2 => H2 p = some (.dK []) ∧ ∃ kvs : List (Key × V), ps = kvs.map (fun kv => (kV kv.1, kv.2)) ∧ kvs.length ≤ 15 ∧ ∀ H3, Wr H2 p (.dK (mergeK [] kvs)) H3 → Q (.ref p) H3
theorem tPairs_mono : ∀ (trs : List (TE × TE)), (∀ t ∈ trs, (∃ a, t.1 = mon a) ∧ ∃ b, t.2 = mon b) → ∀ {σ : L2.St} {H : Hp} {Q R : List (V × V) → Hp → Prop}, (∀ ps H, Q ps H → R ps H) → tPairs trs σ H Q → tPairs trs σ H R
  | [], _, _, _, _, _, i, h => i _ _ h
  | (tk, tv) :: r, hm, σ, H, Q, R, i, h => by
    obtain ⟨⟨a, ea⟩, b, eb⟩ := hm _ List.mem_cons_self
    have ea : tk = mon a := ea
    have eb : tv = mon b := eb
    subst ea eb
    obtain ⟨Q0, q0, i0⟩ := h
    refine ⟨Q0, q0, fun x H1 h1 => ?_⟩
    obtain ⟨Q1, q1, i1⟩ := i0 x H1 h1
    refine ⟨Q1, q1, fun y H2 h2 => ?_⟩
    exact tPairs_mono r (fun t ht => hm t (List.mem_cons_of_mem _ ht)) (fun ps H hq => i _ _ hq) (i1 y H2 h2)
theorem pe_disz {X : Cx} {pos : Pos} {keys : List (Option Expr)} {values : List Expr} {trs : List (TE × TE)} (h : PPs X pos keys values trs) (hall : keys.all (·.isSome) = true) (hl : keys.length = values.length) (h0 : keys ≠ [])
    (h15 : keys.length ≤ 15) : PE X (.Dict keys values pos) (tDisz trs) := by
  refine ⟨fun pins s σ H Q I q => ?_⟩
  have hn := I.hok.fresh (Nat.le_refl s.heap.objs.size)
  have I1 := I.laid (a := s.heap.objs.size) (o := .dK []) (h' := s.heap.push { cls := .type "dict", data := .dict #[] }) (t' := s.toks) (fun _ _ q => Heap.get?_push_of_some _ q) (Nat.le_refl _) (dk_empty s.heap I.big)
  refine wpAny_Dict_walk (knd := mixKind X.prog X.w) hall hl h0 h15 (thn (h.run pins _ σ _ _ I1 (q _ _ (nw hn))) fun ws s2 ⟨ps, H2, I2, rel, e, kvs, ep, lk, q2⟩ => ?_)
  subst ep
  obtain ⟨rs, c, rk⟩ := carries_of (P := X.prog) (w := X.w) rel
  obtain ⟨z, hd, vs0, r0, dd⟩ := dk_of I2.hok e
  cases r0
  refine ⟨rs, c, dd, fun h' dd' hs => ⟨.ref s.heap.objs.size, _, ?_, rfl, q2 _ wr⟩⟩
  have hz : (mergeK [] kvs).length ≤ sizeLine := by
    have h1 := length_mergeK kvs []
    rw [List.length_nil] at h1
    rw [sizeLine_eq]; omega
  have he : ∃ q, h'.get? s.heap.objs.size = some q := let ⟨q, _, _, hq, _⟩ := dd'; ⟨q, hq⟩
  exact d_write I2 (by rw [e]; exact True.intro) hs he (dk_new hz hd (rk.merge .nil) dd')
/-! ### isinstance(x, C) of an own class -/
structure IsC (K : PySem.W.Frag) (C : Addr) : Prop where
  cl : Cls K C
  ha : PySem.W.findIn K (.ref C) "__class__" = some (some (.builtin "object.__class__"))
  hn : PySem.W.specialIn K (.builtin "object.__class__") "__get__" = some (some (.builtin "getset_descriptor.__get__"))
  ht : PySem.W.takesIn K (.builtin "object.__class__") = some true
  hm : PySem.W.mroIn K C (.type "object") = some true
  hd : PySem.W.hasDictIn K C = true
  ty : PySem.W.typeIn K (.ref C) = some (.type "type")
def zIsO (K : PySem.W.Frag) (C : Addr) : List V → Hp → VK → Prop := fun vs H Q => match vs with
  | [x, .ref c] => c = C ∧ ((∃ t, KindV K H x t ∧ Q (.bl false) H) ∨ ∃ b dx fs, x = .ref b ∧ H b = some (.ins C dx fs) ∧ Q (.bl true) H)
  | _ => False
theorem c_isO {X : Cx} {C : Addr} (S : IsC X.K C) : CallR X (.builtin "isinstance") (zIsO X.K C) := by
  intro pins s σ H xs us Q I r h
  unfold zIsO at h
  split at h
  · rename_i x c
    obtain ⟨rfl, ⟨t, hk, q⟩ | ⟨b, dx, fs, rfl, hb, q⟩⟩ := h
    · obtain ⟨h1, h2⟩ := hk.tyx
      have nc : ∀ T ∈ ["NoneType", "bool", "int", "str", "list", "tuple", "dict"], PySem.W.subIn X.K (.type T) (.ref c) = some false := by
        intro T hT
        simp only [List.mem_cons, List.not_mem_nil, or_false] at hT
        rcases hT with rfl | rfl | rfl | rfl | rfl | rfl | rfl <;> rfl
      have one : PySem.W.kitOne X.K (.type t) (.ref c) = some false := by
        obtain ⟨cd, hc, _⟩ := PySem.W.any_some S.hd
        have e2 : ((PySem.W.clsIn X.K c).isSome && PySem.W.typeIn X.K (.ref c) == some (.type "type")) = true := by rw [hc, S.ty] <;> rfl
        show (if ((PySem.W.clsIn X.K c).isSome && PySem.W.typeIn X.K (.ref c) == some (.type "type")) = true then PySem.W.subIn X.K (.type t) (.ref c) else none) = some false
        rw [if_pos e2]
        exact nc t h2
      exact call_isi pins s σ H _ us Q I r ⟨x, .ref c, .type t, .ref c, false, rfl, .own c, h1, one, q⟩
    · refine call_isi pins s σ H _ us Q I r ⟨.ref b, .ref c, .ref c, .ref c, true, rfl, .own c, .base (.ins hb S.cl S.ha S.hn S.ht S.hm), ?_, q⟩
      unfold PySem.W.kitOne
      rw [if_pos (beq_self_eq_true _)]
  · exact h.elim
/-- the own == of a class -/
structure OwnE (P : Program) (w : World) (K : PySem.W.Frag) (mg : Str → Option Value) (base : Heap) (k : Nat) (C : Addr) (sp : Sp) : Prop where
  ex : ∃ f fd ps, FnOk P w K mg base CX0 k f fd ps sp ∧ Binds K fd ps [] ∧ OwnC K C f
theorem Mt.own {P : Program} {w : World} {K : PySem.W.Frag} {mg : Str → Option Value} {base : Heap} {k : Nat} {C : Addr} {ps : List Str} {sp : Sp} (M : Mt P w K mg base CX0 k C "__eq__" ps sp) (ne : PySem.W.findIn K (.ref C) "__ne__" = some (some (.builtin "object.__ne__"))) (ob : PySem.W.mroIn K C (.type "object") = some true) :
    OwnE P w K mg base k C sp := by
  obtain ⟨f, fd, hc, hm, hb, F, _⟩ := M.ex
  exact ⟨f, fd, ps, F, hb, hm.at_, hm.fn, ne, ob⟩
theorem k_ownEq {X : Cx} {k : Nat} {C : Addr} {sp : Sp} (K : PySem.W.Frag) (O : OwnE X.prog X.w X.K X.mg X.base k C sp) (hr : Room k X.A) (hK : X.K = K := by rfl) : OpR X (compareOp .Eq) (zOwn K C sp false) := by
  obtain ⟨f, fd, ps, F, hb, O⟩ := O.ex
  exact hK ▸ o_ownEq F hb O hr
theorem k_ownNe {X : Cx} {k : Nat} {C : Addr} {sp : Sp} (K : PySem.W.Frag) (O : OwnE X.prog X.w X.K X.mg X.base k C sp) (hr : Room (k + 1) X.A) (hK : X.K = K := by rfl) : OpR X (compareOp .NotEq) (zOwn K C sp true) := by
  obtain ⟨f, fd, ps, F, hb, O⟩ := O.ex
  exact hK ▸ o_ownNe F hb O hr
end Z
namespace Z
open PySem PySem.Spec PyProof.Rows L2
theorem k_isO {X : Cx} {C : Addr} (K : PySem.W.Frag) (S : IsC K C) (hK : X.K = K := by rfl) : CallR X (.builtin "isinstance") (zIsO K C) := by
  subst hK
  exact c_isO S
end Z
namespace Z
open PySem PySem.Spec PyProof.Rows L2
section
variable {P : Program} {w : World} {K : PySem.W.Frag} {mg : Str → Option Value} {base : Heap}
theorem cg4 {x : Str} {st : Stmt} {a b c d : Str} {N : List Str} {k : Nat} {p : V → V → V → V → Hp → VK → XK → Prop} (D : Df K mg x st [a, b, c, d]) (S : FnScope N [a, b, c, d] (defScope st))
    (body : ∀ (f : Addr) (cdv : Value) (A : Around) (outer : List Env) (s : Shared) (H : Hp) (u v v3 v4 : V) (Q : VK) (E : XK), RoomG k (A.deeper (envOfC x (defScope st) s.heap.objs.size f cdv)) → p u v v3 v4 H Q E →
      ∃ t, PSs (cxOf CX0 P w K mg base N x (defScope st) f cdv A outer s H E).nox (defBody st) t ∧ t { nx := fun _ H' => Q .non H', rt := Q } (start N [u, v, v3, v4]) H) : Cg P w K mg base CX0 (k + 1) x [a, b, c, d] (sp4 p) := by
  obtain ⟨f, fd, F, hm, hb⟩ := D.ex
  refine ⟨f, fd, hm, F.kp, hb, fng F S (fun vs H Q E h => ?_) (fun cdv A outer s H vs Q E hr h => ?_), fun_at F⟩
  · obtain ⟨u, v, v3, v4, rfl, _⟩ := sp4_of h
    rfl
  · obtain ⟨u, v, v3, v4, rfl, h⟩ := sp4_of h
    exact body f cdv A outer s H u v v3 v4 Q E hr h
end
end Z

/-! M9: texts as lists of codes: signs, frames, their reading. -/
namespace M9
open PySem PySem.Spec PyProof.Rows L2 Z SX PySem.NumText

/-! ### signs -/
def Pr (l : List Nat) : Prop := ∀ c ∈ l, 32 ≤ c ∧ c ≤ 126
theorem pr_nil : Pr [] := fun _ h => by cases h
theorem pr_cons {c : Nat} {l : List Nat} (h : 32 ≤ c ∧ c ≤ 126) (t : Pr l) : Pr (c :: l) := fun d hd => by
  rcases List.mem_cons.mp hd with rfl | hd
  · exact h
  · exact t d hd
theorem pr_app {l m : List Nat} (a : Pr l) (b : Pr m) : Pr (l ++ m) := fun c hc => (List.mem_append.mp hc).elim (a c) (b c)
theorem pr_take {l : List Nat} (n : Nat) (a : Pr l) : Pr (l.take n) := fun c hc => a c (List.mem_of_mem_take hc)
theorem pr_drop {l : List Nat} (n : Nat) (a : Pr l) : Pr (l.drop n) := fun c hc => a c (List.mem_of_mem_drop hc)
theorem pr_rep {l : List Nat} (n : Nat) (a : Pr l) : Pr (List.replicate n l).flatten := fun c hc => by
  obtain ⟨m, hm, hc⟩ := List.mem_flatten.mp hc
  rw [(List.mem_replicate.mp hm).2] at hc
  exact a c hc
theorem pr_flat {ls : List (List Nat)} (a : ∀ l ∈ ls, Pr l) : Pr ls.flatten := fun c hc => by
  obtain ⟨m, hm, hc⟩ := List.mem_flatten.mp hc
  exact a m hm c hc
theorem pr_of {l : List Nat} (h : (l.all fun c => decide (32 ≤ c) && decide (c ≤ 126)) = true) : Pr l := fun c hc => by
  have q := (List.all_eq_true.mp h) c hc
  simpa using q
theorem printable_all : ∀ c : _root_.Fin 127, 32 ≤ c.val → Unicode.isPrintable c.val = true := by decide +kernel
theorem isascii_S {l : List Nat} (h : Pr l) : Txt.isascii (S l) = true := by
  show (l.toArray.all fun c => decide (c < 128)) = true
  rw [← Array.all_toList, List.all_eq_true]
  intro c hc
  have := h c (by simpa using hc)
  exact decide_eq_true (by omega)
theorem isprintable_S {l : List Nat} (h : Pr l) : Txt.isprintable (S l) = true := by
  show (l.toArray.all Unicode.isPrintable) = true
  rw [← Array.all_toList, List.all_eq_true]
  intro c hc
  have q := h c (by simpa using hc)
  exact printable_all ⟨c, by omega⟩ q.1
theorem S_lit {s : Str} {l : List Nat} (h : s.cps.toList = l) : s = S l := by
  rw [← h]
theorem length_S (l : List Nat) : (S l).length = l.length := S_len l
theorem cps_S (l : List Nat) : (S l).cps.toList = l := by simp [S]
theorem cut_S (l : List Nat) (lo hi : Option Int) : cutS (S l) lo hi = S ((l.drop (HT.sIx l.length 0 lo)).take (HT.sIx l.length l.length hi - HT.sIx l.length 0 lo)) := by
  unfold cutS
  rw [length_S]
theorem sIx_pos {n d : Nat} {i : Int} (h : 0 ≤ i) : HT.sIx n d (some i) = min i.toNat n := by
  show (if i < 0 then (i + (n : Int)).toNat else min i.toNat n) = min i.toNat n
  rw [if_neg (by omega)]
/-- l[a:b] for counts -/
theorem cut_nn {l : List Nat} {a b : Nat} : cutS (S l) (some (a : Int)) (some (b : Int)) = S ((l.drop a).take (b - a)) := by
  rw [cut_S, sIx_pos (by omega), sIx_pos (by omega), Int.toNat_natCast, Int.toNat_natCast]
  congr 1
  rcases Nat.le_total a l.length with h | h
  · rw [Nat.min_eq_left h]
    rcases Nat.le_total b l.length with h2 | h2
    · rw [Nat.min_eq_left h2]
    · rw [Nat.min_eq_right h2, List.take_of_length_le (by rw [List.length_drop]; omega), List.take_of_length_le (by rw [List.length_drop]; omega)]
  · rw [Nat.min_eq_right h, List.drop_of_length_le (Nat.le_refl _), List.drop_of_length_le h]
    simp
theorem cut_n {l : List Nat} {b : Nat} : cutS (S l) none (some (b : Int)) = S (l.take b) := by
  rw [cut_S, sIx_pos (by omega), Int.toNat_natCast]
  show S ((l.drop 0).take (min b l.length - 0)) = S (l.take b)
  rw [List.drop_zero, Nat.sub_zero]
  rcases Nat.le_total b l.length with h | h
  · rw [Nat.min_eq_left h]
  · rw [Nat.min_eq_right h, List.take_of_length_le (Nat.le_refl _), List.take_of_length_le h]
theorem cut_from {l : List Nat} {a : Nat} : cutS (S l) (some (a : Int)) none = S (l.drop a) := by
  rw [cut_S, sIx_pos (by omega), Int.toNat_natCast]
  show S ((l.drop (min a l.length)).take (l.length - min a l.length)) = S (l.drop a)
  rcases Nat.le_total a l.length with h | h
  · rw [Nat.min_eq_left h, List.take_of_length_le (by rw [List.length_drop]; omega)]
  · rw [Nat.min_eq_right h, List.drop_of_length_le (Nat.le_refl _), List.drop_of_length_le h]
    simp
theorem rep_S (l : List Nat) (n : Int) : rep (S l) n = S (List.replicate n.toNat l).flatten := by
  unfold rep
  rw [cps_S]
theorem rep_one (c : Nat) (n : Nat) : (List.replicate n [c]).flatten = List.replicate n c := by
  induction n with
  | zero => rfl
  | succ n ih => rw [List.replicate_succ, List.flatten_cons, ih]; rfl
theorem joinL_nil (ls : List (List Nat)) : TL.joinL [] ls = ls.flatten := by
  induction ls with
  | nil => rfl
  | cons a r ih =>
    cases r with
    | nil => simp [TL.joinL]
    | cons b r => rw [TL.joinL, ih]; simp
theorem join_flat {e : Str} (he : e = S []) (ls : List (List Nat)) : Txt.join e (ls.map S) = S ls.flatten := by
  rw [he, join_S, joinL_nil]

/-! ### frames -/
def frL (l : List Nat) : List Nat := List.replicate (5 - (TL.numL l.length).length) 48 ++ TL.numL l.length ++ [58] ++ l ++ [59]
theorem numL5 {n : Nat} (h : n < 100000) : (TL.numL n).length ≤ 5 ∧ 1 ≤ (TL.numL n).length := by
  refine ⟨TL.numL_len (by decide) (by simpa using h), ?_⟩
  rcases Nat.eq_zero_or_pos (TL.numL n).length with e | e
  · exact absurd (List.length_eq_zero_iff.mp e) (TL.numL_ne n)
  · exact e
theorem frL_len {l : List Nat} (h : l.length < 100000) : (frL l).length = l.length + 7 := by
  obtain ⟨h1, h2⟩ := numL5 h
  unfold frL
  simp only [List.length_append, List.length_replicate, List.length_singleton]
  omega
theorem numL_pr (n : Nat) : Pr (TL.numL n) := fun c hc => by
  have := TL.numL_digits n c hc
  omega
theorem frL_pr {l : List Nat} (h : Pr l) : Pr (frL l) := by
  unfold frL
  refine pr_app (pr_app (pr_app (pr_app (fun c hc => ?_) (numL_pr _)) (pr_of (by decide))) h) (pr_of (by decide))
  rw [(List.mem_replicate.mp hc).2]
  omega
/-- str(n).zfill(5) -/
theorem zfill_S {n : Nat} (h : n < 100000) : Txt.zfill (S (TL.numL n)) 5 = S (List.replicate (5 - (TL.numL n).length) 48 ++ TL.numL n) := by
  obtain ⟨h1, h2⟩ := numL5 h
  unfold Txt.zfill
  rw [length_S]
  by_cases h5 : (TL.numL n).length = 5
  · rw [if_pos (by omega), h5]
    rfl
  · rw [if_neg (by omega)]
    have e : (5 : Int).toNat - (TL.numL n).length = 5 - (TL.numL n).length := rfl
    rw [e]
    obtain ⟨c, r, hc⟩ : ∃ c r, TL.numL n = c :: r := by
      cases q : TL.numL n with
      | nil => exact absurd q (TL.numL_ne n)
      | cons c r => exact ⟨c, r, rfl⟩
    have hd := TL.numL_digits n c (by rw [hc]; exact List.mem_cons_self)
    unfold zfilled
    have e0 : (S (TL.numL n)).cps[0]? = some c := by
      rw [hc]
      simp [S]
    rw [e0]
    have pad : Builtin.Str.padded (S (TL.numL n)) (5 - (TL.numL n).length) 0 48 = S (List.replicate (5 - (TL.numL n).length) 48 ++ TL.numL n) := by
      unfold Builtin.Str.padded
      simp [S]
    split
    · rename_i q; cases q; omega
    · rename_i q; cases q; omega
    · exact pad

/-! ### reading frames -/
def digs (l : List Nat) : Bool := l.all fun c => decide (48 ≤ c) && decide (c ≤ 57)
/-- the number of a head -/
def headN (h : List Nat) : Option Nat := if h.length < 6 ∨ h[5]? ≠ some 58 ∨ digs (h.take 5) = false then none else some (digitsVal (h.take 5))
/-- the end of the frame that begins at i -/
def fEnd (l : List Nat) (i : Nat) : Option Nat := match headN ((l.drop i).take 6) with
  | none => none
  | some n => if n ≤ 80000 ∧ (l.drop (i + 6 + n)).take 1 = [59] then some (i + 6 + n + 1) else none
theorem take1 {l : List Nat} {i c : Nat} (h : (l.drop i).take 1 = [c]) : i < l.length ∧ l[i]? = some c := by
  have hl : i < l.length := by
    rcases Nat.lt_or_ge i l.length with q | q
    · exact q
    · rw [List.drop_of_length_le q] at h
      cases h
  rw [List.drop_eq_getElem_cons hl] at h
  have h2 : [l[i]] = [c] := h
  refine ⟨hl, ?_⟩
  rw [List.getElem?_eq_getElem hl]
  cases h2
  rfl
theorem fEnd_bounds {l : List Nat} {i e : Nat} (h : fEnd l i = some e) : i + 7 ≤ e ∧ e ≤ l.length := by
  unfold fEnd at h
  split at h
  · cases h
  · split at h
    · rename_i q
      cases h
      obtain ⟨h1, _⟩ := take1 q.2
      omega
    · cases h
def scan : Nat → List Nat → Nat → List (List Nat) × Nat
  | 0, _, i => ([], i)
  | f + 1, l, i => match fEnd l i with
    | none => ([], i)
    | some e => ((l.drop (i + 6)).take (e - 1 - (i + 6)) :: (scan f l e).1, (scan f l e).2)
theorem scan_stable : ∀ (f f' : Nat) (l : List Nat) (i : Nat), l.length + 1 ≤ i + f → l.length + 1 ≤ i + f' → scan f l i = scan f' l i
  | 0, 0, _, _, _, _ => rfl
  | 0, f' + 1, l, i, h, _ => by
    unfold scan
    cases q : fEnd l i with
    | none => rfl
    | some e => have := fEnd_bounds q; omega
  | f + 1, 0, l, i, _, h => by
    unfold scan
    cases q : fEnd l i with
    | none => rfl
    | some e => have := fEnd_bounds q; omega
  | f + 1, f' + 1, l, i, h, h' => by
    unfold scan
    cases q : fEnd l i with
    | none => rfl
    | some e =>
      have := fEnd_bounds q
      simp only
      rw [scan_stable f f' l e (by omega) (by omega)]
/-- the frames from i on -/
def sc (l : List Nat) (i : Nat) : List (List Nat) × Nat := scan (l.length + 1) l i
theorem sc_none {l : List Nat} {i : Nat} (h : fEnd l i = none) : sc l i = ([], i) := by
  unfold sc scan
  rw [h]
theorem sc_some {l : List Nat} {i e : Nat} (h : fEnd l i = some e) : sc l i = ((l.drop (i + 6)).take (e - 1 - (i + 6)) :: (sc l e).1, (sc l e).2) := by
  have b := fEnd_bounds h
  have e1 : scan l.length l e = scan (l.length + 1) l e := scan_stable _ _ _ _ (by omega) (by omega)
  show scan (l.length + 1) l i = _
  rw [scan, h]
  simp only
  rw [e1]
  rfl
theorem sc_le : ∀ (f : Nat) (l : List Nat) (i : Nat), i ≤ l.length → i ≤ (scan f l i).2 ∧ (scan f l i).2 ≤ l.length ∧ (scan f l i).1.length * 7 + i ≤ (scan f l i).2
  | 0, l, i, h => ⟨Nat.le_refl _, h, by simp [scan]⟩
  | f + 1, l, i, h => by
    unfold scan
    cases q : fEnd l i with
    | none => exact ⟨Nat.le_refl _, h, by simp⟩
    | some e =>
      have b := fEnd_bounds q
      have r := sc_le f l e b.2
      refine ⟨by simp only; omega, r.2.1, ?_⟩
      simp only [List.length_cons]
      omega
theorem sc_bounds {l : List Nat} {i : Nat} (h : i ≤ l.length) : i ≤ (sc l i).2 ∧ (sc l i).2 ≤ l.length ∧ (sc l i).1.length * 7 + i ≤ (sc l i).2 := sc_le _ l i h
theorem digitsVal_lt : ∀ (l : List Nat), digs l = true → digitsVal l < 10 ^ l.length := by
  intro l
  have gen : ∀ (l : List Nat) (a k : Nat), digs l = true → a < 10 ^ k → l.foldl (fun acc c => acc * 10 + (c - 48)) a < 10 ^ (k + l.length) := by
    intro l
    induction l with
    | nil => intro a k _ h; exact h
    | cons c r ih =>
      intro a k hd h
      have hd' : (decide (48 ≤ c) && decide (c ≤ 57) && digs r) = true := hd
      simp only [Bool.and_eq_true, decide_eq_true_eq] at hd'
      rw [List.foldl_cons, List.length_cons]
      have q := ih (a * 10 + (c - 48)) (k + 1) hd'.2 (by rw [Nat.pow_succ]; omega)
      rw [show k + (r.length + 1) = k + 1 + r.length by omega]
      exact q
  intro h
  have q := gen l 0 0 h (by decide)
  simpa [digitsVal] using q
theorem intText_head {h : List Nat} (h5 : h.length = 5) (hd : digs h = true) : intText? (S h) = some ((digitsVal h : Nat) : Int) := int_S hd (fun e => by rw [e] at h5; cases h5) (by omega)

/-! ### texts as data -/
def strsV (ls : List (List Nat)) : List V := (ls.map S).map V.str
theorem strsV_len (ls : List (List Nat)) : (strsV ls).length = ls.length := by simp [strsV]
theorem strsV_app (ls : List (List Nat)) (l : List Nat) : strsV (ls ++ [l]) = strsV ls ++ [.str (S l)] := by simp [strsV]
theorem strsV_at {ls : List (List Nat)} {i : Nat} {x : V} (h : (strsV ls)[i]? = some x) : ∃ l, ls[i]? = some l ∧ x = .str (S l) ∧ l ∈ ls := by
  unfold strsV at h
  rw [List.getElem?_map, List.getElem?_map] at h
  cases e : ls[i]? with
  | none => rw [e] at h; cases h
  | some l =>
    rw [e] at h
    exact ⟨l, rfl, (Option.some.inj h).symm, List.mem_of_getElem? e⟩
def strsD (ls : List (List Nat)) : PyData := .list (ls.map fun l => .str (S l))
theorem dpAll_strs {K : PySem.W.Frag} {H : Hp} : ∀ ls : List (List Nat), DpAll K H (strsV ls) (ls.map fun l => .str (S l))
  | [] => .nil
  | l :: r => .cons (.str (S l)) (dpAll_strs r)
theorem dp_strs {K : PySem.W.Frag} {H : Hp} {a : Addr} {ls : List (List Nat)} (h : SqL K H a (strsV ls)) : Dp K H (.ref a) (strsD ls) := .lst h (dpAll_strs ls)
theorem strOk_S {l : List Nat} (h : Pr l) : PyData.strOk (S l) = true := by
  show (l.toArray.all fun c => decide (c < 0x110000)) = true
  rw [← Array.all_toList, List.all_eq_true]
  intro c hc
  have := h c (by simpa using hc)
  exact decide_eq_true (by omega)
theorem lay_strs : ∀ {ls : List (List Nat)}, (∀ l ∈ ls, Pr l) → PyData.canLayAll0 (ls.map fun l => .str (S l)) = true
  | [], _ => rfl
  | l :: r, h => by
    show (PyData.strOk (S l) && PyData.canLayAll0 (r.map fun l => .str (S l))) = true
    rw [strOk_S (h l List.mem_cons_self), lay_strs fun l hl => h l (List.mem_cons_of_mem _ hl)]
    rfl
theorem depth_strs : ∀ ls : List (List Nat), PyData.depthAll (ls.map fun l => .str (S l)) = 0
  | [] => rfl
  | l :: r => by
    show max 0 (PyData.depthAll (r.map fun l => .str (S l))) = 0
    rw [depth_strs r]
    rfl
theorem shaped_strs {ls : List (List Nat)} (h : ∀ l ∈ ls, Pr l) : SeqAt.shaped (strsD ls) = true := by
  show (PyData.canLayAll0 _ && decide (PyData.depthAll (ls.map fun l => .str (S l)) + 1 ≤ 64)) = true
  rw [lay_strs h, depth_strs]
  rfl
theorem shaped_pair {d : PyData} {i : Int} (h : SeqAt.shaped d = true) (hd : d.depth ≤ 10) : SeqAt.shaped (.tuple [d, .int i]) = true := by
  have h1 : (d.canLay0 && decide (d.depth ≤ 64)) = true := h
  rw [Bool.and_eq_true] at h1
  show ((d.canLay0 && true) && decide (max d.depth (max 0 0) + 1 ≤ 64)) = true
  rw [h1.1]
  simp
  omega
theorem depth_strsD (ls : List (List Nat)) : (strsD ls).depth = 1 := by
  show PyData.depthAll (ls.map fun l => .str (S l)) + 1 = 1
  rw [depth_strs]
theorem sc_pr {l : List Nat} (h : Pr l) : ∀ (f i : Nat), ∀ m ∈ (scan f l i).1, Pr m
  | 0, _, m, hm => by cases hm
  | f + 1, i, m, hm => by
    unfold scan at hm
    cases q : fEnd l i with
    | none => rw [q] at hm; cases hm
    | some e =>
      rw [q] at hm
      rcases List.mem_cons.mp hm with rfl | hm
      · exact pr_take _ (pr_drop _ h)
      · exact sc_pr h f e m hm
theorem eqv_self {d : PyData} (h : SeqAt.shaped d = true) : PyData.eqv d d = true := SeqAt.eqv_refl d (SeqAt.canLay_of_shaped h)
theorem eqv_nil (ds : List PyData) : PyData.eqv (.list ds) (.list []) = ds.isEmpty := by
  rw [PyData.eqv]
  cases ds <;> rfl
def isdig (c : Nat) : Bool := decide (48 ≤ c) && decide (c ≤ 57)
theorem digits_list : ("0123456789" : Str).cps.toList = [48, 49, 50, 51, 52, 53, 54, 55, 56, 57] := by decide +kernel
theorem dig_in (c : Nat) : decide (c ∈ ("0123456789" : Str).cps.toList) = isdig c := by
  rw [digits_list]
  unfold isdig
  rw [Bool.eq_iff_iff]
  simp only [decide_eq_true_eq, Bool.and_eq_true, List.mem_cons, List.not_mem_nil, or_false]
  omega
theorem digs_all (l : List Nat) : digs l = (l.map isdig).all id := by
  unfold digs
  rw [List.all_map]
  rfl
theorem signs_strs (cs : List Nat) : cs.map signV = strsV (cs.map fun c => [c]) := by
  unfold strsV
  rw [List.map_map, List.map_map]
  rfl
theorem pr_one {c : Nat} (h : 32 ≤ c ∧ c ≤ 126) : Pr [c] := pr_cons h pr_nil
theorem digs_filter : ∀ l : List Nat, digs l = (l.filter fun c => !isdig c).isEmpty
  | [] => rfl
  | c :: r => by
    show (isdig c && digs r) = _
    rw [digs_filter r, List.filter_cons]
    cases isdig c <;> rfl
end M9

/-! M11: what is read in a beginning of frames. -/
namespace M9
open PySem PySem.Spec PyProof.Rows L2 Z SX PySem.NumText

theorem digitsVal_zeros (k : Nat) (l : List Nat) : digitsVal (List.replicate k 48 ++ l) = digitsVal l := by
  unfold digitsVal
  rw [List.foldl_append]
  congr 1
  induction k with
  | zero => rfl
  | succ k ih => rw [List.replicate_succ, List.foldl_cons]; exact ih
def figs (n : Nat) : List Nat := List.replicate (5 - (TL.numL n).length) 48 ++ TL.numL n
theorem figs_len {n : Nat} (h : n < 100000) : (figs n).length = 5 := by
  obtain ⟨h1, h2⟩ := numL5 h
  unfold figs
  rw [List.length_append, List.length_replicate]
  omega
theorem figs_val (n : Nat) : digitsVal (figs n) = n := by
  unfold figs
  rw [digitsVal_zeros, TL.numL_val]
theorem figs_digs (n : Nat) : digs (figs n) = true := by
  unfold digs figs
  rw [List.all_eq_true]
  intro c hc
  rcases List.mem_append.mp hc with q | q
  · rw [(List.mem_replicate.mp q).2]
    rfl
  · have := TL.numL_digits n c q
    simpa using this
theorem frL_eq (m : List Nat) : frL m = figs m.length ++ (58 :: (m ++ [59])) := by
  unfold frL figs
  simp [List.append_assoc]
theorem head_fr {m rest : List Nat} (h : m.length ≤ 80000) : headN ((frL m ++ rest).take 6) = some m.length := by
  have h5 := figs_len (n := m.length) (by omega)
  have e : (frL m ++ rest).take 6 = figs m.length ++ [58] := by
    rw [frL_eq, List.append_assoc, List.take_append, h5, List.take_of_length_le (by omega)]
    rfl
  rw [e]
  unfold headN
  rw [if_neg, List.take_append_of_le_length (by omega), List.take_of_length_le (by omega), figs_val]
  rintro (z | z | z)
  · rw [List.length_append, h5] at z
    exact absurd z (by decide)
  · rw [List.getElem?_append_right (by omega), h5] at z
    exact z rfl
  · rw [List.take_append_of_le_length (by omega), List.take_of_length_le (by omega), figs_digs] at z
    cases z
theorem drop_fr {m rest : List Nat} (h : m.length ≤ 80000) : (frL m ++ rest).drop (6 + m.length) = 59 :: rest := by
  have h5 := figs_len (n := m.length) (by omega)
  rw [frL_eq]
  have e : figs m.length ++ (58 :: (m ++ [59])) ++ rest = (figs m.length ++ (58 :: m)) ++ (59 :: rest) := by simp [List.append_assoc]
  rw [e, List.drop_append_of_le_length (by rw [List.length_append, List.length_cons, h5]; omega), List.drop_of_length_le (by rw [List.length_append, List.length_cons, h5]; omega)]
  rfl
theorem body_fr {m rest : List Nat} (h : m.length ≤ 80000) : ((frL m ++ rest).drop 6).take m.length = m := by
  have h5 := figs_len (n := m.length) (by omega)
  rw [frL_eq]
  have e : figs m.length ++ (58 :: (m ++ [59])) ++ rest = (figs m.length ++ [58]) ++ (m ++ (59 :: rest)) := by simp [List.append_assoc]
  rw [e, List.drop_append_of_le_length (by rw [List.length_append, h5]; decide), List.drop_of_length_le (by rw [List.length_append, h5]; decide), List.nil_append, List.take_append_of_le_length (Nat.le_refl _), List.take_length]
theorem fEnd_fr {l m rest : List Nat} {i : Nat} (h : m.length ≤ 80000) (e : l.drop i = frL m ++ rest) : fEnd l i = some (i + m.length + 7) := by
  unfold fEnd
  rw [e, head_fr h]
  simp only
  have d : l.drop (i + 6 + m.length) = 59 :: rest := by
    rw [Nat.add_assoc, ← List.drop_drop, e, drop_fr h]
  rw [d, if_pos ⟨h, rfl⟩]
  congr 1
  omega
theorem fEnd_cut {l m rest : List Nat} {i k : Nat} (h : m.length ≤ 80000) (hk : k < m.length + 7) (e : l.drop i = (frL m ++ rest).take k) : fEnd l i = none := by
  unfold fEnd
  rw [e, List.take_take]
  rcases Nat.lt_or_ge k 6 with q | q
  · have hn : headN ((frL m ++ rest).take (min 6 k)) = none := by
      unfold headN
      rw [if_pos]
      refine .inl ?_
      rw [List.length_take]
      omega
    rw [hn]
  · rw [Nat.min_eq_left q, head_fr h]
    simp only
    have d : l.drop (i + 6 + m.length) = [] := by
      rw [Nat.add_assoc, ← List.drop_drop, e]
      refine List.drop_of_length_le ?_
      rw [List.length_take]
      omega
    rw [d, if_neg]
    rintro ⟨_, z⟩
    cases z
theorem fEnd_nil {l : List Nat} {i : Nat} (e : l.drop i = []) : fEnd l i = none := by
  unfold fEnd
  rw [e]
  rfl
/-- how many frames are whole among the first k signs -/
def cnt : List (List Nat) → Nat → Nat
  | [], _ => 0
  | m :: r, k => if m.length + 7 ≤ k then 1 + cnt r (k - (m.length + 7)) else 0
theorem cnt_le : ∀ (ls : List (List Nat)) (k : Nat), cnt ls k ≤ ls.length
  | [], _ => Nat.le_refl 0
  | m :: r, k => by
    unfold cnt
    have := cnt_le r (k - (m.length + 7))
    rw [List.length_cons]
    split <;> omega
def fl (ls : List (List Nat)) : List Nat := (ls.map frL).flatten
theorem fl_cons (m : List Nat) (r : List (List Nat)) : fl (m :: r) = frL m ++ fl r := by simp [fl]
theorem fl_app (a b : List (List Nat)) : fl (a ++ b) = fl a ++ fl b := by simp [fl]
theorem sc_cut : ∀ (ls : List (List Nat)) (l : List Nat) (i k : Nat), (∀ m ∈ ls, m.length ≤ 80000) → l.drop i = (fl ls).take k → sc l i = (ls.take (cnt ls k), i + (fl (ls.take (cnt ls k))).length)
  | [], l, i, k, _, e => by
    have e' : l.drop i = [] := by rw [e]; simp [fl]
    rw [sc_none (fEnd_nil e')]
    simp [fl]
  | m :: r, l, i, k, h, e => by
    have hm := h m List.mem_cons_self
    have lm := frL_len (l := m) (by omega)
    rw [fl_cons] at e
    unfold cnt
    by_cases hk : m.length + 7 ≤ k
    · rw [if_pos hk]
      have e1 : l.drop i = frL m ++ (fl r).take (k - (m.length + 7)) := by
        rw [e, List.take_append, lm, List.take_of_length_le (by omega)]
      have e2 : l.drop (i + m.length + 7) = (fl r).take (k - (m.length + 7)) := by
        rw [Nat.add_assoc, ← List.drop_drop, e1, List.drop_append_of_le_length (by omega), List.drop_of_length_le (by omega), List.nil_append]
      have ih := sc_cut r l (i + m.length + 7) (k - (m.length + 7)) (fun x hx => h x (List.mem_cons_of_mem _ hx)) e2
      rw [sc_some (fEnd_fr hm e1), ih]
      have e3 : (l.drop (i + 6)).take (i + m.length + 7 - 1 - (i + 6)) = m := by
        rw [← List.drop_drop, e1, show i + m.length + 7 - 1 - (i + 6) = m.length by omega, body_fr hm]
      rw [e3, Nat.add_comm 1, List.take_succ_cons, fl_cons, List.length_append, lm]
      simp only [Prod.mk.injEq, true_and]
      omega
    · rw [if_neg hk, sc_none (fEnd_cut hm (by omega) e)]
      simp [fl]
theorem cnt_full : ∀ (ls : List (List Nat)) (k : Nat), (∀ m ∈ ls, m.length ≤ 80000) → (fl ls).length ≤ k → cnt ls k = ls.length
  | [], _, _, _ => rfl
  | m :: r, k, h, hk => by
    have lm := frL_len (l := m) (by have := h m List.mem_cons_self; omega)
    rw [fl_cons, List.length_append, lm] at hk
    unfold cnt
    rw [if_pos (by omega), cnt_full r _ (fun x hx => h x (List.mem_cons_of_mem _ hx)) (by omega), List.length_cons]
    omega
/-- one sign less: the last one is lost -/
theorem cnt_last : ∀ (ls : List (List Nat)), (∀ m ∈ ls, m.length ≤ 80000) → cnt ls ((fl ls).length - 1) = ls.length - 1
  | [], _ => rfl
  | [m], h => by
    have lm := frL_len (l := m) (by have := h m List.mem_cons_self; omega)
    unfold cnt
    rw [fl_cons, List.length_append, lm, show (fl []).length = 0 from rfl, if_neg (by omega)]
    rfl
  | m :: n :: r, h => by
    have lm := frL_len (l := m) (by have := h m List.mem_cons_self; omega)
    have ln := frL_len (l := n) (by have := h n (List.mem_cons_of_mem _ List.mem_cons_self); omega)
    have ih := cnt_last (n :: r) fun x hx => h x (List.mem_cons_of_mem _ hx)
    have l2 : (fl (n :: r)).length = n.length + 7 + (fl r).length := by rw [fl_cons, List.length_append, ln]
    rw [cnt, fl_cons, List.length_append, lm, if_pos (by omega), show m.length + 7 + (fl (n :: r)).length - 1 - (m.length + 7) = (fl (n :: r)).length - 1 by omega, ih]
    simp only [List.length_cons]
    omega
theorem fl_take {ls : List (List Nat)} (j : Nat) : (fl ls).take (fl (ls.take j)).length = fl (ls.take j) := by
  have e : fl ls = fl (ls.take j) ++ fl (ls.drop j) := by rw [← fl_app, List.take_append_drop]
  rw [e, List.take_append_of_le_length (Nat.le_refl _), List.take_length]
theorem fl_rep (n : Nat) (m : List Nat) : fl (List.replicate n m) = (List.replicate n (frL m)).flatten := by
  unfold fl
  rw [List.map_replicate]
theorem cnt_rep (n : Nat) (m : List Nat) : ∀ k, cnt (List.replicate n m) k = min n (k / (m.length + 7)) := by
  induction n with
  | zero => intro k; simp [cnt]
  | succ n ih =>
    intro k
    rw [List.replicate_succ, cnt]
    by_cases hk : m.length + 7 ≤ k
    · rw [if_pos hk, ih]
      have : k / (m.length + 7) = (k - (m.length + 7)) / (m.length + 7) + 1 := by
        rw [Nat.div_eq, if_pos ⟨by omega, hk⟩]
      omega
    · rw [if_neg hk, Nat.div_eq_of_lt (by omega)]
      simp
/-- the ends of frames -/
def endsL : Nat → List (List Nat) → List Nat
  | _, [] => []
  | a, m :: r => (a + m.length + 7) :: endsL (a + m.length + 7) r
theorem endsL_len : ∀ (a : Nat) (ls : List (List Nat)), (endsL a ls).length = ls.length
  | _, [] => rfl
  | a, m :: r => by rw [endsL, List.length_cons, endsL_len, List.length_cons]
theorem endsL_ge : ∀ (a : Nat) (ls : List (List Nat)), ∀ e ∈ endsL a ls, a + 7 ≤ e
  | _, [], e, h => by cases h
  | a, m :: r, e, h => by
    rcases List.mem_cons.mp h with rfl | h
    · omega
    · have := endsL_ge (a + m.length + 7) r e h
      omega
theorem endsL_cnt : ∀ (ls : List (List Nat)) (a k : Nat), ((endsL a ls).filter fun e => decide (e ≤ a + k)).length = cnt ls k
  | [], _, _ => rfl
  | m :: r, a, k => by
    rw [endsL, cnt, List.filter_cons]
    by_cases hk : m.length + 7 ≤ k
    · rw [if_pos (decide_eq_true (by omega)), if_pos hk, List.length_cons, ← endsL_cnt r (a + m.length + 7) (k - (m.length + 7))]
      have : a + m.length + 7 + (k - (m.length + 7)) = a + k := by omega
      rw [this]
      omega
    · rw [if_neg (by simpa using (by omega : ¬ a + m.length + 7 ≤ a + k)), if_neg hk]
      have : (endsL (a + m.length + 7) r).filter (fun e => decide (e ≤ a + k)) = [] := by
        rw [List.filter_eq_nil_iff]
        intro e he
        have := endsL_ge _ _ e he
        simp only [decide_eq_true_eq]
        omega
      rw [this]
      rfl
theorem endsL_app : ∀ (a : Nat) (ls : List (List Nat)) (m : List Nat), (∀ x ∈ ls, x.length ≤ 80000) → endsL a (ls ++ [m]) = endsL a ls ++ [a + (fl ls).length + m.length + 7]
  | a, [], m, _ => by simp [endsL, fl]
  | a, x :: r, m, h => by
    have lx := frL_len (l := x) (by have := h x List.mem_cons_self; omega)
    rw [List.cons_append, endsL, endsL_app (a + x.length + 7) r m fun y hy => h y (List.mem_cons_of_mem _ hy), endsL, fl_cons, List.length_append, lx, List.cons_append]
    congr 3
    omega
theorem endsL_at : ∀ (ls : List (List Nat)) (a j : Nat), (∀ x ∈ ls, x.length ≤ 80000) → j < ls.length → (endsL a ls)[j]? = some (a + (fl (ls.take (j + 1))).length)
  | m :: r, a, 0, h, _ => by
    have lm := frL_len (l := m) (by have := h m List.mem_cons_self; omega)
    rw [endsL, List.take_succ_cons, fl_cons, List.length_append, lm]
    simp [fl]
    omega
  | m :: r, a, j + 1, h, hj => by
    have lm := frL_len (l := m) (by have := h m List.mem_cons_self; omega)
    rw [endsL, List.getElem?_cons_succ, endsL_at r (a + m.length + 7) j (fun y hy => h y (List.mem_cons_of_mem _ hy)) (by simpa using hj), List.take_succ_cons, fl_cons, List.length_append, lm]
    congr 1
    omega
end M9

/-! M3: items and tokens judged as data. -/
namespace M3
open PySem PySem.Spec PyProof.Rows L2 Z SX M9

def asciiS (x : Str) : Bool := x.cps.toList.all fun c => decide (c < 128)
/-- a text of ASCII signs, or no text; a tuple of such -/
def asc1 : PyData → Bool
  | .str x => asciiS x && decide (x.length ≤ 100000)
  | _ => true
def asc : PyData → Bool
  | .str x => asc1 (.str x)
  | .tuple ds => ds.all asc1
  | _ => true
def intD : PyData → Bool
  | .int _ => true
  | _ => false
def within (d : PyData) (a b : Int) : Bool := match d with
  | .int i => decide (a ≤ i) && decide (i ≤ b)
  | _ => false
def prS (x : Str) : Bool := x.cps.toList.all fun c => decide (32 ≤ c) && decide (c ≤ 126)
def lowS (x : Str) : Bool := x.cps.toList.all fun c => decide (97 ≤ c) && decide (c ≤ 122)
def signsD : PyData → Bool
  | .str x => prS x
  | _ => false
def plainD (n : Nat) : PyData → Bool
  | .str x => prS x && decide (x.length ≤ n)
  | _ => false
def nameD : PyData → Bool
  | .str x => decide (1 ≤ x.length) && decide (x.length ≤ 8) && lowS x
  | _ => false
def tokenD : PyData → Bool
  | .tuple [a, b] => within a 1 999999999999 && within b 1 999999999999
  | _ => false
def itemD : PyData → Bool
  | .tuple [a, b, c, d, e, f] => nameD a && nameD b && plainD 40 c && within d 0 3 && within e 0 50 && within f 0 50
  | _ => false
def kindD : PyData → String
  | .none => "NoneType"
  | .bool _ => "bool"
  | .int _ => "int"
  | .str _ => "str"
  | .list _ => "list"
  | .tuple _ => "tuple"
  | .dict _ => "dict"
theorem Dz.kind {g : Bool} {K : PySem.W.Frag} {H : Hp} {v : V} {d : PyData} (h : Dz g H v d) : KindV K H v (kindD d) := by
  cases h with
  | non => rfl
  | bl b => rfl
  | int i => rfl
  | str x => rfl
  | lst h _ _ => exact .inl ⟨rfl, _, SqL.of h⟩
  | tup h _ => exact .inr (.inl ⟨rfl, _, SqT.of h⟩)
  | dic h _ => exact .inr (.inr ⟨rfl, .inl ⟨_, h⟩⟩)
theorem print_ascii : ∀ c : _root_.Fin 128, Unicode.isPrintable c.val = (decide (32 ≤ c.val) && decide (c.val ≤ 126)) := by decide +kernel
theorem alpha_ascii : ∀ c : _root_.Fin 128, Unicode.isAlpha c.val = ((decide (65 ≤ c.val) && decide (c.val ≤ 90)) || (decide (97 ≤ c.val) && decide (c.val ≤ 122))) := by decide +kernel
theorem lower_ascii : ∀ c : _root_.Fin 128, Unicode.isLower c.val = (decide (97 ≤ c.val) && decide (c.val ≤ 122)) := by decide +kernel
theorem upper_ascii : ∀ c : _root_.Fin 128, (Unicode.isUpper c.val || Unicode.isTitle c.val) = (decide (65 ≤ c.val) && decide (c.val ≤ 90)) := by decide +kernel
theorem all_eq {p q : Nat → Bool} : ∀ {l : List Nat}, (∀ c ∈ l, p c = q c) → l.all p = l.all q
  | [], _ => rfl
  | a :: r, h => by
    rw [List.all_cons, List.all_cons, h a List.mem_cons_self, all_eq fun c hc => h c (List.mem_cons_of_mem _ hc)]
theorem any_eq {p q : Nat → Bool} : ∀ {l : List Nat}, (∀ c ∈ l, p c = q c) → l.any p = l.any q
  | [], _ => rfl
  | a :: r, h => by
    rw [List.any_cons, List.any_cons, h a List.mem_cons_self, any_eq fun c hc => h c (List.mem_cons_of_mem _ hc)]
theorem lt_of_ascii {x : Str} (h : asciiS x = true) {c : Nat} (hc : c ∈ x.cps.toList) : c < 128 := by
  simpa using (List.all_eq_true.mp h) c hc
theorem isascii_D {x : Str} (h : asciiS x = true) : Txt.isascii x = true := by
  show (x.cps.all fun c => decide (c < 128)) = true
  rw [← Array.all_toList]
  exact h
theorem isprintable_D {x : Str} (h : asciiS x = true) : Txt.isprintable x = prS x := by
  show (x.cps.all Unicode.isPrintable) = _
  rw [← Array.all_toList]
  exact all_eq fun c hc => print_ascii ⟨c, lt_of_ascii h hc⟩
theorem isalpha_D {x : Str} (h : asciiS x = true) : Txt.isalpha x = (decide (x.length > 0) && x.cps.toList.all fun c => (decide (65 ≤ c) && decide (c ≤ 90)) || (decide (97 ≤ c) && decide (c ≤ 122))) := by
  show (decide (x.length > 0) && x.cps.all Unicode.isAlpha) = _
  rw [← Array.all_toList]
  congr 1
  exact all_eq fun c hc => alpha_ascii ⟨c, lt_of_ascii h hc⟩
theorem islower_D {x : Str} (h : asciiS x = true) : Txt.islower x = ((x.cps.toList.any fun c => decide (97 ≤ c) && decide (c ≤ 122)) && !(x.cps.toList.any fun c => decide (65 ≤ c) && decide (c ≤ 90))) := by
  show (x.cps.any Unicode.isLower && !x.cps.any fun c => Unicode.isUpper c || Unicode.isTitle c) = _
  rw [← Array.any_toList, ← Array.any_toList]
  congr 1
  · exact any_eq fun c hc => lower_ascii ⟨c, lt_of_ascii h hc⟩
  · congr 1
    exact any_eq fun c hc => upper_ascii ⟨c, lt_of_ascii h hc⟩
/-- the program's test of a name is the law's -/
theorem name_law {x : Str} (h : asciiS x = true) : (prS x && (decide (x.length ≤ 8) && (Txt.isalpha x && Txt.islower x))) = nameD (.str x) := by
  have hl : x.length = x.cps.toList.length := by rw [Array.length_toList]; rfl
  rw [isalpha_D h, islower_D h]
  unfold nameD
  rw [Bool.eq_iff_iff]
  constructor
  · intro e
    simp only [Bool.and_eq_true, decide_eq_true_eq, List.all_eq_true, Bool.or_eq_true, List.any_eq_true, Bool.not_eq_true', List.any_eq_false, lowS, prS] at e ⊢
    obtain ⟨_, h8, ⟨h1, ha⟩, _, hu⟩ := e
    refine ⟨⟨h1, h8⟩, fun c hc => ?_⟩
    rcases ha c hc with z | z
    · exact absurd z (hu c hc)
    · exact z
  · intro e
    simp only [Bool.and_eq_true, decide_eq_true_eq, List.all_eq_true, Bool.or_eq_true, List.any_eq_true, Bool.not_eq_true', List.any_eq_false, lowS, prS] at e ⊢
    obtain ⟨⟨h1, h8⟩, ha⟩ := e
    refine ⟨fun c hc => by have := ha c hc; omega, h8, ⟨h1, fun c hc => .inr (ha c hc)⟩, ?_, fun c hc => by have := ha c hc; omega⟩
    cases e : x.cps.toList with
    | nil => rw [hl, e] at h1; exact absurd h1 (by decide)
    | cons c r => exact ⟨c, List.mem_cons_self, ha c (by rw [e]; exact List.mem_cons_self)⟩
/-- what a filtered text leaves is nothing, if all its signs are good -/
theorem filter_none {p : Nat → Bool} (l : List Nat) : (l.filter fun c => !p c).isEmpty = l.all p := by
  induction l with
  | nil => rfl
  | cons a r ih =>
    rw [List.filter_cons, List.all_cons]
    cases e : p a with
    | true => simpa using ih
    | false => rfl
theorem letters_list : ("abcdefghijklmnopqrstuvwxyz" : Str).cps.toList = [97, 98, 99, 100, 101, 102, 103, 104, 105, 106, 107, 108, 109, 110, 111, 112, 113, 114, 115, 116, 117, 118, 119, 120, 121, 122] := by decide +kernel
def low (c : Nat) : Bool := decide (97 ≤ c) && decide (c ≤ 122)
def prt (c : Nat) : Bool := decide (32 ≤ c) && decide (c ≤ 126)
theorem low_in (c : Nat) : decide (c ∈ ("abcdefghijklmnopqrstuvwxyz" : Str).cps.toList) = low c := by
  rw [letters_list]
  unfold low
  rw [Bool.eq_iff_iff]
  simp only [decide_eq_true_eq, Bool.and_eq_true, List.mem_cons, List.not_mem_nil, or_false]
  omega
theorem one_lt {a b : Nat} : ([a] : List Nat) < [b] ↔ a < b := by
  rw [List.cons_lt_cons_iff]
  constructor
  · rintro (h | ⟨_, h⟩)
    · exact h
    · exact absurd h (by simp)
  · exact .inl
theorem lt_sp {c : Nat} : (⟨#[c]⟩ : Str).cps.toList < (" " : Str).cps.toList ↔ c < 32 := by
  rw [show (" " : Str).cps.toList = [32] by decide +kernel, show (⟨#[c]⟩ : Str).cps.toList = [c] from rfl]
  exact one_lt
theorem gt_tl {c : Nat} : ("~" : Str).cps.toList < (⟨#[c]⟩ : Str).cps.toList ↔ 126 < c := by
  rw [show ("~" : Str).cps.toList = [126] by decide +kernel, show (⟨#[c]⟩ : Str).cps.toList = [c] from rfl]
  exact one_lt
def signsD2 (l : List Nat) : PyData := .list (l.map fun c => .str (S [c]))
theorem signs_none {x : Str} {p : Nat → Bool} : (x.cps.toList.filter fun c => !p c).isEmpty = x.cps.toList.all p := filter_none _
theorem shaped_asc {cs : List Nat} (h : ∀ c ∈ cs, c < 128) : SeqAt.shaped (strsD (cs.map fun c => [c])) = true := by
  have lay : ∀ cs : List Nat, (∀ c ∈ cs, c < 128) → PyData.canLayAll0 ((cs.map fun c => [c]).map fun l => .str (S l)) = true := by
    intro cs
    induction cs with
    | nil => intro _; rfl
    | cons c r ih =>
      intro h
      have hc := h c List.mem_cons_self
      show (PyData.strOk (S [c]) && PyData.canLayAll0 ((r.map fun c => [c]).map fun l => .str (S l))) = true
      rw [ih fun x hx => h x (List.mem_cons_of_mem _ hx), Bool.and_true]
      show ([c].toArray.all fun c => decide (c < 0x110000)) = true
      rw [← Array.all_toList, List.all_eq_true]
      intro x hx
      have : x = c := by simpa using hx
      rw [this]
      exact decide_eq_true (by omega)
  show (PyData.canLayAll0 _ && decide (PyData.depthAll ((cs.map fun c => [c]).map fun l => .str (S l)) + 1 ≤ 64)) = true
  rw [lay cs h, depth_strs]
  rfl
theorem eqv_strs_nil (cs : List Nat) : PyData.eqv (strsD (cs.map fun c => [c])) (strsD []) = cs.isEmpty := by
  unfold strsD
  rw [List.map_nil, eqv_nil]
  cases cs <;> rfl
theorem filter_step {l : List Nat} {p : Nat → Bool} {i c : Nat} (hc : l[i]? = some c) : (l.take (i + 1)).filter (fun c => !p c) = (l.take i).filter (fun c => !p c) ++ (if p c then [] else [c]) := by
  rw [List.take_add_one, hc, List.filter_append]
  cases e : p c <;> simp [e]
/-! ### how long what is shown is -/
theorem piled_shown : ∀ ds : List PyData, piled (PyData.shownAll ds) = (ds.map fun d => d.shown.length + 2).sum
  | [] => rfl
  | d :: r => by
    rw [PyData.shownAll, piled_cons, piled_shown r, List.map_cons, List.sum_cons]
theorem len_tuple (ds : List PyData) : (PyData.tuple ds).shown.length ≤ 4 + (ds.map fun d => d.shown.length + 2).sum := by
  have e : (PyData.tuple ds).shown = tupleText (PyData.shownAll ds) := by rw [PyData.shown]
  rw [e, ← piled_shown]
  unfold tupleText
  rw [strLen_append, strLen_append]
  have h2 : (Str.ofString (if (PyData.shownAll ds).length == 1 then ",)" else ")")).length ≤ 2 := by split <;> decide
  have h1 : ("(" : Str).length = 1 := rfl
  by_cases hn : PyData.shownAll ds = []
  · rw [hn]
    decide
  · have := join_length_add _ hn
    omega
theorem len_from : ∀ (ts : List Str) (k : Nat) (acc : Str), (textFrom k acc ts).length ≤ acc.length + piled ts
  | [], k, acc => Nat.le_add_right _ _
  | t :: r, k, acc => by
    have ih := len_from r (k + 1) (acc ++ (if k > 0 then ", " else "" : String) ++ t)
    have e : (acc ++ (if k > 0 then ", " else "" : String) ++ t).length = acc.length + (if k > 0 then 2 else 0) + t.length := by
      rw [strLen_append, strLen_append]
      split <;> rfl
    rw [piled_cons]
    show (textFrom (k + 1) (acc ++ (if k > 0 then ", " else "" : String) ++ t) r).length ≤ _
    rw [e] at ih
    have hb : (if k > 0 then 2 else 0) ≤ 2 := by split <;> omega
    omega
theorem len_list (ds : List PyData) : (PyData.list ds).shown.length ≤ 4 + (ds.map fun d => d.shown.length + 2).sum := by
  have e : (PyData.list ds).shown = listText (PyData.shownAll ds) := by rw [PyData.shown]
  rw [e, ← piled_shown]
  unfold listText
  rw [strLen_append]
  have := len_from (PyData.shownAll ds) 0 "["
  have h1 : ("[" : Str).length = 1 := rfl
  have h2 : ("]" : Str).length = 1 := rfl
  omega
mutual
/-- no list in it is as long as a box -/
def nobox : PyData → Bool
  | .none | .bool _ | .int _ | .str _ => true
  | .list ds => (ds.length != 4) && noboxAll ds
  | .tuple ds => noboxAll ds
  | .dict kvs => noboxKv kvs
def noboxAll : List PyData → Bool
  | [] => true
  | d :: r => nobox d && noboxAll r
def noboxKv : List (PyData × PyData) → Bool
  | [] => true
  | (_, d) :: r => nobox d && noboxKv r
end
theorem DzAll.len {g : Bool} {H : Hp} : ∀ {xs : List V} {ds : List PyData}, DzAll g H xs ds → xs.length = ds.length
  | _, _, .nil => rfl
  | _, _, .cons _ t => by rw [List.length_cons, List.length_cons, DzAll.len t]
theorem DzAll.take {g : Bool} {H : Hp} : ∀ {xs : List V} {ds : List PyData} (n : Nat), DzAll g H xs ds → DzAll g H (xs.take n) (ds.take n)
  | _, _, 0, _ => by rw [List.take_zero, List.take_zero]; exact .nil
  | _, _, n + 1, .nil => .nil
  | _, _, n + 1, .cons h t => .cons h (DzAll.take n t)
theorem DzAll.drop {g : Bool} {H : Hp} : ∀ {xs : List V} {ds : List PyData} (n : Nat), DzAll g H xs ds → DzAll g H (xs.drop n) (ds.drop n)
  | _, _, 0, h => h
  | _, _, n + 1, .nil => .nil
  | _, _, n + 1, .cons h t => DzAll.drop n t
theorem DzAll.app {g : Bool} {H : Hp} : ∀ {xs ys : List V} {ds es : List PyData}, DzAll g H xs ds → DzAll g H ys es → DzAll g H (xs ++ ys) (ds ++ es)
  | _, _, _, _, .nil, h => h
  | _, _, _, _, .cons h t, h2 => .cons h (DzAll.app t h2)
theorem not4 {ds : List PyData} (h : (ds.length != 4) = true) : ds.length ≠ 4 := by simpa using h
mutual
/-- b is a list of four: what has none is kept where all but b is kept -/
theorem Dz.but {g : Bool} {H H2 : Hp} {b : Addr} {bs : List V} (hb : H b = some (.lst bs)) (h4 : bs.length = 4) (t : But b H H2) : ∀ {v : V} {d : PyData}, Dz g H v d → nobox d = true → Dz g H2 v d
  | _, _, .non, _ => .non
  | _, _, .bl b, _ => .bl b
  | _, _, .int i, _ => .int i
  | _, _, .str x, _ => .str x
  | _, _, .lst (ds := ds) h n a, k => by
    have k : ((ds.length != 4) && noboxAll ds) = true := k
    rw [Bool.and_eq_true] at k
    refine .lst (t _ _ (fun z => ?_) h) n (DzAll.but hb h4 t a k.2)
    rw [z, hb] at h
    have := DzAll.len a
    cases h
    exact not4 k.1 (by omega)
  | _, _, .tup h a, k => .tup (t _ _ (fun z => by rw [z, hb] at h; cases h) h) (DzAll.but hb h4 t a k)
  | _, _, .dic h a, k => .dic (t _ _ (fun z => by rw [z, hb] at h; cases h) h) (DzKv.but hb h4 t a k)
theorem DzAll.but {g : Bool} {H H2 : Hp} {b : Addr} {bs : List V} (hb : H b = some (.lst bs)) (h4 : bs.length = 4) (t : But b H H2) : ∀ {vs : List V} {ds : List PyData}, DzAll g H vs ds → noboxAll ds = true → DzAll g H2 vs ds
  | _, _, .nil, _ => .nil
  | _, _, .cons h r, k => by
    have k := Bool.and_eq_true _ _ ▸ k
    exact .cons (Dz.but hb h4 t h k.1) (DzAll.but hb h4 t r k.2)
theorem DzKv.but {g : Bool} {H H2 : Hp} {b : Addr} {bs : List V} (hb : H b = some (.lst bs)) (h4 : bs.length = 4) (t : But b H H2) : ∀ {kvs : List (Key × V)} {D : List (PyData × PyData)}, DzKv g H kvs D → noboxKv D = true → DzKv g H2 kvs D
  | _, _, .nil, _ => .nil
  | _, _, .cons h r, k => by
    have k := Bool.and_eq_true _ _ ▸ k
    exact .cons (Dz.but hb h4 t h k.1) (DzKv.but hb h4 t r k.2)
end
def oddOk (d : PyData) : Bool := asc1 d && d.showable && decide (d.depth ≤ 3) && decide (d.shown.length ≤ 2000) && nobox d
theorem oddOk_of {d : PyData} (h : oddOk d = true) : asc1 d = true ∧ d.showable = true ∧ d.depth ≤ 3 ∧ d.shown.length ≤ 2000 := by
  unfold oddOk at h
  simp only [Bool.and_eq_true, decide_eq_true_eq] at h
  exact ⟨h.1.1.1.1, h.1.1.1.2, h.1.1.2, h.1.2⟩
theorem odd_nobox {d : PyData} (h : oddOk d = true) : nobox d = true := by
  unfold oddOk at h
  rw [Bool.and_eq_true] at h
  exact h.2
theorem odd_noboxAll : ∀ {ds : List PyData}, (∀ d ∈ ds, oddOk d = true) → noboxAll ds = true
  | [], _ => rfl
  | d :: r, h => by
    show (nobox d && noboxAll r) = true
    rw [odd_nobox (h d List.mem_cons_self), odd_noboxAll fun x hx => h x (List.mem_cons_of_mem _ hx)]
    rfl
/-- a tuple of good parts -/
def Tv (H : Hp) (p : Addr) (xs : List V) (ds : List PyData) : Prop := H p = some (.tup xs) ∧ DzAll true H xs ds ∧ ∀ d ∈ ds, oddOk d = true
theorem Tv.same {H H2 : Hp} {p : Addr} {xs : List V} {ds : List PyData} (h : Tv H p xs ds) (s : Same H H2) : Tv H2 p xs ds := ⟨s _ _ h.1, DzAll.same s h.2.1, h.2.2⟩
theorem addT {K : PySem.W.Frag} {H : Hp} {l b : Addr} {xs zs : List V} {Q : VK} (h1 : H l = some (.tup xs)) (h2 : H b = some (.tup zs)) (hz : xs.length + zs.length ≤ sizeLine) (q : ∀ r H2, Same H H2 → H2 r = some (.tup (xs ++ zs)) → Q (.ref r) H2) : zAdd K (.ref l) (.ref b) H Q :=
  .inr ⟨xs, zs, SqT.of h1, SqT.of h2, hz, (fun e => q b H (Same.refl H) (by rw [e]; exact h2)), (fun _ e => q l H (Same.refl H) (by rw [e, List.append_nil]; exact h1)), fun _ _ p H2 n => q p H2 n.same n.here⟩
theorem cutV_to (xs : List V) (j : Nat) : cutV xs none (some (j : Int)) = xs.take j := by
  unfold cutV
  rw [sIx_pos (by omega), Int.toNat_natCast]
  show ((xs.drop 0).take (min j xs.length - 0)) = _
  rw [List.drop_zero, Nat.sub_zero]
  rcases Nat.le_total j xs.length with h | h
  · rw [Nat.min_eq_left h]
  · rw [Nat.min_eq_right h, List.take_length, List.take_of_length_le h]
theorem cutV_toneg (xs : List V) : cutV xs none (some (-1)) = xs.take (xs.length - 1) := by
  unfold cutV
  show ((xs.drop 0).take ((if (-1 : Int) < 0 then (-1 + (xs.length : Int)).toNat else min (-1 : Int).toNat xs.length) - 0)) = _
  rw [if_pos (by decide), List.drop_zero, Nat.sub_zero, show (-1 + (xs.length : Int)).toNat = xs.length - 1 by omega]
theorem cutV_frneg (xs : List V) : cutV xs (some (-1)) none = xs.drop (xs.length - 1) := by
  unfold cutV
  show ((xs.drop (if (-1 : Int) < 0 then (-1 + (xs.length : Int)).toNat else min (-1 : Int).toNat xs.length)).take (xs.length - (if (-1 : Int) < 0 then (-1 + (xs.length : Int)).toNat else min (-1 : Int).toNat xs.length))) = _
  rw [if_pos (by decide), show (-1 + (xs.length : Int)).toNat = xs.length - 1 by omega, List.take_of_length_le (by rw [List.length_drop]; omega)]
theorem sIx_neg {n d : Nat} : HT.sIx n d (some (-1)) = n - 1 := by
  show (if (-1 : Int) < 0 then (-1 + (n : Int)).toNat else min (-1 : Int).toNat n) = _
  rw [if_pos (by decide)]
  omega
theorem cutV_fr (xs : List V) (j : Nat) : cutV xs (some (j : Int)) none = xs.drop j := by
  unfold cutV
  rw [sIx_pos (by omega), Int.toNat_natCast]
  show ((xs.drop (min j xs.length)).take (xs.length - min j xs.length)) = _
  rcases Nat.le_total j xs.length with h | h
  · rw [Nat.min_eq_left h, List.take_of_length_le (by rw [List.length_drop]; omega)]
  · rw [Nat.min_eq_right h, List.drop_length, List.drop_eq_nil_of_le h, List.take_nil]
theorem sum_odd : ∀ {ds : List PyData}, (∀ d ∈ ds, oddOk d = true) → (ds.map fun d => d.shown.length + 2).sum ≤ ds.length * 2002
  | [], _ => Nat.zero_le _
  | d :: r, h => by
    have h1 := (oddOk_of (h d List.mem_cons_self)).2.2.2
    have h2 := sum_odd fun x hx => h x (List.mem_cons_of_mem _ hx)
    rw [List.map_cons, List.sum_cons, List.length_cons, Nat.succ_mul]
    omega
theorem depth_odd : ∀ {ds : List PyData}, (∀ d ∈ ds, oddOk d = true) → PyData.depthAll ds ≤ 3
  | [], _ => Nat.zero_le _
  | d :: r, h => by
    have h1 := (oddOk_of (h d List.mem_cons_self)).2.2.1
    have h2 := depth_odd fun x hx => h x (List.mem_cons_of_mem _ hx)
    show max d.depth (PyData.depthAll r) ≤ 3
    omega
theorem show_odd : ∀ {ds : List PyData}, (∀ d ∈ ds, oddOk d = true) → PyData.showableAll ds = true
  | [], _ => rfl
  | d :: r, h => by
    have h1 := (oddOk_of (h d List.mem_cons_self)).2.1
    have h2 := show_odd fun x hx => h x (List.mem_cons_of_mem _ hx)
    show (d.showable && PyData.showableAll r) = true
    rw [h1, h2]
    rfl
theorem asc_odd : ∀ {ds : List PyData}, (∀ d ∈ ds, oddOk d = true) → ds.all asc1 = true := fun {ds} h => List.all_eq_true.mpr fun d hd => (oddOk_of (h d hd)).1
theorem odd_int {i : Int} (h : -10000000000000 ≤ i ∧ i ≤ 10000000000000) : oddOk (.int i) = true := by
  have hl : i.natAbs.log2 < 1920 := by
    rcases Nat.eq_zero_or_pos i.natAbs with e | e
    · rw [e]; decide
    · have q : 2 ^ i.natAbs.log2 ≤ i.natAbs := Nat.log2_self_le (by omega)
      have h2 : i.natAbs < 2 ^ 60 := by omega
      have : i.natAbs.log2 < 60 := (Nat.pow_lt_pow_iff_right (by decide : 1 < 2)).mp (Nat.lt_of_le_of_lt q h2)
      omega
  have e : (PyData.int i).shown = Str.ofString (toString i) := by simp only [PyData.shown]
  unfold oddOk
  rw [e, show (PyData.int i).showable = true by simpa only [PyData.showable, decide_eq_true_eq] using hl]
  have := int_text_len_1921 hl
  show (true && true && decide (0 ≤ 3) && decide ((Str.ofString (toString i)).length ≤ 2000) && true) = true
  rw [decide_eq_true (p := (Str.ofString (toString i)).length ≤ 2000) (by omega)]
  rfl
theorem odd_str {l : List Nat} (h : Pr l) (hl : l.length ≤ 100) : oddOk (.str (S l)) = true := by
  have e : (PyData.str (S l)).shown = reprText (S l) := by simp only [PyData.shown]
  have r := PySem.StrLaws.reprText_len (S l) (fun c hc => by
    rw [cps_S] at hc
    have := h c hc
    omega)
  have ls := length_S l
  have a : asciiS (S l) = true := by
    unfold asciiS
    rw [cps_S, List.all_eq_true]
    intro c hc
    have := h c hc
    exact decide_eq_true (by omega)
  have h1 : asc1 (.str (S l)) = true := by
    show (asciiS (S l) && decide ((S l).length ≤ 100000)) = true
    rw [a, length_S, decide_eq_true (by omega)]
    rfl
  unfold oddOk
  rw [e, h1]
  show (true && true && decide (0 ≤ 3) && decide ((reprText (S l)).length ≤ 2000) && true) = true
  rw [decide_eq_true (p := (reprText (S l)).length ≤ 2000) (by omega)]
  rfl
/-- a value that may be judged and shown -/
def Good (H : Hp) (v : V) : Prop := ∃ g d, Dz g H v d ∧ (d.hasDict = true → g = true) ∧ asc d = true ∧ d.showable = true ∧ d.depth ≤ 60 ∧ d.shown.length ≤ 10000000 ∧ nobox d = true
theorem Good.same {H H2 : Hp} {v : V} (h : Good H v) (s : Same H H2) : Good H2 v := by
  obtain ⟨g, d, a, b⟩ := h
  exact ⟨g, d, Dz.same s a, b⟩
theorem good_tup {H : Hp} {p : Addr} {xs : List V} {ds : List PyData} (h : H p = some (.tup xs)) (a : DzAll true H xs ds) (ok : ∀ d ∈ ds, oddOk d = true) (l : ds.length ≤ 20) : Good H (.ref p) := by
  refine ⟨true, .tuple ds, .tup h a, fun _ => rfl, asc_odd ok, show_odd ok, ?_, ?_, odd_noboxAll ok⟩
  · show PyData.depthAll ds + 1 ≤ 60
    have := depth_odd ok
    omega
  · have h1 := len_tuple ds
    have h2 := sum_odd ok
    have h3 : ds.length * 2002 ≤ 20 * 2002 := Nat.mul_le_mul_right _ l
    omega
def atomD : PyData → Bool
  | .none | .bool _ | .int _ | .str _ => true
  | _ => false
theorem atom_dict : ∀ {ds : List PyData}, (∀ d ∈ ds, atomD d = true) → PyData.hasDictAll ds = false
  | [], _ => by simp only [PyData.hasDictAll]
  | d :: r, h => by
    have h1 := h d List.mem_cons_self
    have h2 := atom_dict fun x hx => h x (List.mem_cons_of_mem _ hx)
    have h3 : d.hasDict = false := by cases d <;> first | (simp only [PyData.hasDict]; done) | cases h1
    simp only [PyData.hasDictAll, h3, h2, Bool.or_self]
mutual
theorem Dz.weak {H : Hp} : ∀ {v : V} {d : PyData}, Dz true H v d → Dz false H v d
  | _, _, .non => .non
  | _, _, .bl b => .bl b
  | _, _, .int i => .int i
  | _, _, .str x => .str x
  | _, _, .lst h n a => .lst h (fun z => by cases z) (DzAll.weak a)
  | _, _, .tup h a => .tup h (DzAll.weak a)
  | _, _, .dic h a => .dic h (DzKv.weak a)
theorem DzAll.weak {H : Hp} : ∀ {vs : List V} {ds : List PyData}, DzAll true H vs ds → DzAll false H vs ds
  | _, _, .nil => .nil
  | _, _, .cons h t => .cons (Dz.weak h) (DzAll.weak t)
theorem DzKv.weak {H : Hp} : ∀ {kvs : List (Key × V)} {D : List (PyData × PyData)}, DzKv true H kvs D → DzKv false H kvs D
  | _, _, .nil => .nil
  | _, _, .cons h t => .cons (Dz.weak h) (DzKv.weak t)
end
theorem good_lst {H : Hp} {p : Addr} {xs : List V} {ds : List PyData} (h : H p = some (.lst xs)) (a : DzAll true H xs ds) (ok : ∀ d ∈ ds, oddOk d = true) (at' : ∀ d ∈ ds, atomD d = true) (l : ds.length ≤ 20) (l4 : ds.length ≠ 4) : Good H (.ref p) := by
  refine ⟨false, .list ds, .lst h (fun z => by cases z) (DzAll.weak a), fun z => ?_, rfl, show_odd ok, ?_, ?_, by show ((ds.length != 4) && noboxAll ds) = true; rw [odd_noboxAll ok, Bool.and_true]; simpa using l4⟩
  · have e : (PyData.list ds).hasDict = PyData.hasDictAll ds := by simp only [PyData.hasDict]
    rw [e, atom_dict at'] at z
    cases z
  · show PyData.depthAll ds + 1 ≤ 60
    have := depth_odd ok
    omega
  · have h1 := len_list ds
    have h2 := sum_odd ok
    have h3 : ds.length * 2002 ≤ 20 * 2002 := Nat.mul_le_mul_right _ l
    omega
theorem good_atom {H : Hp} {v : V} {d : PyData} (h : Dz true H v d) (ok : oddOk d = true) (a : atomD d = true) : Good H v := by
  obtain ⟨h1, h2, h3, h4⟩ := oddOk_of ok
  exact ⟨true, d, h, fun _ => rfl, (by cases d <;> first | exact h1 | rfl | cases a), h2, by omega, by omega, odd_nobox ok⟩
theorem Good.but {H H2 : Hp} {b : Addr} {bs : List V} (hb : H b = some (.lst bs)) (h4 : bs.length = 4) (t : But b H H2) {v : V} (h : Good H v) : Good H2 v := by
  obtain ⟨g, d, a, h1, h2, h3, h5, h6, h7⟩ := h
  exact ⟨g, d, Dz.but hb h4 t a h7, h1, h2, h3, h5, h6, h7⟩
/-- a tuple, or a dict, of one tuple -/
theorem good_tup1 {H : Hp} {p r : Addr} {xs : List V} {ds : List PyData} (h : H p = some (.tup xs)) (a : DzAll true H xs ds) (ok : ∀ d ∈ ds, oddOk d = true) (l : ds.length ≤ 20) (hr : H r = some (.tup [.ref p])) : Good H (.ref r) := by
  have h1 := len_tuple ds
  have h2 := sum_odd ok
  have h3 : ds.length * 2002 ≤ 20 * 2002 := Nat.mul_le_mul_right _ l
  have hd := depth_odd ok
  refine ⟨true, .tuple [.tuple ds], .tup hr (.cons (.tup h a) .nil), fun _ => rfl, rfl, ?_, ?_, ?_, by show (noboxAll ds && true) = true; rw [odd_noboxAll ok]; rfl⟩
  · show (PyData.showableAll ds && true) = true
    rw [show_odd ok]
    rfl
  · show max (PyData.depthAll ds + 1) 0 + 1 ≤ 60
    omega
  · have h4 := len_tuple [.tuple ds]
    rw [List.map_cons, List.map_nil, List.sum_cons, List.sum_nil] at h4
    omega
theorem good_dic1 {H : Hp} {p r : Addr} {xs : List V} {ds : List PyData} (h : H p = some (.tup xs)) (a : DzAll true H xs ds) (ok : ∀ d ∈ ds, oddOk d = true) (l : ds.length ≤ 20) (hr : H r = some (.dK [(.inr "a", .ref p)])) : Good H (.ref r) := by
  have h1 := len_tuple ds
  have h2 := sum_odd ok
  have h3 : ds.length * 2002 ≤ 20 * 2002 := Nat.mul_le_mul_right _ l
  have hd := depth_odd ok
  refine ⟨true, .dict [(.str "a", .tuple ds)], .dic hr (.cons (k := .inr "a") (.tup h a) .nil), fun _ => rfl, rfl, ?_, ?_, ?_, by show (noboxAll ds && true) = true; rw [odd_noboxAll ok]; rfl⟩
  · show (PyData.showable (.str "a") && PyData.showableAll ds && true) = true
    rw [show_odd ok]
    rfl
  · show _ ≤ 60
    simp only [PyData.depth, PyData.depthKv]
    omega
  · have e : (PyData.dict [(.str "a", .tuple ds)]).shown = dictText [reprText "a" ++ ": " ++ (PyData.tuple ds).shown] := by
      simp only [PyData.shown, PyData.shownKv]
    rw [e]
    unfold dictText
    rw [strLen_append, strLen_append]
    show _ + (reprText "a" ++ ": " ++ (PyData.tuple ds).shown).length + _ ≤ _
    rw [strLen_append, strLen_append]
    have e1 : ("{" : Str).length = 1 := rfl
    have e2 : ("}" : Str).length = 1 := rfl
    have e3 : (": " : Str).length = 2 := rfl
    have e4 : (reprText "a").length = 3 := by decide +kernel
    omega
end M3

/-! M10: things that are no texts with a frame, and what is shown of them. -/
namespace M10
open PySem PySem.Spec PyProof.Rows L2 Z SX M9 M3

def Vd (H : Hp) (v : V) (d : PyData) : Prop := ∃ g, Dz g H v d
theorem Vd.kind {K : PySem.W.Frag} {H : Hp} {v : V} {d : PyData} (h : Vd H v d) : KindV K H v (kindD d) := by
  obtain ⟨g, h⟩ := h
  exact Dz.kind h
theorem Vd.int {H : Hp} {v : V} {i : Int} (h : Vd H v (.int i)) : v = .int i := by
  obtain ⟨g, h⟩ := h
  cases h
  rfl
theorem Vd.str {H : Hp} {v : V} {x : Str} (h : Vd H v (.str x)) : v = .str x := by
  obtain ⟨g, h⟩ := h
  cases h
  rfl
theorem Vd.same {H H2 : Hp} {v : V} {d : PyData} (h : Vd H v d) (s : Same H H2) : Vd H2 v d := by
  obtain ⟨g, h⟩ := h
  exact ⟨g, Dz.same s h⟩
def txt : PyData → Bool
  | .str x => asciiS x && decide (x.length ≤ 1000000)
  | _ => true
def framD : PyData → Bool
  | .str x => prS x && decide (x.length ≤ 80000)
  | _ => false
def cntD : PyData → Bool
  | .int i => decide (0 ≤ i)
  | _ => false
theorem prS_of {l : List Nat} (h : Pr l) : prS (S l) = true := by
  unfold prS
  rw [cps_S, List.all_eq_true]
  intro c hc
  simpa using h c hc
theorem asc_of {l : List Nat} (h : ∀ c ∈ l, c < 128) : asciiS (S l) = true := by
  unfold asciiS
  rw [cps_S, List.all_eq_true]
  intro c hc
  exact decide_eq_true (h c hc)
theorem lt_pr {l : List Nat} (h : Pr l) : ∀ c ∈ l, c < 128 := fun c hc => by
  have := h c hc
  omega
theorem txt_S {l : List Nat} (h : ∀ c ∈ l, c < 128) (hl : l.length ≤ 1000000) : txt (.str (S l)) = true := by
  show (asciiS (S l) && decide ((S l).length ≤ 1000000)) = true
  rw [asc_of h, length_S, decide_eq_true hl]
  rfl
theorem pr_prS {x : Str} (h : prS x = true) : Pr x.cps.toList := fun c hc => by simpa using (List.all_eq_true.mp h) c hc
theorem S_cps (x : Str) : x = S x.cps.toList := by
  cases x with
  | mk a => rfl
/-- a text with a frame; a thing that has none; a thing of other signs, or no text -/
def OkI (x : V) : Prop := ∃ l, x = .str (S l) ∧ Pr l ∧ l.length ≤ 80000
def BadI (H : Hp) (x : V) : Prop := ∃ d, Vd H x d ∧ txt d = true ∧ framD d = false
def BadS (H : Hp) (x : V) : Prop := ∃ d, Vd H x d ∧ txt d = true ∧ signsD d = false
theorem BadS.i {H : Hp} {x : V} (h : BadS H x) : BadI H x := by
  obtain ⟨d, a, b, c⟩ := h
  refine ⟨d, a, b, ?_⟩
  cases d with
  | str z =>
    have c : prS z = false := c
    show (prS z && _) = false
    rw [c]
    rfl
  | _ => rfl
theorem BadI.same {H H2 : Hp} {x : V} (h : BadI H x) (s : Same H H2) : BadI H2 x := by
  obtain ⟨d, a, b⟩ := h
  exact ⟨d, a.same s, b⟩
theorem BadS.same {H H2 : Hp} {x : V} (h : BadS H x) (s : Same H H2) : BadS H2 x := by
  obtain ⟨d, a, b⟩ := h
  exact ⟨d, a.same s, b⟩
theorem _root_.Z.KindV.same {K : PySem.W.Frag} {H H2 : Hp} {x : V} {k : String} (h : KindV K H x k) (s : Same H H2) : KindV K H2 x k := by
  unfold KindV at h ⊢
  split at h
  · exact h
  · exact h
  · exact h
  · exact h
  · rcases h with ⟨e, xs, h⟩ | ⟨e, xs, h⟩ | ⟨e, ⟨kvs, h⟩ | ⟨kvs, h⟩⟩
    · exact .inl ⟨e, xs, sqL_same s h⟩
    · exact .inr (.inl ⟨e, xs, sqT_same s h⟩)
    · exact .inr (.inr ⟨e, .inl ⟨kvs, s _ _ h⟩⟩)
    · exact .inr (.inr ⟨e, .inr ⟨kvs, s _ _ h⟩⟩)
  · exact h.elim
/-- no list and no tuple -/
def NoL (K : PySem.W.Frag) (H : Hp) (v : V) : Prop := ∃ k, KindV K H v k ∧ (isK k "list" || isK k "tuple") = false
theorem NoL.same {K : PySem.W.Frag} {H H2 : Hp} {v : V} (h : NoL K H v) (s : Same H H2) : NoL K H2 v := by
  obtain ⟨k, a, b⟩ := h
  exact ⟨k, a.same s, b⟩
/-- a list or tuple: good texts, then a thing that has no frame -/
def BadL (K : PySem.W.Frag) (H : Hp) (v x : V) : Prop := ∃ a pre post, v = .ref a ∧ (SqL K H a (strsV pre ++ x :: post) ∨ SqT K H a (strsV pre ++ x :: post)) ∧ (∀ l ∈ pre, Pr l ∧ l.length ≤ 80000) ∧ BadI H x
theorem BadL.same {K : PySem.W.Frag} {H H2 : Hp} {v x : V} (h : BadL K H v x) (s : Same H H2) : BadL K H2 v x := by
  obtain ⟨a, pre, post, e, c, d, b⟩ := h
  exact ⟨a, pre, post, e, c.imp (sqL_same s) (sqT_same s), d, b.same s⟩
/-- .. good texts alone -/
def OkL (K : PySem.W.Frag) (H : Hp) (v : V) (ls : List (List Nat)) : Prop := ∃ a, v = .ref a ∧ (SqL K H a (strsV ls) ∨ SqT K H a (strsV ls)) ∧ ∀ l ∈ ls, Pr l ∧ l.length ≤ 80000
theorem OkL.same {K : PySem.W.Frag} {H H2 : Hp} {v : V} {ls : List (List Nat)} (h : OkL K H v ls) (s : Same H H2) : OkL K H2 v ls := by
  obtain ⟨a, e, c, d⟩ := h
  exact ⟨a, e, c.imp (sqL_same s) (sqT_same s), d⟩
theorem strs_pre {pre : List (List Nat)} {x y : V} {post : List V} {i : Nat} (h : (strsV pre ++ x :: post)[i]? = some y) (hi : i ≤ pre.length) : (i < pre.length ∧ ∃ l ∈ pre, y = .str (S l)) ∨ (i = pre.length ∧ y = x) := by
  rcases Nat.lt_or_ge i pre.length with lt | ge
  · left
    rw [List.getElem?_append_left (by rw [strsV_len]; exact lt)] at h
    obtain ⟨l, _, e, hm⟩ := strsV_at h
    exact ⟨lt, l, hm, e⟩
  · right
    have e : i = pre.length := by omega
    subst e
    rw [List.getElem?_append_right (by rw [strsV_len]; exact Nat.le_refl _), strsV_len, Nat.sub_self] at h
    exact ⟨rfl, (Option.some.inj h).symm⟩

/-! ### things -/
mutual
theorem Dz.atom {g g' : Bool} {H H2 : Hp} : ∀ {v : V} {d : PyData}, Dz g H v d → atomD d = true → Dz g' H2 v d
  | _, _, .non, _ => .non
  | _, _, .bl b, _ => .bl b
  | _, _, .int i, _ => .int i
  | _, _, .str x, _ => .str x
  | _, _, .lst _ _ _, z => by cases z
  | _, _, .tup _ _, z => by cases z
  | _, _, .dic _ _, z => by cases z
theorem DzAll.atom {g g' : Bool} {H H2 : Hp} : ∀ {vs : List V} {ds : List PyData}, DzAll g H vs ds → (∀ d ∈ ds, atomD d = true) → DzAll g' H2 vs ds
  | _, _, .nil, _ => .nil
  | _, _, .cons h t, z => .cons (Dz.atom h (z _ List.mem_cons_self)) (DzAll.atom t fun d hd => z d (List.mem_cons_of_mem _ hd))
end
inductive Tg (H : Hp) : V → PyData → Prop
  | flat {v : V} {d : PyData} : Dz true H v d → atomD d = true → Tg H v d
  | tup {a : Addr} {xs : List V} {ds : List PyData} : H a = some (.tup xs) → DzAll true H xs ds → (∀ d ∈ ds, atomD d = true) → Tg H (.ref a) (.tuple ds)
  | lst {a : Addr} {xs : List V} {ds : List PyData} : H a = some (.lst xs) → a ≠ sysModules → DzAll true H xs ds → (∀ d ∈ ds, atomD d = true) → Tg H (.ref a) (.list ds)
  | dic {a : Addr} : H a = some (.dK []) → Tg H (.ref a) (.dict [])
theorem Tg.dz {H : Hp} {v : V} {d : PyData} (h : Tg H v d) : Dz true H v d := by
  cases h with
  | flat h _ => exact h
  | tup h a _ => exact .tup h a
  | lst h n a _ => exact .lst h (fun _ => n) a
  | dic h => exact .dic h .nil
theorem Tg.vd {H : Hp} {v : V} {d : PyData} (h : Tg H v d) : Vd H v d := ⟨true, h.dz⟩
theorem Tg.same {H H2 : Hp} {v : V} {d : PyData} (h : Tg H v d) (s : Same H H2) : Tg H2 v d := by
  cases h with
  | flat h a => exact .flat (Dz.same s h) a
  | tup h a z => exact .tup (s _ _ h) (DzAll.same s a) z
  | lst h n a z => exact .lst (s _ _ h) n (DzAll.same s a) z
  | dic h => exact .dic (s _ _ h)
theorem Tg.but {H H2 : Hp} {b : Addr} {bs : List V} (hb : H b = some (.lst bs)) (h4 : bs.length = 4) (t : But b H H2) {v : V} {d : PyData} (h : Tg H v d) (k : nobox d = true) : Tg H2 v d := by
  have full := Dz.but hb h4 t h.dz k
  cases h with
  | flat h a => exact .flat full a
  | tup h a z => exact .tup (t _ _ (fun e => by rw [e, hb] at h; cases h) h) (DzAll.atom a z) z
  | @lst p xs ds h n a z =>
    cases full with
    | lst h2 _ a2 =>
      have e : p ≠ b := fun e => by
        have k : ((ds.length != 4) && noboxAll ds) = true := k
        rw [Bool.and_eq_true] at k
        rw [e, hb] at h
        have := DzAll.len a
        cases h
        exact not4 k.1 (by omega)
      exact .lst (t _ _ e h) n (DzAll.atom a z) z
  | dic h => exact .dic (t _ _ (fun e => by rw [e, hb] at h; cases h) h)

/-! ### how long what is shown is -/
structure Sw (k B : Nat) (d : PyData) : Prop where
  sh : d.showable = true
  dp : d.depth ≤ k
  ln : d.shown.length ≤ B
theorem Sw.mono {j k A B : Nat} {d : PyData} (h : Sw j A d) (a : j ≤ k) (b : A ≤ B) : Sw k B d := ⟨h.sh, Nat.le_trans h.dp a, Nat.le_trans h.ln b⟩
theorem sw_odd {d : PyData} (h : oddOk d = true) : Sw 3 2000 d := by
  obtain ⟨_, b, c, e⟩ := oddOk_of h
  exact ⟨b, c, e⟩
theorem sw_all {k B : Nat} : ∀ {ds : List PyData}, (∀ d ∈ ds, Sw k B d) → PyData.showableAll ds = true ∧ PyData.depthAll ds ≤ k ∧ (ds.map fun d => d.shown.length + 2).sum ≤ ds.length * (B + 2)
  | [], _ => ⟨rfl, Nat.zero_le _, Nat.zero_le _⟩
  | d :: r, h => by
    obtain ⟨a, b, c⟩ := sw_all fun x hx => h x (List.mem_cons_of_mem _ hx)
    have e := h d List.mem_cons_self
    refine ⟨?_, ?_, ?_⟩
    · show (d.showable && PyData.showableAll r) = true
      rw [e.sh, a]
      rfl
    · show max d.depth (PyData.depthAll r) ≤ k
      have := e.dp
      omega
    · have := e.ln
      rw [List.map_cons, List.sum_cons, List.length_cons, Nat.succ_mul]
      omega
theorem Sw.list {k B m : Nat} {ds : List PyData} (h : ∀ d ∈ ds, Sw k B d) (hm : ds.length ≤ m) : Sw (k + 1) (4 + m * (B + 2)) (.list ds) := by
  obtain ⟨a, b, c⟩ := sw_all h
  refine ⟨a, ?_, ?_⟩
  · show PyData.depthAll ds + 1 ≤ k + 1
    omega
  · have := len_list ds
    have e : ds.length * (B + 2) ≤ m * (B + 2) := Nat.mul_le_mul_right _ hm
    omega
theorem Sw.tuple {k B m : Nat} {ds : List PyData} (h : ∀ d ∈ ds, Sw k B d) (hm : ds.length ≤ m) : Sw (k + 1) (4 + m * (B + 2)) (.tuple ds) := by
  obtain ⟨a, b, c⟩ := sw_all h
  refine ⟨a, ?_, ?_⟩
  · show PyData.depthAll ds + 1 ≤ k + 1
    omega
  · have := len_tuple ds
    have e : ds.length * (B + 2) ≤ m * (B + 2) := Nat.mul_le_mul_right _ hm
    omega
/-- repr of data -/
theorem show_of {H : Hp} {v : V} {d : PyData} {Q : VK} {k B : Nat} (h : Dz true H v d) (s : Sw k B d) (hk : k ≤ 60) (hB : B ≤ 16000000) (q : Q (.str d.shown) H) : zRepr [v] H Q :=
  ⟨true, d, h, fun _ => rfl, s.sh, Nat.le_trans s.dp hk, sz (Nat.le_trans s.ln hB), q⟩
end M10

/-! M6: disks: names, texts, their tables as they lie in the abstract heap. -/
namespace M6
open PySem PySem.Spec PyProof.Rows L2 Z SX M9 M3 M10

/-! ### names and texts -/
def alf : List Nat := ("abcdefghijklmnopqrstuvwxyz0123456789-" : Str).cps.toList
def mrk : List Nat := [32, 33, 35, 36, 38, 39, 40, 41, 42, 43, 44, 45, 46, 47, 58, 59, 60, 61, 62, 63, 64, 91, 93, 94, 95, 96, 123, 124, 125, 126] ++ [34] ++ [92] ++ ("ABCDEFGHIJKLMNOPQRSTUVWXYZ" : Str).cps.toList ++ alf
def inAlf (c : Nat) : Bool := decide (c ∈ alf)
def inMrk (c : Nat) : Bool := decide (c ∈ mrk)
def nmS (x : Str) : Bool := decide (1 ≤ x.length) && decide (x.length ≤ 12) && x.cps.toList.all inAlf
def nmD : PyData → Bool
  | .str x => nmS x
  | _ => false
def mkS (x : Str) : Bool := decide (x.length ≠ 0) && x.cps.toList.all inMrk
def txD : PyData → Bool
  | .str x => mkS x
  | _ => false
/-- a text on which the law's judging and the program's meet -/
def txOk : PyData → Bool
  | .str x => asciiS x && decide (x.length ≤ 30) && (mkS x == (prS x && decide (x.length ≠ 0)))
  | _ => true
def nmOk : PyData → Bool
  | .str x => asciiS x && decide (x.length ≤ 30)
  | _ => true
theorem alf_pr : ∀ c ∈ alf, 32 ≤ c ∧ c ≤ 126 := pr_of (by decide +kernel)
theorem mrk_pr : ∀ c ∈ mrk, 32 ≤ c ∧ c ≤ 126 := pr_of (by decide +kernel)
theorem alf_mrk {c : Nat} (h : c ∈ alf) : c ∈ mrk := List.mem_append.mpr (.inr h)
theorem len_cps (x : Str) : x.cps.toList.length = x.length := by rw [Array.length_toList]; rfl
theorem nm_S {l : List Nat} (h : ∀ c ∈ l, c ∈ alf) (h1 : 1 ≤ l.length) (h2 : l.length ≤ 12) : nmS (S l) = true := by
  unfold nmS
  rw [length_S, cps_S, decide_eq_true h1, decide_eq_true h2, Bool.and_self, Bool.true_and, List.all_eq_true]
  exact fun c hc => decide_eq_true (h c hc)
theorem nm_of {x : Str} (h : nmS x = true) : 1 ≤ x.length ∧ x.length ≤ 12 ∧ ∀ c ∈ x.cps.toList, c ∈ alf := by
  unfold nmS at h
  simp only [Bool.and_eq_true, decide_eq_true_eq, List.all_eq_true] at h
  exact ⟨h.1.1, h.1.2, fun c hc => of_decide_eq_true (h.2 c hc)⟩
theorem mk_S {l : List Nat} (h : ∀ c ∈ l, c ∈ mrk) (h1 : 1 ≤ l.length) : mkS (S l) = true := by
  unfold mkS
  rw [length_S, cps_S, decide_eq_true (p := l.length ≠ 0) (by omega), Bool.true_and, List.all_eq_true]
  exact fun c hc => decide_eq_true (h c hc)
theorem mk_of {x : Str} (h : mkS x = true) : x.length ≠ 0 ∧ ∀ c ∈ x.cps.toList, c ∈ mrk := by
  unfold mkS at h
  simp only [Bool.and_eq_true, decide_eq_true_eq, List.all_eq_true] at h
  exact ⟨h.1, fun c hc => of_decide_eq_true (h.2 c hc)⟩
theorem tx_good {l : List Nat} (h : ∀ c ∈ l, c ∈ mrk) (h1 : 1 ≤ l.length) (h2 : l.length ≤ 30) : txOk (.str (S l)) = true ∧ txD (.str (S l)) = true := by
  have p : Pr l := fun c hc => mrk_pr c (h c hc)
  refine ⟨?_, mk_S h h1⟩
  show (asciiS (S l) && decide ((S l).length ≤ 30) && (mkS (S l) == (prS (S l) && decide ((S l).length ≠ 0)))) = true
  rw [asc_of (lt_pr p), length_S, decide_eq_true h2, mk_S h h1, prS_of p, decide_eq_true (p := l.length ≠ 0) (by omega)]
  rfl
theorem tx_bad {l : List Nat} {c : Nat} (h : ∀ c ∈ l, c < 128) (hc : c ∈ l) (b : c < 32) (h2 : l.length ≤ 30) : txOk (.str (S l)) = true ∧ txD (.str (S l)) = false := by
  have m : (l.all inMrk) = false := by
    rw [List.all_eq_false]
    exact ⟨c, hc, fun z => by have := mrk_pr c (of_decide_eq_true z); omega⟩
  have m2 : mkS (S l) = false := by
    unfold mkS
    rw [cps_S, m, Bool.and_false]
  have p : prS (S l) = false := by
    unfold prS
    rw [cps_S, List.all_eq_false]
    exact ⟨c, hc, by simp; omega⟩
  refine ⟨?_, m2⟩
  show (asciiS (S l) && decide ((S l).length ≤ 30) && (mkS (S l) == (prS (S l) && decide ((S l).length ≠ 0)))) = true
  rw [asc_of h, length_S, decide_eq_true h2, m2, p]
  rfl
theorem nm_ok {l : List Nat} (h : ∀ c ∈ l, c < 128) (h2 : l.length ≤ 30) : nmOk (.str (S l)) = true := by
  show (asciiS (S l) && decide ((S l).length ≤ 30)) = true
  rw [asc_of h, length_S, decide_eq_true h2]
  rfl

/-! ### disks as they are thought -/
structure Ds where
  names : List Str
  txt : Str → Str
  sy : Str → Nat
def Ds.put (D : Ds) (n t : Str) (m : Nat) : Ds := ⟨if n ∈ D.names then D.names else D.names ++ [n], fun j => if j = n then t else D.txt j, fun j => if j = n then m else D.sy j⟩
def Ds.drop (D : Ds) (n : Str) : Ds := ⟨D.names.filter fun j => decide (j ≠ n), D.txt, D.sy⟩
def Ds.tx (D : Ds) (n : Str) : Str := if n ∈ D.names then D.txt n else ""
def Ds.mt (D : Ds) (n : Str) : Nat := if n ∈ D.names then D.sy n else 0
theorem Ds.tx_in {D : Ds} {n : Str} (h : n ∈ D.names) : D.tx n = D.txt n := if_pos h
theorem Ds.mt_in {D : Ds} {n : Str} (h : n ∈ D.names) : D.mt n = D.sy n := if_pos h
/-- a table of the names -/
def Tb (kvs : List (Key × V)) (ns : List Str) (g : Str → V) : Prop := kvs.map (·.1) = ns.map Sum.inr ∧ ∀ j : Str, valV kvs (Sum.inr j) = if j ∈ ns then some (g j) else none
theorem Tb.len {kvs : List (Key × V)} {ns : List Str} {g : Str → V} (h : Tb kvs ns g) : kvs.length = ns.length := by
  have := congrArg List.length h.1
  simpa using this
theorem Tb.at {kvs : List (Key × V)} {ns : List Str} {g : Str → V} (h : Tb kvs ns g) {n : Str} (i : n ∈ ns) : valV kvs (Sum.inr n) = some (g n) := by rw [h.2, if_pos i]
theorem Tb.no {kvs : List (Key × V)} {ns : List Str} {g : Str → V} (h : Tb kvs ns g) {n : Str} (i : n ∉ ns) : valV kvs (Sum.inr n) = none := by rw [h.2, if_neg i]
theorem Tb.has {kvs : List (Key × V)} {ns : List Str} {g : Str → V} (h : Tb kvs ns g) (n : Str) : (valV kvs (Sum.inr n)).isSome = decide (n ∈ ns) := by
  rw [h.2]
  by_cases i : n ∈ ns
  · rw [if_pos i, decide_eq_true i]; rfl
  · rw [if_neg i, decide_eq_false i]; rfl
theorem Tb.nil {g : Str → V} : Tb [] [] g := ⟨rfl, fun j => by rw [if_neg (by simp)]; rfl⟩
theorem put_keys {kvs : List (Key × V)} {k : Key} {v : V} : (k ∈ kvs.map (·.1) → (putK kvs k v).map (·.1) = kvs.map (·.1)) ∧ (k ∉ kvs.map (·.1) → (putK kvs k v).map (·.1) = kvs.map (·.1) ++ [k]) := by
  unfold putK
  by_cases a : (kvs.any fun kv => decide (kv.1 = k)) = true
  · have i : k ∈ kvs.map (·.1) := by
      obtain ⟨p, hp, e⟩ := List.any_eq_true.mp a
      exact List.mem_map.mpr ⟨p, hp, of_decide_eq_true e⟩
    refine ⟨fun _ => ?_, fun z => (z i).elim⟩
    rw [if_pos a, List.map_map]
    refine List.map_congr_left fun p _ => ?_
    show (if p.1 = k then (p.1, v) else p).1 = p.1
    split <;> rfl
  · have i : k ∉ kvs.map (·.1) := fun z => a (by
      obtain ⟨p, hp, e⟩ := List.mem_map.mp z
      exact List.any_eq_true.mpr ⟨p, hp, decide_eq_true e⟩)
    refine ⟨fun z => (i z).elim, fun _ => ?_⟩
    rw [if_neg a, List.map_append]
    rfl
theorem Tb.put {kvs : List (Key × V)} {ns : List Str} {g : Str → V} (h : Tb kvs ns g) (n : Str) (v : V) : Tb (putK kvs (Sum.inr n) v) (if n ∈ ns then ns else ns ++ [n]) (fun j => if j = n then v else g j) := by
  have mem : (Sum.inr n ∈ kvs.map (·.1)) ↔ n ∈ ns := by
    rw [h.1, List.mem_map]
    constructor
    · rintro ⟨a, ha, e⟩
      cases e
      exact ha
    · exact fun z => ⟨n, z, rfl⟩
  refine ⟨?_, fun j => ?_⟩
  · by_cases i : n ∈ ns
    · rw [put_keys.1 (mem.mpr i), if_pos i, h.1]
    · rw [put_keys.2 (fun z => i (mem.mp z)), if_neg i, h.1, List.map_append]
      rfl
  · rw [valV_put, h.2]
    have e : ((Sum.inr j : Key) = Sum.inr n) ↔ j = n := ⟨fun z => by cases z; rfl, fun z => by rw [z]⟩
    by_cases q : j = n
    · rw [if_pos (e.mpr q)]
      subst q
      rw [if_pos (by split <;> simp [*])]
      show some v = some (if j = j then v else g j)
      rw [if_pos rfl]
    · rw [if_neg (fun z => q (e.mp z))]
      show (if j ∈ ns then some (g j) else none) = if j ∈ (if n ∈ ns then ns else ns ++ [n]) then some (if j = n then v else g j) else none
      rw [if_neg (c := j = n) q]
      by_cases i : n ∈ ns
      · rw [if_pos i]
      · rw [if_neg i]
        by_cases c : j ∈ ns
        · rw [if_pos c, if_pos (List.mem_append.mpr (.inl c))]
        · rw [if_neg c, if_neg (fun z => (List.mem_append.mp z).elim c fun w => q (List.mem_singleton.mp w))]
theorem valV_drop (k j : Key) : ∀ kvs : List (Key × V), valV (dropK kvs k) j = if j = k then none else valV kvs j
  | [] => by split <;> rfl
  | p :: r => by
    have ih := valV_drop k j r
    by_cases a : p.1 = k
    · rw [show dropK (p :: r) k = dropK r k by simp [dropK, a], ih]
      by_cases q : j = k
      · rw [if_pos q, if_pos q]
      · rw [if_neg q, if_neg q, valV_neg (fun z => q (z.symm.trans a))]
    · rw [show dropK (p :: r) k = p :: dropK r k by simp [dropK, a]]
      by_cases c : p.1 = j
      · rw [valV_pos c, valV_pos c, if_neg (fun z => a (c.trans z))]
      · rw [valV_neg c, valV_neg c, ih]
theorem Tb.drop {kvs : List (Key × V)} {ns : List Str} {g : Str → V} (h : Tb kvs ns g) (n : Str) : Tb (dropK kvs (Sum.inr n)) (ns.filter fun j => decide (j ≠ n)) g := by
  refine ⟨?_, fun j => ?_⟩
  · have gen : ∀ (kvs : List (Key × V)) (ns : List Str), kvs.map (·.1) = ns.map Sum.inr → (dropK kvs (Sum.inr n)).map (·.1) = (ns.filter fun j => decide (j ≠ n)).map Sum.inr := by
      intro kvs
      induction kvs with
      | nil =>
        intro ns e
        cases ns with
        | nil => rfl
        | cons a r => cases e
      | cons p r ih =>
        intro ns e
        cases ns with
        | nil => cases e
        | cons a t =>
          have e1 : p.1 = Sum.inr a := (List.cons.inj e).1
          have e2 := ih t (List.cons.inj e).2
          by_cases q : a = n
          · have q' : p.1 = (Sum.inr n : Key) := by rw [e1, q]
            rw [show dropK (p :: r) (Sum.inr n) = dropK r (Sum.inr n) by simp [dropK, q'], e2, List.filter_cons, if_neg (by simp [q])]
          · have q' : ¬ p.1 = (Sum.inr n : Key) := fun z => q (by rw [e1] at z; cases z; rfl)
            rw [show dropK (p :: r) (Sum.inr n) = p :: dropK r (Sum.inr n) by simp [dropK, q'], List.map_cons, e2, e1, List.filter_cons, if_pos (by simp [q])]
            rfl
    exact gen kvs ns h.1
  · rw [valV_drop, h.2]
    by_cases q : j = n
    · rw [if_pos (by rw [q]), if_neg (fun z => by simpa [q] using (List.mem_filter.mp z).2)]
    · rw [if_neg (fun z => q (by cases z; rfl))]
      by_cases i : j ∈ ns
      · rw [if_pos i, if_pos (List.mem_filter.mpr ⟨i, by simpa using q⟩)]
      · rw [if_neg i, if_neg (fun z => i (List.mem_filter.mp z).1)]
theorem Tb.ext {kvs : List (Key × V)} {ns : List Str} {g g' : Str → V} (h : Tb kvs ns g) (e : ∀ j, g j = g' j) : Tb kvs ns g' := ⟨h.1, fun j => by rw [h.2, e]⟩
theorem Tb.mem {kvs : List (Key × V)} {ns : List Str} {g : Str → V} (h : Tb kvs ns g) : kvs.map (fun kv => kV kv.1) = ns.map V.str := by
  have : kvs.map (fun kv => kV kv.1) = (kvs.map (·.1)).map kV := by rw [List.map_map]; rfl
  rw [this, h.1, List.map_map]
  rfl

/-! ### what stays -/
/-- all stays but these -/
def Kp (l : List Addr) (H H2 : Hp) : Prop := ∀ b o, b ∉ l → H b = some o → H2 b = some o
theorem Kp.refl {l : List Addr} {H : Hp} : Kp l H H := fun _ _ _ h => h
theorem Kp.same {l : List Addr} {H H2 : Hp} (s : Same H H2) : Kp l H H2 := fun b o _ h => s b o h
theorem Kp.trans {l : List Addr} {H H1 H2 : Hp} (x : Kp l H H1) (y : Kp l H1 H2) : Kp l H H2 := fun b o n h => y b o n (x b o n h)
theorem Kp.nw {l : List Addr} {H H1 H2 : Hp} {p : Addr} {o : HO} (x : Kp l H H1) (n : Nw H1 p o H2) : Kp l H H2 := x.trans (.same n.same)
theorem Kp.wr {l : List Addr} {H H1 H2 : Hp} {p : Addr} {o : HO} (x : Kp l H H1) (i : p ∈ l) (n : Wr H1 p o H2) : Kp l H H2 := fun b u e h => n.keep (fun z => e (z ▸ i)) (x b u e h)
theorem Kp.sub {l m : List Addr} {H H1 : Hp} (x : Kp l H H1) (i : ∀ b ∈ l, b ∈ m) : Kp m H H1 := fun b o n h => x b o (fun z => n (i b z)) h
theorem Kp.but {b : Addr} {H H1 : Hp} (x : But b H H1) : Kp [b] H H1 := fun a o n h => x a o (fun z => n (by rw [z]; exact List.mem_singleton.mpr rfl)) h
/-- what is written is fresh, or among these -/
theorem Kp.wrNew {l : List Addr} {H H1 H2 : Hp} {p : Addr} {o : HO} (x : Kp l H H1) (f : H p = none) (n : Wr H1 p o H2) : Kp l H H2 := fun b u e h => n.keep (ne_of_none h f) (x b u e h)
theorem Kp.at {l : List Addr} {H H1 : Hp} {b : Addr} {o : HO} (x : Kp l H H1) (n : b ∉ l) (h : H b = some o) : H1 b = some o := x b o n h
theorem ne_obj {H : Hp} {a b : Addr} {o u : HO} (h : H a = some o) (k : H b = some u) (ne : o ≠ u) : a ≠ b := fun z => by
  rw [z, k] at h
  exact ne (Option.some.inj h).symm

/-! ### disks and the law's files in the heap -/
def flds (f m : Addr) (c : Int) (lf : V) : List (Str × V) := [("files", .ref f), ("marks", .ref m), ("calls", .int c), ("left", lf)]
def DiskAt (K : PySem.W.Frag) (H : Hp) (a f m : Addr) (D : Ds) (c : Int) (lf : V) : Prop := f ≠ m ∧ ∃ C dx kf km, clsAt K "Disk" C ∧ H a = some (.ins C dx (flds f m c lf)) ∧ H f = some (.dK kf) ∧ H m = some (.dK km) ∧
  Tb kf D.names (fun j => .str (D.txt j)) ∧ Tb km D.names (fun j => .int (D.sy j : Nat))
theorem DiskAt.kp {K : PySem.W.Frag} {H H2 : Hp} {a f m : Addr} {D : Ds} {c : Int} {lf : V} {l : List Addr} (h : DiskAt K H a f m D c lf) (k : Kp l H H2) (na : a ∉ l) (nf : f ∉ l) (nm : m ∉ l) : DiskAt K H2 a f m D c lf := by
  obtain ⟨n, C, dx, kf, km, hc, h1, h2, h3, t⟩ := h
  exact ⟨n, C, dx, kf, km, hc, k.at na h1, k.at nf h2, k.at nm h3, t⟩
theorem DiskAt.same {K : PySem.W.Frag} {H H2 : Hp} {a f m : Addr} {D : Ds} {c : Int} {lf : V} (h : DiskAt K H a f m D c lf) (s : Same H H2) : DiskAt K H2 a f m D c lf :=
  h.kp (Kp.same (l := []) s) List.not_mem_nil List.not_mem_nil List.not_mem_nil
/-- what stands at a disk's addresses is no list -/
theorem DiskAt.nolist {K : PySem.W.Frag} {H : Hp} {a f m : Addr} {D : Ds} {c : Int} {lf : V} (h : DiskAt K H a f m D c lf) : ∀ b ∈ [a, f, m], ∀ xs, H b ≠ some (.lst xs) := by
  obtain ⟨n, C, dx, kf, km, hc, h1, h2, h3, t⟩ := h
  intro b hb xs e
  simp only [List.mem_cons, List.not_mem_nil, or_false] at hb
  rcases hb with rfl | rfl | rfl
  · rw [h1] at e; cases e
  · rw [h2] at e; cases e
  · rw [h3] at e; cases e
/-- a disk stays where a list is written -/
theorem DiskAt.list {K : PySem.W.Frag} {H H2 : Hp} {a f m b : Addr} {D : Ds} {c : Int} {lf : V} {xs : List V} (h : DiskAt K H a f m D c lf) (e : H b = some (.lst xs)) (k : Kp [b] H H2) : DiskAt K H2 a f m D c lf := by
  have q := h.nolist
  exact h.kp k (fun z => q a (by simp) xs (by rw [List.mem_singleton.mp z]; exact e)) (fun z => q f (by simp) xs (by rw [List.mem_singleton.mp z]; exact e)) (fun z => q m (by simp) xs (by rw [List.mem_singleton.mp z]; exact e))
def LawAt (H : Hp) (L : Addr) (D : Ds) : Prop := ∃ (kvs : List (Key × V)) (adr : Str → Addr), H L = some (.dK kvs) ∧ Tb kvs D.names (fun j => .ref (adr j)) ∧ ∀ j ∈ D.names, H (adr j) = some (.lst [.str (D.txt j), .int (D.sy j : Nat)])
theorem LawAt.kp {H H2 : Hp} {L : Addr} {D : Ds} {l : List Addr} (h : LawAt H L D) (k : Kp l H H2) (nL : L ∉ l) (np : ∀ b ∈ l, ∀ t i, H b ≠ some (.lst [.str t, .int i])) : LawAt H2 L D := by
  obtain ⟨kvs, adr, h1, t, h2⟩ := h
  exact ⟨kvs, adr, k.at nL h1, t, fun j hj => k.at (fun z => np _ z _ _ (h2 j hj)) (h2 j hj)⟩
theorem LawAt.same {H H2 : Hp} {L : Addr} {D : Ds} (h : LawAt H L D) (s : Same H H2) : LawAt H2 L D := h.kp (Kp.same (l := []) s) List.not_mem_nil (fun _ z => by cases z)
theorem LawAt.dk {H : Hp} {L : Addr} {D : Ds} (h : LawAt H L D) : ∃ kvs, H L = some (.dK kvs) := by
  obtain ⟨kvs, adr, h1, _⟩ := h
  exact ⟨kvs, h1⟩

/-! ### what a call does -/
def act (i : Int) (D : Ds) (n t : Str) : Ds := if i < 2 then D.put n (D.tx n ++ t) (D.mt n) else if i < 4 then D.put n (D.txt n) (D.txt n).length else if i < 6 then D.drop n else D
def tell (i : Int) (D : Ds) (n : Str) : V := if i < 6 then .non else if i < 8 then .str (D.txt n) else .int (D.sy n : Nat)
def one (i : Int) : Int := if i < 6 then 1 else 0
/-- a disk within bounds, behind k calls -/
structure Dok (k : Nat) (D : Ds) : Prop where
  len : D.names.length ≤ k
  nm : ∀ j ∈ D.names, nmS j = true
  tx : ∀ j ∈ D.names, (D.txt j).length ≤ 30 * k
  sy : ∀ j ∈ D.names, D.sy j ≤ 30 * k
  ch : ∀ j ∈ D.names, ∀ c ∈ (D.txt j).cps.toList, c < 16 ^ 8
theorem Dok.mono {k l : Nat} {D : Ds} (h : Dok k D) (e : k ≤ l) : Dok l D := ⟨Nat.le_trans h.len e, h.nm, fun j hj => Nat.le_trans (h.tx j hj) (Nat.mul_le_mul_left _ e), fun j hj => Nat.le_trans (h.sy j hj) (Nat.mul_le_mul_left _ e), h.ch⟩
theorem strApp_len (a b : Str) : (a ++ b).length = a.length + b.length := strLen_append a b
theorem Dok.put {k : Nat} {D : Ds} (h : Dok k D) {n t : Str} {m : Nat} (hn : nmS n = true) (ht : t.length ≤ 30 * (k + 1)) (hm : m ≤ 30 * (k + 1)) (hc : ∀ c ∈ t.cps.toList, c < 16 ^ 8) : Dok (k + 1) (D.put n t m) := by
  have mem : ∀ j, j ∈ (D.put n t m).names → j = n ∨ j ∈ D.names := by
    intro j hj
    unfold Ds.put at hj
    dsimp only at hj
    split at hj
    · exact .inr hj
    · exact (List.mem_append.mp hj).elim .inr fun z => .inl (List.mem_singleton.mp z)
  refine ⟨?_, fun j hj => ?_, fun j hj => ?_, fun j hj => ?_, fun j hj => ?_⟩
  · have := h.len
    unfold Ds.put
    dsimp only
    split
    · omega
    · rw [List.length_append, List.length_singleton]; omega
  · rcases mem j hj with rfl | z
    · exact hn
    · exact h.nm j z
  · show (if j = n then t else D.txt j).length ≤ _
    rcases mem j hj with rfl | z
    · rw [if_pos rfl]; exact ht
    · have := h.tx j z
      split
      · exact ht
      · omega
  · show (if j = n then m else D.sy j) ≤ _
    rcases mem j hj with rfl | z
    · rw [if_pos rfl]; exact hm
    · have := h.sy j z
      split
      · exact hm
      · omega
  · show ∀ c ∈ (if j = n then t else D.txt j).cps.toList, c < 16 ^ 8
    rcases mem j hj with rfl | z
    · rw [if_pos rfl]; exact hc
    · split
      · exact hc
      · exact h.ch j z
theorem Dok.drop {k : Nat} {D : Ds} (h : Dok k D) (n : Str) : Dok k (D.drop n) := by
  have mem : ∀ j, j ∈ (D.drop n).names → j ∈ D.names := fun j hj => (List.mem_filter.mp hj).1
  exact ⟨Nat.le_trans (List.length_filter_le _ _) h.len, fun j hj => h.nm j (mem j hj), fun j hj => h.tx j (mem j hj), fun j hj => h.sy j (mem j hj), fun j hj => h.ch j (mem j hj)⟩
theorem Dok.act {k : Nat} {D : Ds} (h : Dok k D) {i : Int} {n t : Str} (hn : nmS n = true) (ht : i < 2 → t.length ≤ 30) (hc : i < 2 → ∀ c ∈ t.cps.toList, c < 16 ^ 8) (hi : 2 ≤ i → n ∈ D.names) : Dok (k + 1) (act i D n t) := by
  unfold M6.act
  have e0 : ("" : Str).length = 0 := by decide
  split
  · rename_i h2
    have ht := ht h2
    have hc := hc h2
    refine h.put hn ?_ ?_ ?_
    · rw [strApp_len]
      unfold Ds.tx
      split
      · have := h.tx n (by assumption); omega
      · rw [e0]; omega
    · unfold Ds.mt
      split
      · have := h.sy n (by assumption); omega
      · omega
    · intro x hx
      rw [show (D.tx n ++ t).cps.toList = (D.tx n).cps.toList ++ t.cps.toList from Array.toList_append, List.mem_append] at hx
      rcases hx with hx | hx
      · unfold Ds.tx at hx
        split at hx
        · exact h.ch n (by assumption) x hx
        · exact absurd hx (by rw [show ("" : Str).cps.toList = [] by decide]; simp)
      · exact hc x hx
  split
  · have := h.tx n (hi (by omega))
    exact h.put hn (by omega) (by omega) (h.ch n (hi (by omega)))
  split
  · exact (h.drop n).mono (by omega)
  · exact h.mono (by omega)
theorem Dok.nil : Dok 0 ⟨[], fun _ => "", fun _ => 0⟩ := ⟨Nat.le_refl _, fun _ h => (by cases h), fun _ h => (by cases h), fun _ h => (by cases h), fun _ h => (by cases h)⟩

/-! ### sorted lists of texts -/
theorem rising_pw : ∀ (p : Str) (l : List Str), risingS p l = true → (p :: l).Pairwise fun a b => ¬ b.cps.toList < a.cps.toList
  | p, [], _ => List.pairwise_singleton _ _
  | p, x :: r, h => by
    have h : (!ltCps x.cps.toList p.cps.toList && risingS x r) = true := h
    rw [Bool.and_eq_true, Bool.not_eq_true'] at h
    have ih := rising_pw x r h.2
    have h1 : ¬ x.cps.toList < p.cps.toList := by
      have := h.1
      rw [ltCps_eq] at this
      exact of_decide_eq_false this
    refine List.pairwise_cons.mpr ⟨fun y hy => ?_, ih⟩
    rcases List.mem_cons.mp hy with rfl | hy
    · exact h1
    · have h2 := (List.pairwise_cons.mp ih).1 y hy
      exact fun z => h1 (List.lt_of_le_of_lt (List.not_lt.mp h2) z)
theorem sorted_pw {l : List Str} (h : sortedS l = true) : l.Pairwise fun a b => ¬ b.cps.toList < a.cps.toList := by
  cases l with
  | nil => exact .nil
  | cons x r => exact rising_pw x r h
theorem str_ext {a b : Str} (h : a.cps.toList = b.cps.toList) : a = b := by
  cases a with
  | mk x =>
    cases b with
    | mk y => exact congrArg Str.mk (Array.toList_inj.mp h)
theorem sorted_one {l m : List Str} (p : l.Perm m) (h : sortedS l = true) (k : sortedS m = true) : l = m := by
  refine p.eq_of_pairwise ?_ (sorted_pw h) (sorted_pw k)
  intro a b _ _ h1 h2
  exact str_ext (List.le_antisymm (List.not_lt.mp h1) (List.not_lt.mp h2))

/-! ### lists of names as data -/
def namesD (ns : List Str) : PyData := .list (ns.map .str)
theorem dz_names {g : Bool} {H : Hp} : ∀ ns : List Str, DzAll g H (ns.map V.str) (ns.map .str)
  | [] => .nil
  | n :: r => .cons (.str n) (dz_names r)
theorem namesV {ns : List Str} : ns.map V.str = strsV (ns.map fun n => n.cps.toList) := by
  rw [strsV, List.map_map, List.map_map]
  refine List.map_congr_left fun n _ => ?_
  show V.str n = V.str (S n.cps.toList)
  rw [← S_cps]
theorem names_pr {ns : List Str} (h : ∀ n ∈ ns, nmS n = true) : ∀ l ∈ ns.map (fun n => n.cps.toList), Pr l := fun l hl => by
  obtain ⟨n, hn, rfl⟩ := List.mem_map.mp hl
  exact fun c hc => alf_pr c ((nm_of (h n hn)).2.2 c hc)
theorem eq_names {K : PySem.W.Frag} {H : Hp} {p q : Addr} {ns : List Str} (h : ∀ n ∈ ns, nmS n = true) (hp : SqL K H p (ns.map V.str)) (hq : SqL K H q (ns.map V.str)) :
    ∃ d e, Dp K H (.ref p) d ∧ Dp K H (.ref q) e ∧ SeqAt.shaped d = true ∧ SeqAt.shaped e = true ∧ PyData.eqv d e = true := by
  rw [namesV] at hp hq
  have s := shaped_strs (names_pr h)
  exact ⟨_, _, dp_strs hp, dp_strs hq, s, s, eqv_self s⟩
end M6

/-! M7: what a fall leaves. -/
namespace M7
open PySem PySem.Spec PyProof.Rows L2 Z SX M9 M3 M10 M6

/-- synced parts lie within their texts -/
def Sm (D : Ds) : Prop := ∀ n ∈ D.names, D.sy n ≤ (D.txt n).length
def nought : Ds := ⟨[], fun _ => "", fun _ => 0⟩
theorem sm_nought : Sm nought := fun _ h => by cases h
theorem put_mem {D : Ds} {n t : Str} {m : Nat} {j : Str} : j ∈ (D.put n t m).names ↔ j = n ∨ j ∈ D.names := by
  unfold Ds.put
  dsimp only
  split
  · exact ⟨.inr, fun h => h.elim (fun e => e ▸ (by assumption)) id⟩
  · rw [List.mem_append, List.mem_singleton]
    exact ⟨fun h => h.symm, fun h => h.symm⟩
theorem Sm.put {D : Ds} (h : Sm D) {n t : Str} {m : Nat} (hm : m ≤ t.length) : Sm (D.put n t m) := by
  intro j hj
  show (if j = n then m else D.sy j) ≤ (if j = n then t else D.txt j).length
  by_cases e : j = n
  · rw [if_pos e, if_pos e]
    exact hm
  · rw [if_neg e, if_neg e]
    exact h j ((put_mem.mp hj).elim (fun z => (e z).elim) id)
theorem Sm.mt {D : Ds} (h : Sm D) (n : Str) : D.mt n ≤ (D.tx n).length := by
  unfold Ds.mt Ds.tx
  split
  · exact h n (by assumption)
  · exact Nat.zero_le _
def kpI (D : Ds) (ks : List Int) (i : Nat) (n : Str) : Int := if ks.length = 0 then (D.sy n : Nat) else (D.sy n : Nat) + ks.getD (i % ks.length) 0 % (((D.txt n).length : Int) - (D.sy n : Nat) + 1)
theorem kpI_bounds {D : Ds} {ks : List Int} {i : Nat} {n : Str} (h : D.sy n ≤ (D.txt n).length) : (D.sy n : Int) ≤ kpI D ks i n ∧ kpI D ks i n ≤ ((D.txt n).length : Int) := by
  unfold kpI
  split
  · omega
  · have a := Int.emod_nonneg (ks.getD (i % ks.length) 0) (show ((D.txt n).length : Int) - (D.sy n : Nat) + 1 ≠ 0 by omega)
    have b := Int.emod_lt_of_pos (ks.getD (i % ks.length) 0) (show 0 < ((D.txt n).length : Int) - (D.sy n : Nat) + 1 by omega)
    omega
/-- one turn of a fall -/
def stp (D : Ds) (ks : List Int) (A : Ds) (i : Nat) (n : Str) : Ds := if 0 < kpI D ks i n then A.put n (cutS (D.txt n) none (some (kpI D ks i n))) (kpI D ks i n).toNat else A
def falN (D : Ds) (ks : List Int) (ys : List Str) : Nat → Ds
  | 0 => nought
  | i + 1 => stp D ks (falN D ks ys i) i (ys.getD i "")
theorem cut_len {x : Str} {c : Int} (h0 : 0 ≤ c) (h1 : c ≤ (x.length : Int)) : (cutS x none (some c)).length = c.toNat := by
  obtain ⟨k, rfl⟩ : ∃ k : Nat, c = (k : Int) := ⟨c.toNat, by omega⟩
  rw [S_cps x, cut_n, length_S, List.length_take, len_cps]
  omega
theorem cut_mem {x : Str} {c : Int} (h0 : 0 ≤ c) : ∀ y ∈ (cutS x none (some c)).cps.toList, y ∈ x.cps.toList := by
  obtain ⟨k, rfl⟩ : ∃ k : Nat, c = (k : Int) := ⟨c.toNat, by omega⟩
  rw [S_cps x, cut_n, cps_S, cps_S]
  exact fun y hy => List.mem_of_mem_take hy
theorem cut_all {x : Str} : cutS x none (some (x.length : Int)) = x := by
  rw [S_cps x, length_S, cut_n, List.take_length]
/-- what holds of each name behind i turns -/
theorem falN_in {D : Ds} {ks : List Int} {ys : List Str} (hy : ∀ n ∈ ys, n ∈ D.names) (sm : Sm D) : ∀ i, i ≤ ys.length → ∀ n ∈ (falN D ks ys i).names, n ∈ ys ∧ ∃ c : Int, 0 < c ∧ (D.sy n : Int) ≤ c ∧ c ≤ ((D.txt n).length : Int) ∧ (falN D ks ys i).txt n = cutS (D.txt n) none (some c) ∧ (falN D ks ys i).sy n = c.toNat
  | 0, _, n, hn => by cases hn
  | i + 1, hi, n, hn => by
    have ih := falN_in (ks := ks) hy sm i (by omega)
    unfold falN at hn ⊢
    unfold stp at hn ⊢
    have hm : ys.getD i "" ∈ ys := by
      rw [List.getD_eq_getElem?_getD, List.getElem?_eq_getElem (by omega)]
      exact List.getElem_mem _
    generalize ys.getD i "" = q at hn hm ⊢
    by_cases hc : 0 < kpI D ks i q
    · rw [if_pos hc] at hn ⊢
      obtain ⟨b1, b2⟩ := kpI_bounds (ks := ks) (i := i) (sm q (hy q hm))
      rcases put_mem.mp hn with rfl | hn
      · refine ⟨hm, kpI D ks i n, hc, b1, b2, ?_, ?_⟩
        · show (if n = n then _ else _) = _
          rw [if_pos rfl]
        · show (if n = n then _ else _) = _
          rw [if_pos rfl]
      · by_cases e : n = q
        · subst e
          refine ⟨hm, kpI D ks i n, hc, b1, b2, ?_, ?_⟩
          · show (if n = n then _ else _) = _
            rw [if_pos rfl]
          · show (if n = n then _ else _) = _
            rw [if_pos rfl]
        · obtain ⟨m, c, c0, c1, c2, c3, c4⟩ := ih n hn
          refine ⟨m, c, c0, c1, c2, ?_, ?_⟩
          · show (if n = q then _ else _) = _
            rw [if_neg e]
            exact c3
          · show (if n = q then _ else _) = _
            rw [if_neg e]
            exact c4
    · rw [if_neg hc] at hn ⊢
      exact ih n hn
theorem falN_out {D : Ds} {ks : List Int} {ys : List Str} : ∀ i j, j < i → 0 < kpI D ks j (ys.getD j "") → ys.getD j "" ∈ (falN D ks ys i).names
  | i + 1, j, hj, h => by
    unfold falN stp
    rcases Nat.lt_or_ge j i with hlt | hge
    · have ih := falN_out (D := D) (ks := ks) (ys := ys) i j hlt h
      split
      · exact put_mem.mpr (.inr ih)
      · exact ih
    · obtain rfl : j = i := by omega
      rw [if_pos h]
      exact put_mem.mpr (.inl rfl)
theorem falN_nodup {D : Ds} {ks : List Int} {ys : List Str} : ∀ i, (falN D ks ys i).names.Nodup
  | 0 => List.nodup_nil
  | i + 1 => by
    have ih := falN_nodup (D := D) (ks := ks) (ys := ys) i
    unfold falN stp
    split
    · unfold Ds.put
      dsimp only
      split
      · exact ih
      · rw [List.nodup_append]
        refine ⟨ih, by simp, fun a ha b hb e => ?_⟩
        rw [List.mem_singleton.mp hb] at e
        rw [e] at ha
        contradiction
    · exact ih
theorem falN_len {D : Ds} {ks : List Int} {ys : List Str} : ∀ i, (falN D ks ys i).names.length ≤ i
  | 0 => Nat.le_refl _
  | i + 1 => by
    have ih := falN_len (D := D) (ks := ks) (ys := ys) i
    unfold falN stp
    split
    · unfold Ds.put
      dsimp only
      split
      · omega
      · rw [List.length_append, List.length_singleton]
        omega
    · omega
/-- a disk within bounds stays so -/
theorem falN_ok {k : Nat} {D : Ds} {ks : List Int} {ys : List Str} (h : Dok k D) (sm : Sm D) (pm : ys.Perm D.names) {i : Nat} (hi : i ≤ ys.length) : Dok k (falN D ks ys i) ∧ Sm (falN D ks ys i) := by
  have hin := falN_in (ks := ks) (fun n hn => pm.mem_iff.mp hn) sm i hi
  have hl := pm.length_eq
  refine ⟨⟨?_, fun n hn => ?_, fun n hn => ?_, fun n hn => ?_, fun n hn => ?_⟩, fun n hn => ?_⟩
  · have := falN_len (D := D) (ks := ks) (ys := ys) i
    have := h.len
    omega
  · exact h.nm n (pm.mem_iff.mp (hin n hn).1)
  · obtain ⟨m, c, c0, c1, c2, c3, c4⟩ := hin n hn
    have := h.tx n (pm.mem_iff.mp m)
    rw [c3, cut_len (by omega) c2]
    omega
  · obtain ⟨m, c, c0, c1, c2, c3, c4⟩ := hin n hn
    have := h.tx n (pm.mem_iff.mp m)
    rw [c4]
    omega
  · obtain ⟨m, c, c0, c1, c2, c3, c4⟩ := hin n hn
    rw [c3]
    exact fun y hy => h.ch n (pm.mem_iff.mp m) y (cut_mem (by omega) y hy)
  · obtain ⟨m, c, c0, c1, c2, c3, c4⟩ := hin n hn
    rw [c3, c4, cut_len (by omega) c2]
    exact Nat.le_refl _
/-- all of what is left is synced -/
theorem falN_full {D : Ds} {ks : List Int} {ys : List Str} (hy : ∀ n ∈ ys, n ∈ D.names) (sm : Sm D) {i : Nat} (hi : i ≤ ys.length) {n : Str} (hn : n ∈ (falN D ks ys i).names) : (falN D ks ys i).sy n = ((falN D ks ys i).txt n).length ∧ 0 < (falN D ks ys i).sy n := by
  obtain ⟨m, c, c0, c1, c2, c3, c4⟩ := falN_in (ks := ks) hy sm i hi n hn
  rw [c3, c4, cut_len (by omega) c2]
  exact ⟨rfl, by omega⟩
/-- a fall behind a fall changes nothing -/
theorem falN_again {D : Ds} {ks : List Int} {ys : List Str} (hy : ∀ n ∈ ys, n ∈ D.names) (nd : ys.Nodup) (full : ∀ n ∈ D.names, D.sy n = (D.txt n).length ∧ 0 < D.sy n) :
    ∀ i, i ≤ ys.length → (falN D ks ys i).names = ys.take i ∧ ∀ n ∈ ys.take i, (falN D ks ys i).txt n = D.txt n ∧ (falN D ks ys i).sy n = D.sy n
  | 0, _ => ⟨rfl, fun n hn => by cases hn⟩
  | i + 1, hi => by
    obtain ⟨ih1, ih2⟩ := falN_again (ks := ks) hy nd full i (by omega)
    have lt : i < ys.length := by omega
    have eq : ys.getD i "" = ys[i] := by
      rw [List.getD_eq_getElem?_getD, List.getElem?_eq_getElem lt]
      rfl
    have mem : ys[i] ∈ ys := List.getElem_mem _
    obtain ⟨f1, f2⟩ := full _ (hy _ mem)
    have kp : kpI D ks i ys[i] = (D.sy ys[i] : Int) := by
      obtain ⟨b1, b2⟩ := kpI_bounds (D := D) (ks := ks) (i := i) (n := ys[i]) (by omega)
      omega
    have no : ys[i] ∉ ys.take i := by
      intro z
      obtain ⟨j, hj, e⟩ := List.getElem_of_mem z
      rw [List.length_take] at hj
      rw [List.getElem_take] at e
      exact (List.pairwise_iff_getElem.mp nd) j i (by omega) lt (by omega) e
    unfold falN stp
    rw [eq, if_pos (by rw [kp]; omega), kp]
    have tk : ys.take (i + 1) = ys.take i ++ [ys[i]] := by rw [List.take_add_one, List.getElem?_eq_getElem lt]; rfl
    refine ⟨?_, fun n hn => ?_⟩
    · show (if ys[i] ∈ (falN D ks ys i).names then _ else _) = _
      rw [ih1, if_neg no, tk]
    · rw [tk, List.mem_append, List.mem_singleton] at hn
      by_cases e : n = ys[i]
      · subst e
        constructor
        · show (if ys[i] = ys[i] then _ else _) = _
          rw [if_pos rfl, f1, cut_all]
        · show (if ys[i] = ys[i] then _ else _) = _
          rw [if_pos rfl]
          omega
      · have hn := hn.elim id fun z => (e z).elim
        obtain ⟨a, b⟩ := ih2 n hn
        constructor
        · show (if n = ys[i] then _ else _) = _
          rw [if_neg e]
          exact a
        · show (if n = ys[i] then _ else _) = _
          rw [if_neg e]
          exact b
/-- keeps as data -/
def keepsD : PyData → Bool
  | .list ds => ds.all cntD
  | .tuple ds => ds.all cntD
  | _ => false
theorem sw_intB {i : Int} (h : i.natAbs < 2 ^ 60) : Sw 0 3000 (.int i) := by
  have hl : i.natAbs.log2 < 1920 := by
    rcases Nat.eq_zero_or_pos i.natAbs with e | e
    · rw [e]; decide
    · have q : 2 ^ i.natAbs.log2 ≤ i.natAbs := Nat.log2_self_le (by omega)
      have : i.natAbs.log2 < 60 := (Nat.pow_lt_pow_iff_right (by decide : 1 < 2)).mp (Nat.lt_of_le_of_lt q h)
      omega
  have e : (PyData.int i).shown = Str.ofString (toString i) := by simp only [PyData.shown]
  have := int_text_len_1921 hl
  exact ⟨by simpa only [PyData.showable, decide_eq_true_eq] using hl, Nat.le_refl _, by rw [e]; omega⟩
theorem dz_get {g : Bool} {H : Hp} : ∀ {xs : List V} {ds : List PyData} {i : Nat} {x : V}, DzAll g H xs ds → xs[i]? = some x → ∃ d, ds[i]? = some d ∧ Dz g H x d
  | _, _, i, _, .nil, e => by simp at e
  | _, _, 0, _, .cons h _, e => by
    simp at e
    subst e
    exact ⟨_, rfl, h⟩
  | _, _, i + 1, _, .cons _ t, e => by
    obtain ⟨d, a, b⟩ := dz_get (i := i) t (by simpa using e)
    exact ⟨d, by simpa using a, b⟩
/-- names that a fall leaves, in the order of the walk -/
theorem falN_sub {D : Ds} {ks : List Int} {ys : List Str} : ∀ i, i ≤ ys.length → (falN D ks ys i).names.Sublist (ys.take i)
  | 0, _ => List.nil_sublist _
  | i + 1, hi => by
    have ih := falN_sub (D := D) (ks := ks) (ys := ys) i (by omega)
    have lt : i < ys.length := by omega
    have eq : ys.getD i "" = ys[i] := by
      rw [List.getD_eq_getElem?_getD, List.getElem?_eq_getElem lt]
      rfl
    have tk : ys.take (i + 1) = ys.take i ++ [ys[i]] := by rw [List.take_add_one, List.getElem?_eq_getElem lt]; rfl
    unfold falN stp
    rw [eq, tk]
    split
    · unfold Ds.put
      dsimp only
      split
      · exact ih.trans (List.sublist_append_left _ _)
      · exact ih.append (List.Sublist.refl _)
    · exact ih.trans (List.sublist_append_left _ _)
theorem names_one {l m : List Str} (p : l.Perm m) (h : l.Pairwise fun a b => ¬ b.cps.toList < a.cps.toList) (k : m.Pairwise fun a b => ¬ b.cps.toList < a.cps.toList) : l = m := by
  refine p.eq_of_pairwise ?_ h k
  intro a b _ _ h1 h2
  exact str_ext (List.le_antisymm (List.not_lt.mp h1) (List.not_lt.mp h2))
/-- an item of a table -/
theorem tb_item {kvs : List (Key × V)} : ∀ {ns : List Str} {g : Str → V}, Tb kvs ns g → ns.Nodup → ∀ p ∈ kvs, ∃ j ∈ ns, p.1 = Sum.inr j ∧ p.2 = g j := by
  have gen : ∀ {p : Key × V} {kvs : List (Key × V)}, (kvs.map (·.1)).Nodup → p ∈ kvs → valV kvs p.1 = some p.2 := by
    intro p kvs
    induction kvs with
    | nil => intro _ h; cases h
    | cons a r ih =>
      intro nd h
      rw [List.map_cons, List.nodup_cons] at nd
      rcases List.mem_cons.mp h with rfl | h
      · exact valV_pos rfl
      · rw [valV_neg (fun z => nd.1 (z ▸ List.mem_map.mpr ⟨p, h, rfl⟩))]
        exact ih nd.2 h
  intro ns g h nd p hp
  have hm : p.1 ∈ ns.map (Sum.inr : Str → Key) := by
    rw [← h.1]
    exact List.mem_map.mpr ⟨p, hp, rfl⟩
  obtain ⟨j, hj, e⟩ := List.mem_map.mp hm
  refine ⟨j, hj, e.symm, ?_⟩
  have nd2 : (kvs.map (·.1)).Nodup := by
    rw [h.1]
    exact List.Pairwise.map _ (fun a b n z => n (by cases z; rfl)) nd
  have := gen nd2 hp
  rw [← e, h.at hj] at this
  exact (Option.some.inj this).symm
theorem Tb.extIn {kvs : List (Key × V)} {ns : List Str} {g g' : Str → V} (h : Tb kvs ns g) (e : ∀ j ∈ ns, g j = g' j) : Tb kvs ns g' := ⟨h.1, fun j => by
  rw [h.2]
  by_cases i : j ∈ ns
  · rw [if_pos i, if_pos i, e j i]
  · rw [if_neg i, if_neg i]⟩
theorem law_ext {H : Hp} {L : Addr} {D E : Ds} (h : LawAt H L D) (n : D.names = E.names) (e : ∀ j ∈ D.names, E.txt j = D.txt j ∧ E.sy j = D.sy j) : LawAt H L E := by
  obtain ⟨kvs, adr, h1, t, h2⟩ := h
  refine ⟨kvs, adr, h1, n ▸ t, fun j hj => ?_⟩
  rw [← n] at hj
  rw [(e j hj).1, (e j hj).2]
  exact h2 j hj
/-- the law's files of two alike, compared -/
theorem eq_files {K : PySem.W.Frag} {H : Hp} {q r : Addr} {D E : Ds} (h : LawAt H q D) (k : LawAt H r E) (nd : D.names.Nodup) (n : D.names = E.names) (e : ∀ j ∈ D.names, D.txt j = E.txt j ∧ D.sy j = E.sy j) :
    ∃ ks ls, H q = some (.dK ks) ∧ H r = some (.dK ls) ∧ ks.length = ls.length ∧ ∀ p ∈ ks, ∃ u, valV ls p.1 = some u ∧ EqV K H 5 p.2 u := by
  obtain ⟨ks, ad, h1, t1, h2⟩ := h
  obtain ⟨ls, al, k1, t2, k2⟩ := k
  refine ⟨ks, ls, h1, k1, by rw [t1.len, t2.len, n], fun p hp => ?_⟩
  obtain ⟨j, hj, e1, e2⟩ := tb_item t1 nd p hp
  have hj2 : j ∈ E.names := n ▸ hj
  refine ⟨_, by rw [e1]; exact t2.at hj2, ?_⟩
  rw [e2]
  refine .inr (.inr (.inl ⟨_, _, _, _, rfl, rfl, SqL.of (h2 j hj), SqL.of (k2 j hj2), ?_⟩))
  rw [(e j hj).1, (e j hj).2]
  exact .cons (.inl ⟨rfl, rfl⟩) (.cons (.inl ⟨rfl, rfl⟩) .nil)
end M7


namespace L08_
open PySem PySem.Spec PyProof.Rows L2 Z
open SX M9 M3 M10 M6 M7
def top (i : Nat) : Stmt := PySem.Challenge.pw_inorderonce_k08_power_copies_and_equalit.main.body.getD i (.Pass ⟨0, 0, 0, 0⟩)
-- VARS: e_PowerCut e_InvalidName e_InvalidText e_NoFile e_InvalidKeeps e_InvalidCount e_QueueError e_Disk
structure Txt (K : PySem.W.Frag) (mg : Str → Option Value) (e_PowerCut e_InvalidName e_InvalidText e_NoFile e_InvalidKeeps e_InvalidCount e_QueueError e_Disk : Addr) : Prop where
  g_PowerCut : mg "PowerCut" = some (.ref e_PowerCut)
  a_PowerCut : clsAt K "PowerCut" e_PowerCut
  g_InvalidName : mg "InvalidName" = some (.ref e_InvalidName)
  a_InvalidName : clsAt K "InvalidName" e_InvalidName
  g_InvalidText : mg "InvalidText" = some (.ref e_InvalidText)
  a_InvalidText : clsAt K "InvalidText" e_InvalidText
  g_NoFile : mg "NoFile" = some (.ref e_NoFile)
  a_NoFile : clsAt K "NoFile" e_NoFile
  g_InvalidKeeps : mg "InvalidKeeps" = some (.ref e_InvalidKeeps)
  a_InvalidKeeps : clsAt K "InvalidKeeps" e_InvalidKeeps
  g_InvalidCount : mg "InvalidCount" = some (.ref e_InvalidCount)
  a_InvalidCount : clsAt K "InvalidCount" e_InvalidCount
  g_QueueError : mg "QueueError" = some (.ref e_QueueError)
  a_QueueError : clsAt K "QueueError" e_QueueError
  g_Disk : mg "Disk" = some (.ref e_Disk)
  a_Disk : clsAt K "Disk" e_Disk
  s_PowerCut : Es K e_PowerCut
  x_PowerCut_InvalidName : PySem.W.subIn K (.ref e_PowerCut) (.ref e_InvalidName) = some false
  x_PowerCut_InvalidText : PySem.W.subIn K (.ref e_PowerCut) (.ref e_InvalidText) = some false
  x_PowerCut_InvalidCount : PySem.W.subIn K (.ref e_PowerCut) (.ref e_InvalidCount) = some false
  x_PowerCut_InvalidKeeps : PySem.W.subIn K (.ref e_PowerCut) (.ref e_InvalidKeeps) = some false
  x_PowerCut_NoFile : PySem.W.subIn K (.ref e_PowerCut) (.ref e_NoFile) = some false
  x_PowerCut_PowerCut : PySem.W.subIn K (.ref e_PowerCut) (.ref e_PowerCut) = some true
  s_InvalidName : Es K e_InvalidName
  n_InvalidName : PySem.W.findIn K (.ref e_InvalidName) "given" = some none
  x_InvalidName_InvalidName : PySem.W.subIn K (.ref e_InvalidName) (.ref e_InvalidName) = some true
  x_InvalidName_InvalidText : PySem.W.subIn K (.ref e_InvalidName) (.ref e_InvalidText) = some false
  x_InvalidName_InvalidCount : PySem.W.subIn K (.ref e_InvalidName) (.ref e_InvalidCount) = some false
  x_InvalidName_InvalidKeeps : PySem.W.subIn K (.ref e_InvalidName) (.ref e_InvalidKeeps) = some false
  x_InvalidName_NoFile : PySem.W.subIn K (.ref e_InvalidName) (.ref e_NoFile) = some false
  x_InvalidName_PowerCut : PySem.W.subIn K (.ref e_InvalidName) (.ref e_PowerCut) = some false
  s_InvalidText : Es K e_InvalidText
  n_InvalidText : PySem.W.findIn K (.ref e_InvalidText) "given" = some none
  x_InvalidText_InvalidName : PySem.W.subIn K (.ref e_InvalidText) (.ref e_InvalidName) = some false
  x_InvalidText_InvalidText : PySem.W.subIn K (.ref e_InvalidText) (.ref e_InvalidText) = some true
  x_InvalidText_InvalidCount : PySem.W.subIn K (.ref e_InvalidText) (.ref e_InvalidCount) = some false
  x_InvalidText_InvalidKeeps : PySem.W.subIn K (.ref e_InvalidText) (.ref e_InvalidKeeps) = some false
  x_InvalidText_NoFile : PySem.W.subIn K (.ref e_InvalidText) (.ref e_NoFile) = some false
  x_InvalidText_PowerCut : PySem.W.subIn K (.ref e_InvalidText) (.ref e_PowerCut) = some false
  s_NoFile : Es K e_NoFile
  n_NoFile : PySem.W.findIn K (.ref e_NoFile) "name" = some none
  x_NoFile_InvalidName : PySem.W.subIn K (.ref e_NoFile) (.ref e_InvalidName) = some false
  x_NoFile_InvalidText : PySem.W.subIn K (.ref e_NoFile) (.ref e_InvalidText) = some false
  x_NoFile_InvalidCount : PySem.W.subIn K (.ref e_NoFile) (.ref e_InvalidCount) = some false
  x_NoFile_InvalidKeeps : PySem.W.subIn K (.ref e_NoFile) (.ref e_InvalidKeeps) = some false
  x_NoFile_NoFile : PySem.W.subIn K (.ref e_NoFile) (.ref e_NoFile) = some true
  x_NoFile_PowerCut : PySem.W.subIn K (.ref e_NoFile) (.ref e_PowerCut) = some false
  s_InvalidKeeps : Es K e_InvalidKeeps
  n_InvalidKeeps : PySem.W.findIn K (.ref e_InvalidKeeps) "given" = some none
  x_InvalidKeeps_InvalidName : PySem.W.subIn K (.ref e_InvalidKeeps) (.ref e_InvalidName) = some false
  x_InvalidKeeps_InvalidText : PySem.W.subIn K (.ref e_InvalidKeeps) (.ref e_InvalidText) = some false
  x_InvalidKeeps_InvalidCount : PySem.W.subIn K (.ref e_InvalidKeeps) (.ref e_InvalidCount) = some false
  x_InvalidKeeps_InvalidKeeps : PySem.W.subIn K (.ref e_InvalidKeeps) (.ref e_InvalidKeeps) = some true
  x_InvalidKeeps_NoFile : PySem.W.subIn K (.ref e_InvalidKeeps) (.ref e_NoFile) = some false
  x_InvalidKeeps_PowerCut : PySem.W.subIn K (.ref e_InvalidKeeps) (.ref e_PowerCut) = some false
  s_InvalidCount : Es K e_InvalidCount
  n_InvalidCount : PySem.W.findIn K (.ref e_InvalidCount) "given" = some none
  x_InvalidCount_InvalidName : PySem.W.subIn K (.ref e_InvalidCount) (.ref e_InvalidName) = some false
  x_InvalidCount_InvalidText : PySem.W.subIn K (.ref e_InvalidCount) (.ref e_InvalidText) = some false
  x_InvalidCount_InvalidCount : PySem.W.subIn K (.ref e_InvalidCount) (.ref e_InvalidCount) = some true
  x_InvalidCount_InvalidKeeps : PySem.W.subIn K (.ref e_InvalidCount) (.ref e_InvalidKeeps) = some false
  x_InvalidCount_NoFile : PySem.W.subIn K (.ref e_InvalidCount) (.ref e_NoFile) = some false
  x_InvalidCount_PowerCut : PySem.W.subIn K (.ref e_InvalidCount) (.ref e_PowerCut) = some false
  q_QueueError : BaseC K e_QueueError
  k_Disk : Cls K e_Disk
  i_Disk : IsC K e_Disk
  f_Disk_files : NoAttr K e_Disk "files"
  f_Disk_marks : NoAttr K e_Disk "marks"
  f_Disk_calls : NoAttr K e_Disk "calls"
  f_Disk_left : NoAttr K e_Disk "left"
  n_int : mg "int" = none
  n_abs : mg "abs" = none
  n_len : mg "len" = none
  n_sum : mg "sum" = none
  n_dict : mg "dict" = none
  n_sorted : mg "sorted" = none
  n_list : mg "list" = none
  n_isinstance : mg "isinstance" = none
  n_bool : mg "bool" = none
  n_repr : mg "repr" = none
  n_range : mg "range" = none
  n_str : mg "str" = none
  n_all : mg "all" = none
  n_tuple : mg "tuple" = none
  n_enumerate : mg "enumerate" = none
  n_reversed : mg "reversed" = none
  n_max : mg "max" = none
  n_min : mg "min" = none
  c_MOST_NAME : ∃ u, mg "MOST_NAME" = some u ∧ RelV (.int (12)) u
  c_NAME_SIGNS : ∃ u, mg "NAME_SIGNS" = some u ∧ RelV (.str "abcdefghijklmnopqrstuvwxyz0123456789-") u
theorem bt_int : bootBuiltins "int" = some (.type "int") := by decide +kernel
theorem bt_abs : bootBuiltins "abs" = some (.builtin "abs") := by decide +kernel
theorem bt_len : bootBuiltins "len" = some (.builtin "len") := by decide +kernel
theorem bt_sum : bootBuiltins "sum" = some (.builtin "sum") := by decide +kernel
theorem bt_dict : bootBuiltins "dict" = some (.type "dict") := by decide +kernel
theorem bt_sorted : bootBuiltins "sorted" = some (.builtin "sorted") := by decide +kernel
theorem bt_list : bootBuiltins "list" = some (.type "list") := by decide +kernel
theorem bt_isinstance : bootBuiltins "isinstance" = some (.builtin "isinstance") := by decide +kernel
theorem bt_bool : bootBuiltins "bool" = some (.type "bool") := by decide +kernel
theorem bt_repr : bootBuiltins "repr" = some (.builtin "repr") := by decide +kernel
theorem bt_str : bootBuiltins "str" = some (.type "str") := by decide +kernel
theorem bt_all : bootBuiltins "all" = some (.builtin "all") := by decide +kernel
theorem bt_tuple : bootBuiltins "tuple" = some (.type "tuple") := by decide +kernel
theorem bt_max : bootBuiltins "max" = some (.builtin "max") := by decide +kernel
theorem bt_min : bootBuiltins "min" = some (.builtin "min") := by decide +kernel

abbrev si_InvalidName : Stmt := (clsB (top 4)).getD 0 (.Pass ⟨0, 0, 0, 0⟩)
theorem sci_InvalidName : FnScope ["self", "given"] ["self", "given"] (defScope si_InvalidName) := ⟨rfl, rfl, rfl, by decide +kernel, rfl, by decide +kernel, by decide +kernel⟩
theorem oki_InvalidName {P : Program} {w : World} {K : PySem.W.Frag} {mg : Str → Option Value} {base : Heap} {e_PowerCut e_InvalidName e_InvalidText e_NoFile e_InvalidKeeps e_InvalidCount e_QueueError e_Disk fI : Addr} {fd : FuncData} (T : Txt K mg e_PowerCut e_InvalidName e_InvalidText e_NoFile e_InvalidKeeps e_InvalidCount e_QueueError e_Disk) (F : Fun K "__init__" "InvalidName.__init__" si_InvalidName fI fd) (EC : ErrC K e_InvalidName e_QueueError) : FnOk P w K mg base CX0 1 fI fd ["self", "given"] (spIni e_InvalidName "given") := by
  obtain ⟨mc, q1, q2, q3⟩ := T.q_QueueError.ex
  refine ini2 F sci_InvalidName fun cdv A outer s H u v Q E hr h => ⟨_, (pss_cons (ps_expr (pe_binit T.g_QueueError q1 q2 q3 (pa_cons (pz 0) (pa_cons pe_str pa_nil)))) (pss_one (ps_err (pz 0) (pz 1)))), ?_⟩
  obtain ⟨a, rfl, ha, q⟩ := h
  refine ⟨a, _, _, _, rfl, by show 1 ≤ 1000; decide, EC, ha, ?_⟩
  exact ⟨a, _, _, rfl, EC, T.n_InvalidName, ha, fun dx nd ne => q dx nd ne⟩

abbrev si_InvalidText : Stmt := (clsB (top 5)).getD 0 (.Pass ⟨0, 0, 0, 0⟩)
theorem sci_InvalidText : FnScope ["self", "given"] ["self", "given"] (defScope si_InvalidText) := ⟨rfl, rfl, rfl, by decide +kernel, rfl, by decide +kernel, by decide +kernel⟩
theorem oki_InvalidText {P : Program} {w : World} {K : PySem.W.Frag} {mg : Str → Option Value} {base : Heap} {e_PowerCut e_InvalidName e_InvalidText e_NoFile e_InvalidKeeps e_InvalidCount e_QueueError e_Disk fI : Addr} {fd : FuncData} (T : Txt K mg e_PowerCut e_InvalidName e_InvalidText e_NoFile e_InvalidKeeps e_InvalidCount e_QueueError e_Disk) (F : Fun K "__init__" "InvalidText.__init__" si_InvalidText fI fd) (EC : ErrC K e_InvalidText e_QueueError) : FnOk P w K mg base CX0 1 fI fd ["self", "given"] (spIni e_InvalidText "given") := by
  obtain ⟨mc, q1, q2, q3⟩ := T.q_QueueError.ex
  refine ini2 F sci_InvalidText fun cdv A outer s H u v Q E hr h => ⟨_, (pss_cons (ps_expr (pe_binit T.g_QueueError q1 q2 q3 (pa_cons (pz 0) (pa_cons pe_str pa_nil)))) (pss_one (ps_err (pz 0) (pz 1)))), ?_⟩
  obtain ⟨a, rfl, ha, q⟩ := h
  refine ⟨a, _, _, _, rfl, by show 1 ≤ 1000; decide, EC, ha, ?_⟩
  exact ⟨a, _, _, rfl, EC, T.n_InvalidText, ha, fun dx nd ne => q dx nd ne⟩

abbrev si_NoFile : Stmt := (clsB (top 7)).getD 0 (.Pass ⟨0, 0, 0, 0⟩)
theorem sci_NoFile : FnScope ["self", "name"] ["self", "name"] (defScope si_NoFile) := ⟨rfl, rfl, rfl, by decide +kernel, rfl, by decide +kernel, by decide +kernel⟩
theorem oki_NoFile {P : Program} {w : World} {K : PySem.W.Frag} {mg : Str → Option Value} {base : Heap} {e_PowerCut e_InvalidName e_InvalidText e_NoFile e_InvalidKeeps e_InvalidCount e_QueueError e_Disk fI : Addr} {fd : FuncData} (T : Txt K mg e_PowerCut e_InvalidName e_InvalidText e_NoFile e_InvalidKeeps e_InvalidCount e_QueueError e_Disk) (F : Fun K "__init__" "NoFile.__init__" si_NoFile fI fd) (EC : ErrC K e_NoFile e_QueueError) : FnOk P w K mg base CX0 1 fI fd ["self", "name"] (spIni e_NoFile "name") := by
  obtain ⟨mc, q1, q2, q3⟩ := T.q_QueueError.ex
  refine ini2 F sci_NoFile fun cdv A outer s H u v Q E hr h => ⟨_, (pss_cons (ps_expr (pe_binit T.g_QueueError q1 q2 q3 (pa_cons (pz 0) (pa_cons pe_str pa_nil)))) (pss_one (ps_err (pz 0) (pz 1)))), ?_⟩
  obtain ⟨a, rfl, ha, q⟩ := h
  refine ⟨a, _, _, _, rfl, by show 1 ≤ 1000; decide, EC, ha, ?_⟩
  exact ⟨a, _, _, rfl, EC, T.n_NoFile, ha, fun dx nd ne => q dx nd ne⟩

abbrev si_InvalidKeeps : Stmt := (clsB (top 3)).getD 0 (.Pass ⟨0, 0, 0, 0⟩)
theorem sci_InvalidKeeps : FnScope ["self", "given"] ["self", "given"] (defScope si_InvalidKeeps) := ⟨rfl, rfl, rfl, by decide +kernel, rfl, by decide +kernel, by decide +kernel⟩
theorem oki_InvalidKeeps {P : Program} {w : World} {K : PySem.W.Frag} {mg : Str → Option Value} {base : Heap} {e_PowerCut e_InvalidName e_InvalidText e_NoFile e_InvalidKeeps e_InvalidCount e_QueueError e_Disk fI : Addr} {fd : FuncData} (T : Txt K mg e_PowerCut e_InvalidName e_InvalidText e_NoFile e_InvalidKeeps e_InvalidCount e_QueueError e_Disk) (F : Fun K "__init__" "InvalidKeeps.__init__" si_InvalidKeeps fI fd) (EC : ErrC K e_InvalidKeeps e_QueueError) : FnOk P w K mg base CX0 1 fI fd ["self", "given"] (spIni e_InvalidKeeps "given") := by
  obtain ⟨mc, q1, q2, q3⟩ := T.q_QueueError.ex
  refine ini2 F sci_InvalidKeeps fun cdv A outer s H u v Q E hr h => ⟨_, (pss_cons (ps_expr (pe_binit T.g_QueueError q1 q2 q3 (pa_cons (pz 0) (pa_cons pe_str pa_nil)))) (pss_one (ps_err (pz 0) (pz 1)))), ?_⟩
  obtain ⟨a, rfl, ha, q⟩ := h
  refine ⟨a, _, _, _, rfl, by show 1 ≤ 1000; decide, EC, ha, ?_⟩
  exact ⟨a, _, _, rfl, EC, T.n_InvalidKeeps, ha, fun dx nd ne => q dx nd ne⟩

abbrev si_InvalidCount : Stmt := (clsB (top 2)).getD 0 (.Pass ⟨0, 0, 0, 0⟩)
theorem sci_InvalidCount : FnScope ["self", "given"] ["self", "given"] (defScope si_InvalidCount) := ⟨rfl, rfl, rfl, by decide +kernel, rfl, by decide +kernel, by decide +kernel⟩
theorem oki_InvalidCount {P : Program} {w : World} {K : PySem.W.Frag} {mg : Str → Option Value} {base : Heap} {e_PowerCut e_InvalidName e_InvalidText e_NoFile e_InvalidKeeps e_InvalidCount e_QueueError e_Disk fI : Addr} {fd : FuncData} (T : Txt K mg e_PowerCut e_InvalidName e_InvalidText e_NoFile e_InvalidKeeps e_InvalidCount e_QueueError e_Disk) (F : Fun K "__init__" "InvalidCount.__init__" si_InvalidCount fI fd) (EC : ErrC K e_InvalidCount e_QueueError) : FnOk P w K mg base CX0 1 fI fd ["self", "given"] (spIni e_InvalidCount "given") := by
  obtain ⟨mc, q1, q2, q3⟩ := T.q_QueueError.ex
  refine ini2 F sci_InvalidCount fun cdv A outer s H u v Q E hr h => ⟨_, (pss_cons (ps_expr (pe_binit T.g_QueueError q1 q2 q3 (pa_cons (pz 0) (pa_cons pe_str pa_nil)))) (pss_one (ps_err (pz 0) (pz 1)))), ?_⟩
  obtain ⟨a, rfl, ha, q⟩ := h
  refine ⟨a, _, _, _, rfl, by show 1 ≤ 1000; decide, EC, ha, ?_⟩
  exact ⟨a, _, _, rfl, EC, T.n_InvalidCount, ha, fun dx nd ne => q dx nd ne⟩


local macro_rules | `(tactic| walk_at "hp") => `(tactic| first | assumption | (refine Nw.keep (by assumption) ?_; walk_at "hp") | (refine But.at (by assumption) (by assumption) ?_; walk_at "hp") | (refine Wr.keep (by assumption) (by assumption) ?_; walk_at "hp"))
/-! ### promises -/
/-- a box of digits and draws, with at most n draws so far -/
def BoxAt (n : Nat) (H : Hp) (b : Addr) : Prop := ∃ (g : Int) (f : Bool) (s c : Int), H b = some (.lst [.int g, .bl f, .int s, .int c]) ∧ 0 ≤ g ∧ 0 ≤ s ∧ s < 2147483648 ∧ 0 ≤ c ∧ c ≤ n
theorem BoxAt.mono {n m : Nat} {H : Hp} {b : Addr} (h : BoxAt n H b) (e : n ≤ m) : BoxAt m H b := by
  obtain ⟨g, f, s, c, h1, h2, h3, h4, h5, h6⟩ := h
  exact ⟨g, f, s, c, h1, h2, h3, h4, h5, by omega⟩
theorem BoxAt.same {n : Nat} {H H2 : Hp} {b : Addr} (h : BoxAt n H b) (e : Same H H2) : BoxAt n H2 b := by
  obtain ⟨g, f, s, c, h1, h2⟩ := h
  exact ⟨g, f, s, c, e _ _ h1, h2⟩
theorem BoxAt.some {n : Nat} {H : Hp} {b : Addr} (h : BoxAt n H b) : ∃ o, H b = Option.some o := by
  obtain ⟨g, f, s, c, h1, h2⟩ := h
  exact ⟨_, h1⟩
theorem BoxAt.ne {n : Nat} {H : Hp} {b p : Addr} (h : BoxAt n H b) (e : H p = none) : b ≠ p := by
  obtain ⟨o, h⟩ := h.some
  exact ne_of_none h e
theorem BoxAt.wr {n : Nat} {H H2 : Hp} {b l : Addr} {o : HO} (h : BoxAt n H b) (e : b ≠ l) (w : Wr H l o H2) : BoxAt n H2 b := by
  obtain ⟨g, f, s, c, h1, h2⟩ := h
  exact ⟨g, f, s, c, w.keep e h1, h2⟩
theorem BoxAt.but {n : Nat} {H H2 : Hp} {b l : Addr} (h : BoxAt n H b) (e : b ≠ l) (w : But l H H2) : BoxAt n H2 b := by
  obtain ⟨g, f, s, c, h1, h2⟩ := h
  exact ⟨g, f, s, c, w.at e h1, h2⟩
def TX (n : Nat) (l : List Nat) : Prop := Pr l ∧ l.length ≤ n
def sp__law_box (K : PySem.W.Frag) : Sp := sp1 fun great H Q _ => ∃ g, great = .int g ∧ ∀ b H2, H b = none → Same H H2 → BoxAt 0 H2 b → Q (.ref b) H2
def sp__law_cell (K : PySem.W.Frag) : Sp := sp2 fun script k H Q _ => ∃ (a : Addr) (i : Int) (ns : List Int), script = .ref a ∧ k = .int i ∧ 0 ≤ i ∧ i < 1000 ∧ SqL K H a (ns.map V.int) ∧ ns.length ≤ 63 ∧ ∀ z H2, Same H H2 → Q (.int z) H2
def sp__law_take (K : PySem.W.Frag) : Sp := sp2 fun box many H Q _ => ∃ (b : Addr) (m : Int) (n : Nat), box = .ref b ∧ many = .int m ∧ 0 < m ∧ m < 1000000 ∧ BoxAt n H b ∧ n < 1000000 ∧ ∀ r H2, But b H H2 → BoxAt (n + 1) H2 b → 0 ≤ r → r < m → Q (.int r) H2
theorem lit_nil : ("" : Str) = S [] := by decide +kernel
theorem joinSz (ls : List (List Nat)) (h : ls.flatten.length ≤ 10000000) : ((ls.map S).map (·.length)).sum + (ls.map S).length * ("" : Str).length ≤ 16777216 := by
  rw [lit_nil, length_S, lens, ← List.length_flatten]
  show _ + _ * 0 ≤ _
  omega
theorem nself (x : V) : (true ^^ decide (x = x)) = false := by rw [decide_eq_true rfl]; rfl
theorem eself (x : V) : (false ^^ decide (x = x)) = true := by rw [decide_eq_true rfl]; rfl
theorem menuS (ts : List Str) {n : Nat} (ok : (ts.all fun t => (t.cps.toList.all fun c => decide (32 ≤ c) && decide (c ≤ 126)) && decide (t.cps.toList.length ≤ n)) = true) {r : Int} (h0 : 0 ≤ r) (h : r < (ts.length : Int)) :
    ∃ l, atI (ts.map V.str) r = some (.str (S l)) ∧ TX n l := by
  obtain ⟨v, h1, h2, _⟩ := atI_some (xs := ts.map V.str) h0 (by rw [List.length_map]; exact h)
  obtain ⟨t, ht, rfl⟩ := List.mem_map.mp h2
  have q := (List.all_eq_true.mp ok) t ht
  rw [Bool.and_eq_true] at q
  refine ⟨t.cps.toList, ?_, pr_of q.1, of_decide_eq_true q.2⟩
  rw [S_tl]
  exact h1
/-- the signs of the alphabets -/
theorem near_item {t : Str} (h : (t.cps.toList.all fun c => decide (32 ≤ c) && decide (c ≤ 126)) = true) {r : Int} (h0 : 0 ≤ r) (h1 : r < (t.length : Int)) : ∃ c : Nat, atI t.cps.toList r = some c ∧ 32 ≤ c ∧ c ≤ 126 := by
  obtain ⟨c, e1, e2, _⟩ := atI_some (xs := t.cps.toList) h0 (by simpa [Str.length] using h1)
  have := (List.all_eq_true.mp h) c e2
  exact ⟨c, e1, by simpa using this⟩
theorem log_small {n : Nat} (h : n < 10000000) : ((n : Nat) : Int).natAbs.log2 < 1920 := by
  rw [Int.natAbs_natCast]
  rcases Nat.eq_zero_or_pos n with e | e
  · subst e; decide
  · have q : 2 ^ n.log2 ≤ n := Nat.log2_self_le (by omega)
    have h2 : n < 2 ^ 24 := by omega
    have : n.log2 < 24 := (Nat.pow_lt_pow_iff_right (by decide : 1 < 2)).mp (Nat.lt_of_le_of_lt q h2)
    omega
def BadN (H : Hp) (nm : V) : Prop := ∃ d, Vd H nm d ∧ nmOk d = true ∧ nmD d = false
def BadT (H : Hp) (tx : V) : Prop := ∃ d, Vd H tx d ∧ txOk d = true ∧ txD d = false
theorem nT {p : Prop} [Decidable p] (h : (!decide p) = true) : ¬ p := by simpa using h
theorem nF {p : Prop} [Decidable p] (h : ¬ (!decide p) = true) : p := by simpa using h
theorem txt_ok {d : PyData} (h : txOk d = true) : txt d = true := by
  cases d with
  | str x =>
    have h : (asciiS x && decide (x.length ≤ 30) && _) = true := h
    rw [Bool.and_eq_true, Bool.and_eq_true] at h
    show (asciiS x && decide (x.length ≤ 1000000)) = true
    rw [h.1.1, decide_eq_true (p := x.length ≤ 1000000) (by have := of_decide_eq_true h.1.2; omega)]
    rfl
  | _ => rfl
theorem str0 {x : Str} (h : x.length = 0) : x = "" := str_ext (by rw [show x.cps.toList = [] from List.eq_nil_of_length_eq_zero (by rw [len_cps]; exact h)]; decide)
theorem tx_cases {d : PyData} (h : txOk d = true) (b : txD d = false) : signsD d = false ∨ (signsD d = true ∧ d = .str "") := by
  cases d with
  | str x =>
    have h : (asciiS x && decide (x.length ≤ 30) && (mkS x == (prS x && decide (x.length ≠ 0)))) = true := h
    have b : mkS x = false := b
    rw [Bool.and_eq_true, b] at h
    have h2 := eq_of_beq h.2
    cases p : prS x with
    | false => exact .inl p
    | true =>
      rw [p, Bool.true_and] at h2
      have h3 : ¬ x.length ≠ 0 := of_decide_eq_false h2.symm
      have e := str0 (x := x) (by omega)
      exact .inr ⟨p, by rw [e]⟩
  | _ => exact .inl rfl
theorem tx_right {x : Str} (h : txOk (.str x) = true) (b : mkS x = true) : signsD (.str x) = true ∧ (false ^^ decide (V.str x = V.str "")) = false := by
  have h : (asciiS x && decide (x.length ≤ 30) && (mkS x == (prS x && decide (x.length ≠ 0)))) = true := h
  rw [Bool.and_eq_true, b] at h
  have h2 := eq_of_beq h.2
  rw [eq_comm, Bool.and_eq_true] at h2
  refine ⟨h2.1, ?_⟩
  rw [Bool.false_xor]
  refine decide_eq_false fun z => ?_
  cases z
  exact of_decide_eq_true h2.2 (by decide)
theorem vd_str {H : Hp} (x : Str) : Vd H (.str x) (.str x) := ⟨true, .str _⟩
theorem nm_ok2 {n : Str} (h : nmS n = true) : nmOk (.str n) = true := by
  obtain ⟨h1, h2, h3⟩ := nm_of h
  rw [S_cps n]
  exact nm_ok (fun c hc => by have := alf_pr c (h3 c hc); omega) (by rw [len_cps]; omega)
theorem BadN.same {H H2 : Hp} {x : V} (h : BadN H x) (s : Same H H2) : BadN H2 x := by
  obtain ⟨d, a, b⟩ := h
  exact ⟨d, a.same s, b⟩
theorem BadT.same {H H2 : Hp} {x : V} (h : BadT H x) (s : Same H H2) : BadT H2 x := by
  obtain ⟨d, a, b⟩ := h
  exact ⟨d, a.same s, b⟩
def empty : Ds := ⟨[], fun _ => "", fun _ => 0⟩
def sp_is_file_name (K : PySem.W.Frag) : Sp := sp1 fun v H Q _ => ∃ d, Vd H v d ∧ nmOk d = true ∧ ∀ H2, Same H H2 → Q (.bl (nmD d)) H2
def sp_is_signs (K : PySem.W.Frag) : Sp := sp1 fun v H Q _ => ∃ d, Vd H v d ∧ txt d = true ∧ Q (.bl (signsD d)) H
/-- a name judged: none, of no file, of a file -/
def NmJ (K : PySem.W.Frag) (D : Ds) (nm : V) (H : Hp) (E : XK) (G : Str → Prop) : Prop := (BadN H nm ∧ Rz K "InvalidName" "given" nm H E) ∨ (∃ n, nm = .str n ∧ nmS n = true ∧ n ∉ D.names ∧ Rz K "NoFile" "name" nm H E) ∨ ∃ n, nm = .str n ∧ nmS n = true ∧ n ∈ D.names ∧ G n
def sp_Disk_check_file (K : PySem.W.Frag) : Sp := sp2 fun self nm H Q E => ∃ a f m D c lf, self = .ref a ∧ DiskAt K H a f m D c lf ∧ NmJ K D nm H E fun _ => ∀ H2, Same H H2 → Q .non H2
def sp_Disk_read (K : PySem.W.Frag) : Sp := sp2 fun self nm H Q E => ∃ a f m D c lf, self = .ref a ∧ DiskAt K H a f m D c lf ∧ NmJ K D nm H E fun n => ∀ H2, Same H H2 → Q (.str (D.txt n)) H2
def sp_Disk_synced (K : PySem.W.Frag) : Sp := sp2 fun self nm H Q E => ∃ a f m D c lf, self = .ref a ∧ DiskAt K H a f m D c lf ∧ NmJ K D nm H E fun n => ∀ H2, Same H H2 → Q (.int (D.sy n : Nat)) H2
def sp_Disk_names (K : PySem.W.Frag) : Sp := sp1 fun self H Q _ => ∃ a f m D c lf, self = .ref a ∧ DiskAt K H a f m D c lf ∧ D.names.length < 64 ∧ ∀ (ys : List Str) p H2, ys.Perm D.names → sortedS ys = true → Same H H2 → H p = none → H2 p = some (.lst (ys.map V.str)) → Q (.ref p) H2
def sp_Disk_ops (K : PySem.W.Frag) : Sp := sp1 fun self H Q _ => ∃ a f m D c lf, self = .ref a ∧ DiskAt K H a f m D c lf ∧ Q (.int c) H
def sp_Disk___init__ (K : PySem.W.Frag) : Sp := sp1 fun self H Q _ => ∃ a C dx, self = .ref a ∧ clsAt K "Disk" C ∧ H a = some (.ins C dx []) ∧ ∀ f m H2, H f = none → H m = none → Kp [a] H H2 → DiskAt K H2 a f m empty 0 .non → Q .non H2
theorem marks {i : Int} (h0 : 0 ≤ i) (h1 : i < 2) : ∃ c : Nat, atI ("\n\t" : Str).cps.toList i = some c ∧ (c = 9 ∨ c = 10) := by
  have e : ("\n\t" : Str).cps.toList = [10, 9] := by decide +kernel
  rw [e]
  obtain ⟨c, h, hm, _⟩ := atI_some (xs := [10, 9]) h0 (by exact h1)
  refine ⟨c, h, ?_⟩
  simp only [List.mem_cons, List.not_mem_nil, or_false] at hm
  omega
theorem asc_sign {p q : List Nat} {c : Nat} (hp : Pr p) (hq : Pr q) (hc : c = 9 ∨ c = 10) : ∀ x ∈ p ++ [c] ++ q, x < 128 := fun x hx => by
  rw [List.append_assoc, List.mem_append, List.mem_append, List.mem_singleton] at hx
  rcases hx with hx | rfl | hx
  · exact lt_pr hp x hx
  · omega
  · exact lt_pr hq x hx
theorem odd_asc {l : List Nat} (h : ∀ c ∈ l, c < 128) (hl : l.length ≤ 100) : oddOk (.str (S l)) = true := by
  have e : (PyData.str (S l)).shown = reprText (S l) := by simp only [PyData.shown]
  have r := PySem.StrLaws.reprText_len (S l) (fun c hc => by
    rw [cps_S] at hc
    have := h c hc
    omega)
  have ls := length_S l
  have h1 : asc1 (.str (S l)) = true := by
    show (asciiS (S l) && decide ((S l).length ≤ 100000)) = true
    rw [asc_of h, length_S, decide_eq_true (by omega)]
    rfl
  unfold oddOk
  rw [e, h1]
  show (true && true && decide (0 ≤ 3) && decide ((reprText (S l)).length ≤ 2000) && true) = true
  rw [decide_eq_true (p := (reprText (S l)).length ≤ 2000) (by omega)]
  rfl
/-- data that is made by this call: nothing of it stood before -/
def OddV (H H2 : Hp) (v : V) (d : PyData) : Prop := Dz true H2 v d ∧ oddOk d = true ∧ (∀ p, v = .ref p → H p = none) ∧ ∀ ds, d = .list ds → ds.length ≤ 2 ∧ ∀ x ∈ ds, atomD x = true ∧ oddOk x = true
theorem OddV.flat {H H2 : Hp} {v : V} {d : PyData} (h : Dz true H2 v d) (o : oddOk d = true) (a : atomD d = true) : OddV H H2 v d := by
  refine ⟨h, o, fun p e => ?_, fun ds e => ?_⟩
  · subst e
    cases h <;> cases a
  · subst e
    cases a
theorem OddV.s {H H2 : Hp} {l : List Nat} (h : ∀ c ∈ l, c < 128) (n : l.length ≤ 100) : OddV H H2 (.str (S l)) (.str (S l)) := .flat (.str _) (odd_asc h n) rfl
def poolS : List Str := ["ab", "a", "abc", "a-", "a0", "10", "9", "-", "log-0010", "log-0002", "zzzzzzzzzzzz", "b"]
theorem pool_at {r : Int} (h0 : 0 ≤ r) (h : r < 12) : ∃ n, atI (poolS.map V.str) r = some (.str n) ∧ nmS n = true := by
  obtain ⟨v, h1, h2, _⟩ := atI_some (xs := poolS.map V.str) h0 (by show _ < 12; exact h)
  obtain ⟨n, hn, rfl⟩ := List.mem_map.mp h2
  exact ⟨n, h1, List.all_eq_true.mp (show (poolS.all nmS) = true by decide +kernel) n hn⟩
theorem vInt {i j : Int} (h : (false ^^ decide (V.int i = V.int j)) = true) : i = j := by
  rw [Bool.false_xor] at h
  exact V.int.inj (of_decide_eq_true h)
theorem vIntN {i j : Int} (h : ¬ (false ^^ decide (V.int i = V.int j)) = true) : i ≠ j := fun z => h (by rw [z, decide_eq_true rfl]; rfl)
theorem mem_asc {l : List Nat} (h : ∀ c ∈ l, c ∈ mrk) : ∀ c ∈ l, c < 128 := fun c hc => by have := mrk_pr c (h c hc); omega
/-- a sign put into a text -/
theorem put_len {l : List Nat} {j c : Nat} : (l.take j ++ [c] ++ l.drop j).length = l.length + 1 := by
  rw [List.length_append, List.length_append, List.length_take, List.length_drop, List.length_singleton]
  omega
theorem put_asc {l : List Nat} {j c : Nat} (h : ∀ c ∈ l, c < 128) (hc : c < 128) : ∀ x ∈ l.take j ++ [c] ++ l.drop j, x < 128 := fun x hx => by
  rw [List.append_assoc, List.mem_append, List.mem_append, List.mem_singleton] at hx
  rcases hx with hx | rfl | hx
  · exact h x (List.mem_of_mem_take hx)
  · exact hc
  · exact h x (List.mem_of_mem_drop hx)
theorem put_in {l : List Nat} {j c : Nat} : c ∈ l.take j ++ [c] ++ l.drop j := by simp
theorem odd_marks {i : Int} (h0 : 0 ≤ i) (h1 : i < 9) : ∃ c : Nat, atI ("A_ .\n/~:\t" : Str).cps.toList i = some c ∧ c < 128 := by
  have e : ("A_ .\n/~:\t" : Str).cps.toList = [65, 95, 32, 46, 10, 47, 126, 58, 9] := by decide +kernel
  rw [e]
  obtain ⟨c, h, hm, _⟩ := atI_some (xs := [65, 95, 32, 46, 10, 47, 126, 58, 9]) h0 (by exact h1)
  refine ⟨c, h, ?_⟩
  simp only [List.mem_cons, List.not_mem_nil, or_false] at hm
  omega
theorem nm_asc {n : Str} (h : nmS n = true) : ∀ c ∈ n.cps.toList, c < 128 := fun c hc => by have := alf_pr c ((nm_of h).2.2 c hc); omega
theorem OddV.nm {H H2 : Hp} {n : Str} (h : nmS n = true) : OddV H H2 (.str n) (.str n) := by
  have := OddV.s (H := H) (H2 := H2) (l := n.cps.toList) (nm_asc h) (by rw [len_cps]; have := nm_of h; omega)
  rw [← S_cps] at this
  exact this
theorem ne_names {K : PySem.W.Frag} {H : Hp} {p q : Addr} {ns : List Str} (h : ∀ n ∈ ns, nmS n = true) (hp : SqL K H p (ns.map V.str)) (hq : SqL K H q []) :
    ∃ d e, Dp K H (.ref p) d ∧ Dp K H (.ref q) e ∧ SeqAt.shaped d = true ∧ SeqAt.shaped e = true ∧ PyData.eqv d e = ns.isEmpty := by
  rw [namesV] at hp
  refine ⟨_, _, dp_strs hp, dp_strs (ls := []) hq, shaped_strs (names_pr h), shaped_strs (ls := []) (fun _ z => by cases z), ?_⟩
  unfold strsD
  rw [show ([] : List (List Nat)).map (fun l => PyData.str (S l)) = [] from rfl, eqv_nil]
  cases ns <;> rfl
theorem zTr_bl {K : PySem.W.Frag} {b : Bool} {H : Hp} {Q : Bool → Hp → Prop} (h : Q b H) : zTr K (.bl b) H Q := h
theorem zB_bl {b : Bool} {H : Hp} {Q : Bool → Hp → Prop} (h : Q b H) : zB (.bl b) H Q := h
local macro_rules | `(tactic| walk_at "past") => `(tactic| (refine zTr_bl ?_; dsimp only; rw [if_neg (show ¬ (!true) = true by decide)]))
theorem in2 {i a b : Int} : inV (.int i) [.int a, .int b] = (a == i || (b == i || false)) := rfl
theorem in2Y {i a b : Int} (h : i = a ∨ i = b) : (false ^^ inV (.int i) [.int a, .int b]) = true := by
  rw [in2, Bool.false_xor]
  rcases h with rfl | rfl <;> simp
theorem in2N {i a b : Int} (h : i ≠ a) (k : i ≠ b) : (false ^^ inV (.int i) [.int a, .int b]) = false := by
  rw [in2, Bool.false_xor]
  simp [Ne.symm h, Ne.symm k]
theorem lawPut {H : Hp} {L pn : Addr} {D : Ds} {n t : Str} {m : Nat} {kvs : List (Key × V)} {adr : Str → Addr} (tb : Tb kvs D.names (fun j => .ref (adr j))) (hp : ∀ j ∈ D.names, H (adr j) = some (.lst [.str (D.txt j), .int (D.sy j : Nat)]))
    (hL : H L = some (.dK (putK kvs (Sum.inr n) (.ref pn)))) (hn : H pn = some (.lst [.str t, .int (m : Nat)])) : LawAt H L (D.put n t m) := by
  refine ⟨_, fun j => if j = n then pn else adr j, hL, (tb.put n (.ref pn)).ext fun j => by by_cases z : j = n <;> simp [z], fun j hj => ?_⟩
  show H (if j = n then pn else adr j) = some (.lst [.str (if j = n then t else D.txt j), .int ((if j = n then m else D.sy j : Nat) : Int)])
  by_cases z : j = n
  · rw [if_pos z, if_pos z, if_pos z]
    exact hn
  · rw [if_neg z, if_neg z, if_neg z]
    refine hp j ?_
    have hj : j ∈ (if n ∈ D.names then D.names else D.names ++ [n]) := hj
    split at hj
    · exact hj
    · exact (List.mem_append.mp hj).elim id fun w => (z (List.mem_singleton.mp w)).elim
theorem lawDrop {H : Hp} {L : Addr} {D : Ds} {n : Str} {kvs : List (Key × V)} {adr : Str → Addr} (tb : Tb kvs D.names (fun j => .ref (adr j))) (hp : ∀ j ∈ D.names, H (adr j) = some (.lst [.str (D.txt j), .int (D.sy j : Nat)]))
    (hL : H L = some (.dK (dropK kvs (Sum.inr n)))) : LawAt H L (D.drop n) := ⟨_, adr, hL, tb.drop n, fun j hj => hp j (List.mem_filter.mp hj).1⟩
/-- a call judged ahead of it -/
def CJ (D : Ds) (i : Int) (nm tx : V) (H : Hp) (R : Str → V → Prop) (G : Str → Str → Prop) : Prop := (BadN H nm ∧ R "name" nm) ∨ (i < 2 ∧ ∃ n, nm = .str n ∧ nmS n = true ∧ BadT H tx ∧ R "text" tx) ∨ (2 ≤ i ∧ ∃ n, nm = .str n ∧ nmS n = true ∧ n ∉ D.names ∧ R "none" nm) ∨
  ∃ n t, nm = .str n ∧ nmS n = true ∧ (i < 2 → tx = .str t ∧ mkS t = true ∧ txOk (.str t) = true) ∧ (2 ≤ i → n ∈ D.names) ∧ G n t
/-- a pair that tells of a refused call, of a done one -/
def Rp (H : Hp) (Q : VK) (w : Str) (x : V) : Prop := ∀ p H2, Same H H2 → H p = none → p ≠ sysModules → H2 p = some (.lst [.str w, x]) → Q (.ref p) H2
theorem sw_w {w : Str} (h : w ∈ (["told", "name", "text", "none"] : List Str)) : Sw 3 100000 (.str w) := by
  have all : ((["told", "name", "text", "none"] : List Str).all fun w => oddOk (.str w)) = true := by decide +kernel
  exact (sw_odd (List.all_eq_true.mp all w h)).mono (by decide) (by decide)
theorem sw2 {w : Str} {d : PyData} (hw : w ∈ (["told", "name", "text", "none"] : List Str)) (sw : Sw 3 100000 d) : (PyData.list [.str w, d]).showable = true ∧ (PyData.list [.str w, d]).depth ≤ 60 ∧ (PyData.list [.str w, d]).shown.length ≤ sizeLine := by
  have := Sw.list (k := 3) (B := 100000) (m := 2) (ds := [.str w, d]) (fun x hx => by
    simp only [List.mem_cons, List.not_mem_nil, or_false] at hx
    rcases hx with rfl | rfl
    · exact sw_w hw
    · exact sw) (by simp)
  exact ⟨this.sh, Nat.le_trans this.dp (by decide), sz (Nat.le_trans this.ln (by decide))⟩
theorem dz2 {H : Hp} {p : Addr} {w : Str} {v : V} {d : PyData} (h : H p = some (.lst [.str w, v])) (n : p ≠ sysModules) (hd : Dz true H v d) : Dz true H (.ref p) (.list [.str w, d]) := .lst h (fun _ => n) (.cons (.str _) (.cons hd .nil))
theorem ix0 {n : Nat} (h : 0 < n) : ixN n 0 = some 0 := by
  unfold ixN
  rw [if_pos (Int.le_refl 0), if_pos (by omega)]
  rfl
theorem isK_list : isK "list" "list" = true := by decide
theorem sw_str {x : Str} (h : x.length ≤ 2000) (hc : ∀ c ∈ x.cps.toList, c < 16 ^ 8) : Sw 0 30000 (.str x) := by
  have e : (PyData.str x).shown = reprText x := by simp only [PyData.shown]
  have r := PySem.StrLaws.reprText_len x hc
  exact ⟨rfl, Nat.le_refl _, by rw [e]; omega⟩
theorem sw_int {i : Int} (h0 : 0 ≤ i) (h1 : i ≤ 10000000) : Sw 0 30000 (.int i) := by
  have := sw_odd (odd_int (i := i) (by omega))
  exact ⟨this.sh, Nat.le_refl _, Nat.le_trans this.ln (by decide)⟩
/-- a list of two flat things, shown -/
theorem sw_two {x y : PyData} (hx : Sw 0 30000 x) (hy : Sw 0 30000 y) (ax : atomD x = true) (ay : atomD y = true) : ((PyData.list [x, y]).hasDict = true → false = true) ∧ (PyData.list [x, y]).showable = true ∧ (PyData.list [x, y]).depth ≤ 60 ∧ (PyData.list [x, y]).shown.length ≤ sizeLine := by
  have := Sw.list (k := 0) (B := 30000) (m := 2) (ds := [x, y]) (fun z hz => by
    simp only [List.mem_cons, List.not_mem_nil, or_false] at hz
    rcases hz with rfl | rfl
    · exact hx
    · exact hy) (by simp)
  refine ⟨fun z => ?_, this.sh, Nat.le_trans this.dp (by decide), sz (Nat.le_trans this.ln (by decide))⟩
  have e : (PyData.list [x, y]).hasDict = PyData.hasDictAll [x, y] := by simp only [PyData.hasDict]
  rw [e, atom_dict (fun d hd => by
    simp only [List.mem_cons, List.not_mem_nil, or_false] at hd
    rcases hd with rfl | rfl <;> assumption)] at z
  exact z
theorem dzTwo {H : Hp} {p : Addr} {x y : V} {d e : PyData} (h : H p = some (.lst [x, y])) (hx : Dz false H x d) (hy : Dz false H y e) : Dz false H (.ref p) (.list [d, e]) := .lst h (fun z => by cases z) (.cons hx (.cons hy .nil))
/-! ### two sides -/
structure Sd where
  a : Addr
  f : Addr
  m : Addr
  L : Addr
  cc : Addr
  D : Ds
  c : Int
def Sd.ads (x : Sd) : List Addr := [x.a, x.f, x.m, x.L, x.cc]
def SideAt (K : PySem.W.Frag) (H : Hp) (x : Sd) : Prop := DiskAt K H x.a x.f x.m x.D x.c .non ∧ LawAt H x.L x.D ∧ H x.cc = some (.lst [.int x.c]) ∧ x.L ≠ x.f ∧ x.L ≠ x.m
/-- what stands at a side's addresses -/
theorem SideAt.objs {K : PySem.W.Frag} {H : Hp} {x : Sd} (h : SideAt K H x) : ∀ b ∈ x.ads, (∃ C dx fs, H b = some (.ins C dx fs)) ∨ (∃ kvs, H b = some (.dK kvs)) ∨ ∃ c, H b = some (.lst [.int c]) := by
  obtain ⟨⟨n, C, dx, kf, km, hc, h1, h2, h3, t⟩, ⟨kvs, adr, h4, t4⟩, h5, h6, h7⟩ := h
  intro b hb
  simp only [Sd.ads, List.mem_cons, List.not_mem_nil, or_false] at hb
  rcases hb with rfl | rfl | rfl | rfl | rfl
  · exact .inl ⟨_, _, _, h1⟩
  · exact .inr (.inl ⟨_, h2⟩)
  · exact .inr (.inl ⟨_, h3⟩)
  · exact .inr (.inl ⟨_, h4⟩)
  · exact .inr (.inr ⟨_, h5⟩)
theorem SideAt.no {K : PySem.W.Frag} {H : Hp} {x : Sd} (h : SideAt K H x) {b : Addr} (hb : b ∈ x.ads) {xs : List V} (ne : ∀ c, xs ≠ [.int c]) : H b ≠ some (.lst xs) := fun e => by
  rcases h.objs b hb with ⟨C, dx, fs, z⟩ | ⟨kvs, z⟩ | ⟨c, z⟩
  · rw [z] at e; cases e
  · rw [z] at e; cases e
  · rw [z] at e; cases e; exact ne c rfl
theorem SideAt.kp {K : PySem.W.Frag} {H H2 : Hp} {x : Sd} {l : List Addr} (h : SideAt K H x) (k : Kp l H H2) (n : ∀ b ∈ x.ads, b ∉ l) (np : ∀ b ∈ l, ∀ t i, H b ≠ some (.lst [.str t, .int i])) : SideAt K H2 x := by
  obtain ⟨h1, h2, h3, h4, h5⟩ := h
  have na := n x.a (by simp [Sd.ads])
  have nf := n x.f (by simp [Sd.ads])
  have nm := n x.m (by simp [Sd.ads])
  have nL := n x.L (by simp [Sd.ads])
  have nc := n x.cc (by simp [Sd.ads])
  exact ⟨h1.kp k na nf nm, h2.kp k nL np, k.at nc h3, h4, h5⟩
/-- two sides, behind so many turns -/
def Pair (K : PySem.W.Frag) (Hb H : Hp) (dl fl cl : Addr) (s : Int → Sd) (t : Nat) : Prop := Same Hb H ∧ H dl = some (.lst [.ref (s 0).a, .ref (s 1).a]) ∧ H fl = some (.lst [.ref (s 0).L, .ref (s 1).L]) ∧ H cl = some (.lst [.ref (s 0).cc, .ref (s 1).cc]) ∧
  (∀ i, i = 0 ∨ i = 1 → SideAt K H (s i) ∧ Dok t (s i).D ∧ 0 ≤ (s i).c ∧ (s i).c ≤ t ∧ ∀ p ∈ (s i).ads, Hb p = none) ∧ ∀ p ∈ (s 0).ads, p ∉ (s 1).ads
theorem Pair.same {K : PySem.W.Frag} {Hb H H2 : Hp} {dl fl cl : Addr} {s : Int → Sd} {t : Nat} (h : Pair K Hb H dl fl cl s t) (e : Same H H2) : Pair K Hb H2 dl fl cl s t := by
  obtain ⟨h0, h1, h2, h3, h4, h5⟩ := h
  exact ⟨h0.trans e, e _ _ h1, e _ _ h2, e _ _ h3, fun i hi => ⟨(h4 i hi).1.kp (Kp.same (l := []) e) (fun _ _ => List.not_mem_nil) (fun _ z => by cases z), (h4 i hi).2⟩, h5⟩
theorem Pair.mono {K : PySem.W.Frag} {Hb H : Hp} {dl fl cl : Addr} {s : Int → Sd} {t u : Nat} (h : Pair K Hb H dl fl cl s t) (e : t ≤ u) : Pair K Hb H dl fl cl s u := by
  obtain ⟨h0, h1, h2, h3, h4, h5⟩ := h
  exact ⟨h0, h1, h2, h3, fun i hi => ⟨(h4 i hi).1, (h4 i hi).2.1.mono e, (h4 i hi).2.2.1, by have := (h4 i hi).2.2.2.1; omega, (h4 i hi).2.2.2.2⟩, h5⟩
theorem Pair.box {K : PySem.W.Frag} {Hb H H2 : Hp} {dl fl cl bx : Addr} {s : Int → Sd} {t n : Nat} (h : Pair K Hb H dl fl cl s t) (B : BoxAt n H bx) (nb : Hb bx = none) (e : But bx H H2) : Pair K Hb H2 dl fl cl s t := by
  obtain ⟨h0, h1, h2, h3, h4, h5⟩ := h
  obtain ⟨g, fl', sd, cn, hb, _⟩ := B
  refine ⟨h0.but nb e, e.at (ne_obj h1 hb (by simp)) h1, e.at (ne_obj h2 hb (by simp)) h2, e.at (ne_obj h3 hb (by simp)) h3, fun i hi => ⟨(h4 i hi).1.kp (Kp.but e) (fun b hm z => ?_) (fun b z t i => ?_), (h4 i hi).2⟩, h5⟩
  · rw [List.mem_singleton] at z
    subst z
    exact (h4 i hi).1.no hm (fun c => by simp) hb
  · rw [List.mem_singleton] at z
    subst z
    rw [hb]
    simp
def Sd.upd (s : Int → Sd) (i : Int) (D : Ds) (c : Int) : Int → Sd := fun j => if j = i then ⟨(s i).a, (s i).f, (s i).m, (s i).L, (s i).cc, D, c⟩ else s j
theorem Sd.upd_eq {s : Int → Sd} {i : Int} {D : Ds} {c : Int} : Sd.upd s i D c i = ⟨(s i).a, (s i).f, (s i).m, (s i).L, (s i).cc, D, c⟩ := if_pos rfl
theorem Sd.upd_ne {s : Int → Sd} {i j : Int} {D : Ds} {c : Int} (h : j ≠ i) : Sd.upd s i D c j = s j := if_neg h
theorem Sd.upd_ads {s : Int → Sd} {i j : Int} {D : Ds} {c : Int} : (Sd.upd s i D c j).ads = (s j).ads := by
  by_cases e : j = i
  · subst e; rw [Sd.upd_eq]; rfl
  · rw [Sd.upd_ne e]
theorem Pair.step {K : PySem.W.Frag} {Hb H H2 : Hp} {dl fl cl : Addr} {s : Int → Sd} {t : Nat} {at' : Int} {D : Ds} {c : Int} (h : Pair K Hb H dl fl cl s t) (ha : at' = 0 ∨ at' = 1) (k : Kp (s at').ads H H2) (h1 : DiskAt K H2 (s at').a (s at').f (s at').m D c .non)
    (h2 : LawAt H2 (s at').L D) (h3 : H2 (s at').cc = some (.lst [.int c])) (hk : Dok (t + 1) D) (c0 : 0 ≤ c) (c1 : c ≤ (t + 1 : Nat)) : ∃ s', Pair K Hb H2 dl fl cl s' (t + 1) := by
  obtain ⟨g0, g1, g2, g3, g4, g5⟩ := h
  have sd := g4 at' ha
  have keep : ∀ {p : Addr} {xs : List V}, (∀ c, xs ≠ [.int c]) → H p = some (.lst xs) → H2 p = some (.lst xs) := fun {p xs} ne e => k.at (fun z => sd.1.no z ne e) e
  have sb : Same Hb H2 := fun p o e => k.at (fun z => by rw [sd.2.2.2.2 p z] at e; cases e) (g0 p o e)
  have other : ∀ j, (j = 0 ∨ j = 1) → j ≠ at' → ∀ p ∈ (s j).ads, p ∉ (s at').ads := by
    intro j hj ne p hp z
    rcases hj with rfl | rfl <;> rcases ha with rfl | rfl
    · exact ne rfl
    · exact g5 p hp z
    · exact g5 p z hp
    · exact ne rfl
  have ex : ∀ j, (j = 0 ∨ j = 1) → j ≠ at' → SideAt K H2 (s j) := fun j hj ne => (g4 j hj).1.kp k (other j hj ne) fun b z t i => sd.1.no z (fun c => by simp)
  refine ⟨Sd.upd s at' D c, sb, ?_, ?_, ?_, fun j hj => ?_, fun p hp z => ?_⟩
  · rw [keep (fun c => by simp) g1]
    rcases ha with rfl | rfl <;> rfl
  · rw [keep (fun c => by simp) g2]
    rcases ha with rfl | rfl <;> rfl
  · rw [keep (fun c => by simp) g3]
    rcases ha with rfl | rfl <;> rfl
  · by_cases e : j = at'
    · subst e
      rw [Sd.upd_eq]
      exact ⟨⟨h1, h2, h3, sd.1.2.2.2⟩, hk, c0, c1, sd.2.2.2.2⟩
    · rw [Sd.upd_ne e]
      exact ⟨ex j hj e, (g4 j hj).2.1.mono (by omega), (g4 j hj).2.2.1, by have := (g4 j hj).2.2.2.1; omega, (g4 j hj).2.2.2.2⟩
  · rw [Sd.upd_ads] at hp z
    exact g5 p hp z
theorem OddV.but {n : Nat} {H H2 H3 : Hp} {bx : Addr} {v : V} {d : PyData} (h : OddV H H2 v d) (B : BoxAt n H2 bx) (t : But bx H2 H3) : OddV H H3 v d := by
  obtain ⟨g, fl, sd, cn, hb, _⟩ := B
  exact ⟨Dz.but hb rfl t h.1 (odd_nobox h.2.1), h.2⟩
theorem OddV.same {H H2 H3 : Hp} {v : V} {d : PyData} (h : OddV H H2 v d) (t : Same H2 H3) : OddV H H3 v d := ⟨Dz.same t h.1, h.2⟩
theorem OddV.old {n : Nat} {H0 H H2 : Hp} {bx : Addr} {v : V} {d : PyData} (h : OddV H H2 v d) (t : But bx H0 H) (B : BoxAt n H bx) : OddV H0 H2 v d := by
  refine ⟨h.1, h.2.1, fun p e => ?_, h.2.2.2⟩
  have z := h.2.2.1 p e
  cases q : H0 p with
  | none => rfl
  | some o =>
    by_cases c : p = bx
    · obtain ⟨o, hb⟩ := B.some
      rw [c, hb] at z
      cases z
    · rw [t.at c q] at z
      cases z
theorem two_at {g : Int → Addr} {r : Int} (h : r = 0 ∨ r = 1) : atI [V.ref (g 0), .ref (g 1)] r = some (.ref (g r)) := by rcases h with rfl | rfl <;> rfl
/-- the ways a turn may go -/
theorem list_or {d : PyData} : isK (kindD d) "list" = false ∨ ∃ ds, d = .list ds := by
  cases d with
  | list ds => exact .inr ⟨ds, rfl⟩
  | none => exact .inl (by decide)
  | bool _ => exact .inl rfl
  | int _ => exact .inl rfl
  | str _ => exact .inl rfl
  | tuple _ => exact .inl rfl
  | dict _ => exact .inl rfl
theorem dz_list {g : Bool} {H : Hp} {v : V} {ds : List PyData} (h : Dz g H v (.list ds)) : ∃ b, v = .ref b ∧ ∃ o, H b = some o := by
  cases h with
  | lst h n a => exact ⟨_, rfl, _, h⟩
theorem cs_of {H H2 : Hp} {D : Ds} {i : Int} {nm tx : V} {d e : PyData} (oN : OddV H H2 nm d) (oT : OddV H H2 tx e) (ok : nmOk d = true) (oke : txOk e = true) :
    (nmD d = false ∧ ∃ ds bb o, d = .list ds ∧ nm = .ref bb ∧ H2 bb = some o) ∨ (nmD d = false ∧ isK (kindD d) "list" = false) ∨
    ((∃ n, nm = .str n ∧ nmS n = true) ∧ i < 2 ∧ txD e = false ∧ ∃ ds bb o, e = .list ds ∧ tx = .ref bb ∧ H2 bb = some o) ∨ ((∃ n, nm = .str n ∧ nmS n = true) ∧ i < 2 ∧ txD e = false ∧ isK (kindD e) "list" = false) ∨
    (∃ n, nm = .str n ∧ d = .str n ∧ nmS n = true ∧ 2 ≤ i ∧ n ∉ D.names) ∨ ∃ n t, nm = .str n ∧ nmS n = true ∧ (i < 2 → tx = .str t ∧ mkS t = true ∧ txOk (.str t) = true) ∧ (2 ≤ i → n ∈ D.names) := by
  cases hd : nmD d with
  | false =>
    rcases list_or (d := d) with h | ⟨ds, h⟩
    · exact .inr (.inl ⟨rfl, h⟩)
    · subst h
      obtain ⟨b, e1, o, e2⟩ := dz_list oN.1
      exact .inl ⟨rfl, ds, b, o, rfl, e1, e2⟩
  | true =>
    cases d with
    | str n =>
      have hn : nmS n = true := hd
      have en : nm = .str n := by cases oN.1; rfl
      by_cases hi : i < 2
      · cases he : txD e with
        | false =>
          rcases list_or (d := e) with h | ⟨ds, h⟩
          · exact .inr (.inr (.inr (.inl ⟨⟨n, en, hn⟩, hi, rfl, h⟩)))
          · subst h
            obtain ⟨b, e1, o, e2⟩ := dz_list oT.1
            exact .inr (.inr (.inl ⟨⟨n, en, hn⟩, hi, rfl, ds, b, o, rfl, e1, e2⟩))
        | true =>
          cases e with
          | str t => exact .inr (.inr (.inr (.inr (.inr ⟨n, t, en, hn, fun _ => ⟨by cases oT.1; rfl, he, oke⟩, fun z => absurd hi (by omega)⟩))))
          | _ => cases he
      · by_cases hm : n ∈ D.names
        · exact .inr (.inr (.inr (.inr (.inr ⟨n, "", en, hn, fun z => absurd z hi, fun _ => hm⟩))))
        · exact .inr (.inr (.inr (.inr (.inl ⟨n, en, rfl, hn, by omega, hm⟩))))
    | _ => cases hd
theorem tx_len {x : Str} (h : txOk (.str x) = true) : x.length ≤ 30 := by
  have h : (asciiS x && decide (x.length ≤ 30) && _) = true := h
  rw [Bool.and_eq_true, Bool.and_eq_true] at h
  exact of_decide_eq_true h.1.2
theorem sw_up {d : PyData} (h : oddOk d = true) : Sw 3 100000 d := (sw_odd h).mono (Nat.le_refl _) (by decide)
/-- the parts of a list that is odd -/
theorem odd_parts {H H2 : Hp} {v : V} {ds : List PyData} (h : OddV H H2 v (.list ds)) : (∀ x ∈ ds, atomD x = true) ∧ (∀ x ∈ ds, Sw 3 2000 x) ∧ ds.length ≤ 2 := by
  obtain ⟨a, b, c, e⟩ := h
  obtain ⟨l, at'⟩ := e ds rfl
  exact ⟨fun x hx => (at' x hx).1, fun x hx => sw_odd (at' x hx).2, l⟩
theorem nocc {H : Hp} {b cc : Addr} {n : Nat} {c : Int} (B : BoxAt n H b) (h : H cc = some (.lst [.int c])) : cc ≠ b := fun e => by
  obtain ⟨g, f, s, x, hb, _⟩ := B
  rw [e, hb] at h
  cases h
/-- counts at p, in a list or a tuple -/
def KpsAt (H : Hp) (p : Addr) (ks : List Int) : Prop := (H p = some (.lst (ks.map V.int)) ∨ H p = some (.tup (ks.map V.int))) ∧ (∀ x ∈ ks, 0 ≤ x ∧ x < 2 ^ 59) ∧ ks.length ≤ 100
theorem KpsAt.same {H H2 : Hp} {p : Addr} {ks : List Int} (h : KpsAt H p ks) (s : Same H H2) : KpsAt H2 p ks := ⟨h.1.elim (fun e => .inl (s _ _ e)) fun e => .inr (s _ _ e), h.2⟩
theorem KpsAt.sq {K : PySem.W.Frag} {H : Hp} {p : Addr} {ks : List Int} (h : KpsAt H p ks) : SqL K H p (ks.map V.int) ∨ SqT K H p (ks.map V.int) := h.1.elim (fun e => .inl (SqL.of e)) fun e => .inr (SqT.of e)
theorem dz_ints {g : Bool} {H : Hp} : ∀ ks : List Int, DzAll g H (ks.map V.int) (ks.map PyData.int)
  | [] => .nil
  | k :: r => .cons (.int k) (dz_ints r)
theorem KpsAt.vd {H : Hp} {p : Addr} {ks : List Int} (h : KpsAt H p ks) : ∃ d, Vd H (.ref p) d ∧ keepsD d = true ∧ ∀ ds, d = .list ds ∨ d = .tuple ds → ds.length ≤ 1000 := by
  have all : (ks.map PyData.int).all cntD = true := by
    rw [List.all_eq_true]
    intro d hd
    obtain ⟨k, hk, rfl⟩ := List.mem_map.mp hd
    exact decide_eq_true (h.2.1 k hk).1
  rcases h.1 with e | e
  · exact ⟨_, ⟨false, .lst e (fun z => by cases z) (dz_ints ks)⟩, all, fun ds e => by
      rcases e with e | e
      · cases e
        rw [List.length_map]
        have := h.2.2
        omega
      · cases e⟩
  · exact ⟨_, ⟨false, .tup e (dz_ints ks)⟩, all, fun ds e => by
      rcases e with e | e
      · cases e
      · cases e
        rw [List.length_map]
        have := h.2.2
        omega⟩
theorem mod_nat (i n : Nat) : (i : Int) % (n : Int) = ((i % n : Nat) : Int) := rfl
theorem ks_at {ks : List Int} {i : Nat} (h : ks.length ≠ 0) : atI (ks.map V.int) ((i : Int) % (ks.length : Int)) = some (.int (ks.getD (i % ks.length) 0)) := by
  have lt : i % ks.length < ks.length := Nat.mod_lt _ (by omega)
  rw [mod_nat]
  refine atI_nat ?_
  rw [List.getElem?_map, List.getElem?_eq_getElem lt]
  simp [List.getD, List.getElem?_eq_getElem lt]
def sp_is_list (K : PySem.W.Frag) : Sp := sp1 fun v H Q _ => ∃ k, KindV K H v k ∧ ∀ H2, Same H H2 → Q (.bl (isK k "list" || isK k "tuple")) H2
def sp_is_integer (K : PySem.W.Frag) : Sp := sp1 fun v H Q _ => ∃ d, Vd H v d ∧ Q (.bl (intD d)) H
def sp_is_count (K : PySem.W.Frag) : Sp := sp1 fun v H Q _ => ∃ d, Vd H v d ∧ Q (.bl (cntD d)) H
def sp_are_keeps (K : PySem.W.Frag) : Sp := sp1 fun v H Q _ => ∃ d, Vd H v d ∧ (∀ ds, d = .list ds ∨ d = .tuple ds → ds.length ≤ 1000) ∧ ∀ H2, Same H H2 → Q (.bl (keepsD d)) H2
def sp_signs_kept (K : PySem.W.Frag) : Sp := sp4 fun sg mk pl kp H Q _ => ∃ (s : Nat) (m : Nat) (i : Nat) (p : Addr) (ks : List Int), sg = .int (s : Nat) ∧ mk = .int (m : Nat) ∧ pl = .int (i : Nat) ∧ kp = .ref p ∧ KpsAt H p ks ∧ m ≤ s ∧
  Q (.int (if ks.length = 0 then (m : Nat) else (m : Nat) + ks.getD (i % ks.length) 0 % ((s : Int) - (m : Nat) + 1))) H
def sp_Disk_fall (K : PySem.W.Frag) : Sp := sp2 fun self kp H Q E => ∃ a f m D c lf k, self = .ref a ∧ DiskAt K H a f m D c lf ∧ Dok k D ∧ Sm D ∧ k ≤ 60 ∧
  ((∃ d, Vd H kp d ∧ (∀ ds, d = .list ds ∨ d = .tuple ds → ds.length ≤ 1000) ∧ keepsD d = false ∧ Rz K "InvalidKeeps" "given" kp H E) ∨
   ∃ p ks, kp = .ref p ∧ KpsAt H p ks ∧ ∀ (ys : List Str) f2 m2 H2, ys.Perm D.names → sortedS ys = true → H f2 = none → H m2 = none → Kp [a] H H2 → DiskAt K H2 a f2 m2 (falN D ks ys ys.length) (c + 1) .non → Q .non H2)

def sp__law_fallen (K : PySem.W.Frag) : Sp := sp2 fun fl kp H Q _ => ∃ L D p ks k, fl = .ref L ∧ kp = .ref p ∧ LawAt H L D ∧ KpsAt H p ks ∧ Dok k D ∧ Sm D ∧ k ≤ 60 ∧
  ∀ (ys : List Str) q H2, ys.Perm D.names → sortedS ys = true → Same H H2 → H q = none → LawAt H2 q (falN D ks ys ys.length) → Q (.ref q) H2
def lfV : Option Nat → V
  | none => .non
  | some n => .int (n : Nat)
def dec : Option Nat → Option Nat := fun l => l.map (· - 1)
/-- the power is there, or it is away -/
def Pw (K : PySem.W.Frag) (l : Option Nat) (H : Hp) (E : XK) (G : Prop) : Prop := (l = some 0 ∧ Rz0 K "PowerCut" H E) ∨ (l ≠ some 0 ∧ G)
def sp_Disk_use_power (K : PySem.W.Frag) : Sp := sp1 fun self H Q E => ∃ a f m D c l, self = .ref a ∧ DiskAt K H a f m D c (lfV l) ∧ Pw K l H E (∀ H2, Kp [a] H H2 → DiskAt K H2 a f m D (c + 1) (lfV (dec l)) → Q .non H2)
theorem mk_pr {x : Str} (b : mkS x = true) : asciiS x = true ∧ prS x = true := by
  obtain ⟨_, h⟩ := mk_of b
  have p : Pr x.cps.toList := fun c hc => mrk_pr c (h c hc)
  rw [S_cps x]
  exact ⟨asc_of (lt_pr p), prS_of p⟩
theorem tx_right' {x : Str} (b : mkS x = true) : signsD (.str x) = true ∧ (false ^^ decide (V.str x = V.str "")) = false := by
  refine ⟨(mk_pr b).2, ?_⟩
  rw [Bool.false_xor]
  refine decide_eq_false fun z => ?_
  cases z
  exact (mk_of b).1 (by decide)
theorem txt_ok' {x : Str} (b : mkS x = true) (l : x.length ≤ 3000) : txt (.str x) = true := by
  show (asciiS x && decide (x.length ≤ 1000000)) = true
  rw [(mk_pr b).1, decide_eq_true (p := x.length ≤ 1000000) (by omega)]
  rfl
def sp_Disk_write (K : PySem.W.Frag) : Sp := sp3 fun self nm tx H Q E => ∃ a f m D c l k, self = .ref a ∧ DiskAt K H a f m D c (lfV l) ∧ Dok k D ∧ k ≤ 1000 ∧
  ((BadN H nm ∧ Rz K "InvalidName" "given" nm H E) ∨ (∃ n, nm = .str n ∧ nmS n = true ∧ BadT H tx ∧ Rz K "InvalidText" "given" tx H E) ∨
   ∃ n t, nm = .str n ∧ tx = .str t ∧ nmS n = true ∧ mkS t = true ∧ t.length ≤ 3000 ∧ Pw K l H E (∀ H2, Kp [a, f, m] H H2 → DiskAt K H2 a f m (D.put n (D.tx n ++ t) (D.mt n)) (c + 1) (lfV (dec l)) → Q .non H2))
def sp_Disk_sync (K : PySem.W.Frag) : Sp := sp2 fun self nm H Q E => ∃ a f m D c l k, self = .ref a ∧ DiskAt K H a f m D c (lfV l) ∧ Dok k D ∧ k ≤ 1000 ∧
  NmJ K D nm H E fun n => Pw K l H E (∀ H2, Kp [a, f, m] H H2 → DiskAt K H2 a f m (D.put n (D.txt n) (D.txt n).length) (c + 1) (lfV (dec l)) → Q .non H2)
def sp_Disk_drop (K : PySem.W.Frag) : Sp := sp2 fun self nm H Q E => ∃ a f m D c l, self = .ref a ∧ DiskAt K H a f m D c (lfV l) ∧
  NmJ K D nm H E fun n => Pw K l H E (∀ H2, Kp [a, f, m] H H2 → DiskAt K H2 a f m (D.drop n) (c + 1) (lfV (dec l)) → Q .non H2)
def cntN : PyData → Bool
  | .none => true
  | d => cntD d
def sp_Disk_arm (K : PySem.W.Frag) : Sp := sp2 fun self op H Q E => ∃ a f m D c lf, self = .ref a ∧ DiskAt K H a f m D c lf ∧
  ((∃ d, Vd H op d ∧ cntN d = false ∧ Rz K "InvalidCount" "given" op H E) ∨ ∃ l, op = lfV l ∧ ∀ H2, Kp [a] H H2 → DiskAt K H2 a f m D c (lfV l) → Q .non H2)
def sp_Disk_copy (K : PySem.W.Frag) : Sp := sp1 fun self H Q _ => ∃ a f m D c lf, self = .ref a ∧ DiskAt K H a f m D c lf ∧ ∀ a2 f2 m2 H2, H a2 = none → H f2 = none → H m2 = none → Same H H2 → DiskAt K H2 a2 f2 m2 D c lf → Q (.ref a2) H2
/-- the same files: names, texts, synced parts -/
def sameD (D E : Ds) : Bool := decide (D.names.length = E.names.length) && (D.names.all fun n => decide (n ∈ E.names) && decide (D.txt n = E.txt n)) && (D.names.all fun n => decide (n ∈ E.names) && decide (D.sy n = E.sy n))
theorem eqS (x y : Str) : decide (x = y) = eqV (V.str x) (V.str y) := by
  rw [Bool.eq_iff_iff, decide_eq_true_iff]
  show _ ↔ (x == y) = true
  rw [beq_iff_eq]
def sp_Disk___eq__ (K : PySem.W.Frag) : Sp := sp2 fun self ot H Q _ => ∃ a f m D c lf, self = .ref a ∧ DiskAt K H a f m D c lf ∧ D.names.Nodup ∧
  ((∃ t, KindV K H ot t ∧ Q (.bl false) H) ∨ ∃ a2 f2 m2 D2 c2 lf2, ot = .ref a2 ∧ DiskAt K H a2 f2 m2 D2 c2 lf2 ∧ Q (.bl (sameD D D2)) H)
theorem hits_tb {K : PySem.W.Frag} {H : Hp} {ls : List (Key × V)} {ms : List Str} {h : Str → V} {g : Str → V} {E : V → V → Bool → Prop} (tl : Tb ls ms h) (q : Str → Bool) (hq : ∀ n, n ∈ ms → E (g n) (h n) (q n)) :
    ∀ {ks : List (Key × V)} {ns : List Str}, ks.map (·.1) = ns.map Sum.inr → (∀ p ∈ ks, ∃ n, p.1 = Sum.inr n ∧ p.2 = g n) → HitsV E ls ks (ns.all fun n => decide (n ∈ ms) && q n)
  | [], [], _, _ => .nil
  | [], _ :: _, z, _ => by cases z
  | _ :: _, [], z, _ => by cases z
  | p :: ks, n :: ns, z, hp => by
    have z1 : p.1 = Sum.inr n := (List.cons.inj z).1
    have z2 := (List.cons.inj z).2
    obtain ⟨n', e1, e2⟩ := hp p List.mem_cons_self
    rw [z1] at e1
    cases e1
    obtain ⟨pk, pv⟩ := p
    have z1 : pk = Sum.inr n := z1
    have e2 : pv = g n := e2
    subst z1 e2
    rw [List.all_cons]
    by_cases i : n ∈ ms
    · rw [decide_eq_true i, Bool.true_and]
      exact .hit (tl.at i) (hq n i) (hits_tb (K := K) (H := H) tl q hq z2 fun p hp' => hp p (List.mem_cons_of_mem _ hp'))
    · rw [decide_eq_false i, Bool.false_and, Bool.false_and]
      exact .miss (tl.no i)
theorem tb_items {ks : List (Key × V)} {ns : List Str} {g : Str → V} (t : Tb ks ns g) (nd : ns.Nodup) : ∀ p ∈ ks, ∃ n, p.1 = Sum.inr n ∧ p.2 = g n := fun p hp => by
  obtain ⟨j, _, a, b⟩ := tb_item t nd p hp
  exact ⟨j, a, b⟩
theorem flat_strs : ∀ ns : List Str, (ns.map V.str).all flatV = true
  | [] => rfl
  | n :: r => by
    show (true && (r.map V.str).all flatV) = true
    rw [flat_strs r]
    rfl
theorem in_strs (n : Str) : ∀ ns : List Str, inV (.str n) (ns.map V.str) = decide (n ∈ ns)
  | [] => rfl
  | m :: r => by
    show ((m == n) || inV (.str n) (r.map V.str)) = _
    rw [in_strs n r, Bool.eq_iff_iff, Bool.or_eq_true, beq_iff_eq, decide_eq_true_iff, decide_eq_true_iff, List.mem_cons]
    exact ⟨fun h => h.elim (fun e => .inl e.symm) .inr, fun h => h.elim (fun e => .inl e.symm) .inr⟩
def pool4 : List Str := ["b", "a", "ab", "0"]
def good5 : List Str := ["a", "b", "ab", "0", "zz"]
theorem pool_good {n : Str} (h : n ∈ pool4) : n ∈ good5 := by
  simp only [pool4, good5, List.mem_cons, List.not_mem_nil, or_false] at h ⊢
  rcases h with rfl | rfl | rfl | rfl <;> simp
def texts4 : List Str := ["x", "yz", "xyx", " ;"]
def keeps4 : List (List Int) := [[], [1], [2, 0], [0, 5]]
theorem good_nm : ∀ n ∈ good5, nmS n = true := fun n hn => List.all_eq_true.mp (show (good5.all nmS) = true by decide +kernel) n hn
theorem text_mk : ∀ t ∈ texts4, mkS t = true ∧ t.length ≤ 3 := fun t ht => by
  have := List.all_eq_true.mp (show (texts4.all fun t => mkS t && decide (t.length ≤ 3)) = true by decide +kernel) t ht
  rw [Bool.and_eq_true] at this
  exact ⟨this.1, of_decide_eq_true this.2⟩
/-- an own disk's table -/
def ownK (L : Addr) (c : Int) (l : Option Nat) : List (Key × V) := [(Sum.inr "files", .ref L), (Sum.inr "ops", .int c), (Sum.inr "left", lfV l)]
theorem kfo : ¬ (Sum.inr ("files" : Str) : Key) = Sum.inr ("ops" : Str) := by decide
theorem kfl : ¬ (Sum.inr ("files" : Str) : Key) = Sum.inr ("left" : Str) := by decide
theorem kol : ¬ (Sum.inr ("ops" : Str) : Key) = Sum.inr ("left" : Str) := by decide
theorem own_f {L : Addr} {c : Int} {l : Option Nat} : valV (ownK L c l) (Sum.inr "files") = some (.ref L) := valV_pos rfl
theorem own_o {L : Addr} {c : Int} {l : Option Nat} : valV (ownK L c l) (Sum.inr "ops") = some (.int c) := (valV_neg kfo).trans (valV_pos rfl)
theorem own_l {L : Addr} {c : Int} {l : Option Nat} : valV (ownK L c l) (Sum.inr "left") = some (lfV l) := (valV_neg kfl).trans ((valV_neg kol).trans (valV_pos rfl))
theorem put_f {L L2 : Addr} {c : Int} {l : Option Nat} : putK (ownK L c l) (Sum.inr "files") (.ref L2) = ownK L2 c l := rfl
theorem put_o {L : Addr} {c d : Int} {l : Option Nat} : putK (ownK L c l) (Sum.inr "ops") (.int d) = ownK L d l := rfl
theorem put_l {L : Addr} {c : Int} {l l2 : Option Nat} : putK (ownK L c l) (Sum.inr "left") (lfV l2) = ownK L c l2 := rfl
def OwnAt (H : Hp) (o L : Addr) (D : Ds) (c : Int) (l : Option Nat) : Prop := H o = some (.dK (ownK L c l)) ∧ LawAt H L D ∧ o ≠ L
theorem OwnAt.same {H H2 : Hp} {o L : Addr} {D : Ds} {c : Int} {l : Option Nat} (h : OwnAt H o L D c l) (s : Same H H2) : OwnAt H2 o L D c l := ⟨s _ _ h.1, h.2.1.same s, h.2.2⟩
/-- files as the law makes them -/
structure Ok8 (k : Nat) (D : Ds) : Prop where
  ok : Dok k D
  sm : Sm D
  nd : D.names.Nodup
  pl : ∀ n ∈ D.names, n ∈ pool4
  mkt : ∀ n ∈ D.names, mkS (D.txt n) = true
def NotIn (H : Hp) (x : V) (gs : List Str) : Prop := (flatV x = true ∧ inV x (gs.map V.str) = false) ∨ ∃ a ys, x = .ref a ∧ H a = some (.lst ys)
/-- data that is shown -/
def Sh8 (d : PyData) : Prop := Sw 3 3000 d ∧ d.hasDict = false
/-- a list whose items are flat may grow -/
def Grow (H : Hp) (x : V) (d : PyData) : Prop := isK (kindD d) "list" = false ∨ ∃ (p : Addr) (xs : List V) (ds : List PyData), x = .ref p ∧ d = .list ds ∧ H p = some (.lst xs) ∧ xs.length = 1 ∧ (∀ z ∈ ds, Sw 2 300 z) ∧ ∀ H2, DzAll false H2 xs ds
def BadNm (H : Hp) (x : V) : Prop := ∃ d, Dz false H x d ∧ nmOk d = true ∧ nmD d = false ∧ NotIn H x good5 ∧ Sh8 d
def BadTx (H : Hp) (x : V) : Prop := ∃ d, Dz false H x d ∧ txOk d = true ∧ txD d = false ∧ NotIn H x texts4 ∧ Sh8 d
def BadCt (H : Hp) (x : V) : Prop := ∃ d, Dz false H x d ∧ cntN d = false ∧ Sh8 d ∧ Grow H x d
/-- texts of the good keeps -/
def shown4 : List Str := ["[]", "[1]", "[2, 0]", "[0, 5]"]
def BadKp (H : Hp) (x : V) : Prop := ∃ d, Dz false H x d ∧ keepsD d = false ∧ (∀ ds, d = .list ds ∨ d = .tuple ds → ds.length ≤ 1000) ∧ decide (d.shown ∈ shown4) = false ∧ Sh8 d ∧ Grow H x d
/-- a call, judged ahead: what is wrong with it -/
inductive Jd (H : Hp) (D : Ds) : Str → V → V → Option (Str × V) → Prop
  | write {n t : Str} : n ∈ pool4 → t ∈ texts4 → Jd H D "write" (.str n) (.str t) none
  | text {n : Str} {y : V} : n ∈ good5 → BadTx H y → Jd H D "write" (.str n) y (some ("text", y))
  | file {w n : Str} : (w = "sync" ∨ w = "drop" ∨ w = "read") → n ∈ good5 → n ∈ D.names → Jd H D w (.str n) (.int 0) none
  | gone {w n : Str} : (w = "sync" ∨ w = "drop" ∨ w = "read") → n ∈ good5 → n ∉ D.names → Jd H D w (.str n) (.int 0) (some ("none", .str n))
  | name {w : Str} {x y : V} : (w = "write" ∨ w = "sync" ∨ w = "drop" ∨ w = "read") → BadNm H x → Jd H D w x y (some ("name", x))
  | arm {l : Option Nat} : Jd H D "arm" (lfV l) (.int 0) none
  | count {x : V} : BadCt H x → Jd H D "arm" x (.int 0) (some ("count", x))
  | fall {p : Addr} {ks : List Int} : H p = some (.lst (ks.map V.int)) → ks ∈ keeps4 → Jd H D "fall" (.ref p) (.int 0) none
  | keeps {x : V} : BadKp H x → Jd H D "fall" x (.int 0) (some ("keeps", x))
def sp__law_own (K : PySem.W.Frag) : Sp := fun vs H Q _ => vs = [] ∧ ∀ o L H2, H o = none → H L = none → Same H H2 → OwnAt H2 o L empty 0 none → Q (.ref o) H2
def sp__law_twin (K : PySem.W.Frag) : Sp := sp1 fun ow H Q _ => ∃ o L D c l k, ow = .ref o ∧ OwnAt H o L D c l ∧ Dok k D ∧ D.names.Nodup ∧ k ≤ 100 ∧ ∀ o2 L2 H2, H o2 = none → H L2 = none → Same H H2 → OwnAt H2 o2 L2 D c l → Q (.ref o2) H2
def sp__law_wrong (K : PySem.W.Frag) : Sp := sp4 fun ow w x y H Q _ => ∃ o L D c l r ws, ow = .ref o ∧ w = .str ws ∧ OwnAt H o L D c l ∧ Jd H D ws x y r ∧
  (r = none → ∀ H2, Same H H2 → Q .non H2) ∧ ∀ k v, r = some (k, v) → ∀ p H2, Same H H2 → H p = none → H2 p = some (.lst [.str k, v]) → Q (.ref p) H2
/-- what a call leads to -/
inductive Due (H : Hp) (D : Ds) (c : Int) (l : Option Nat) : Str → V → V → Option (Str × V) → Str → V → Ds → Int → Option Nat → Prop
  | wrong {w : Str} {x y : V} {k : Str} {v : V} : Due H D c l w x y (some (k, v)) k v D c l
  | read {w n : Str} {y : V} : w = "read" → n ∈ D.names → Due H D c l w (.str n) y none "told" (.str (D.txt n)) D c l
  | arm {w : Str} {x y : V} {l' : Option Nat} : w = "arm" → x = lfV l' → Due H D c l w x y none "told" .non D c l'
  | fall {w : Str} {p : Addr} {ks : List Int} {ys : List Str} {y : V} : w = "fall" → H p = some (.lst (ks.map V.int)) → ys.Perm D.names → sortedS ys = true → Due H D c l w (.ref p) y none "told" .non (falN D ks ys ys.length) (c + 1) none
  | cut {w : Str} {x y : V} : l = some 0 → (w = "write" ∨ w = "sync" ∨ w = "drop") → Due H D c l w x y none "cut" .non D c l
  | write {w n t : Str} : w = "write" → l ≠ some 0 → n ∈ pool4 → t ∈ texts4 → Due H D c l w (.str n) (.str t) none "told" .non (D.put n (D.tx n ++ t) (D.mt n)) (c + 1) (dec l)
  | sync {w n : Str} {y : V} : w = "sync" → l ≠ some 0 → n ∈ D.names → Due H D c l w (.str n) y none "told" .non (D.put n (D.txt n) (D.txt n).length) (c + 1) (dec l)
  | drop {w n : Str} {y : V} : w = "drop" → l ≠ some 0 → n ∈ D.names → Due H D c l w (.str n) y none "told" .non (D.drop n) (c + 1) (dec l)
def sp__law_due (K : PySem.W.Frag) : Sp := sp4 fun ow w x y H Q _ => ∃ o L D c l k r ws, ow = .ref o ∧ w = .str ws ∧ OwnAt H o L D c l ∧ Ok8 k D ∧ k ≤ 50 ∧ Jd H D ws x y r ∧
  ∀ q kind v L2 D2 c2 l2 H2, Due H D c l ws x y r kind v D2 c2 l2 → Kp [o, L] H H2 → (L2 = L ∨ H L2 = none) → OwnAt H2 o L2 D2 c2 l2 → H q = none → H2 q = some (.lst [.str kind, v]) → Q (.ref q) H2
def sp__law_told (K : PySem.W.Frag) : Sp := sp4 fun dk w x y H Q _ => ∃ a f m D c l k r ws, dk = .ref a ∧ w = .str ws ∧ DiskAt K H a f m D c (lfV l) ∧ Ok8 k D ∧ k ≤ 50 ∧ Jd H D ws x y r ∧
  ∀ q kind v f2 m2 D2 c2 l2 H2, Due H D c l ws x y r kind v D2 c2 l2 → Kp [a, f, m] H H2 → ((f2 = f ∧ m2 = m) ∨ (H f2 = none ∧ H m2 = none)) → DiskAt K H2 a f2 m2 D2 c2 (lfV l2) → H q = none → H2 q = some (.lst [.str kind, v]) → Q (.ref q) H2
def sp__law_alike (K : PySem.W.Frag) : Sp := sp2 fun dk ow H Q _ => ∃ a f m D c l o L k, dk = .ref a ∧ ow = .ref o ∧ DiskAt K H a f m D c (lfV l) ∧ OwnAt H o L D c l ∧ Ok8 k D ∧ k ≤ 50 ∧ 0 ≤ c ∧ c ≤ 1000000 ∧ ∀ H2, Same H H2 → Q (.bl true) H2
def two (Δ : Ds) (n : Str) : PyData := .list [.str (Δ.txt n), .int (Δ.sy n : Nat)]
/-- pairs of these names, none of them at D -/
inductive TwoAll (H : Hp) (Δ : Ds) (D : Addr) : List V → List Str → Prop
  | nil : TwoAll H Δ D [] []
  | cons {p : Addr} {n : Str} {vs : List V} {ns : List Str} : p ≠ D → H p = some (.lst [.str (Δ.txt n), .int (Δ.sy n : Nat)]) → TwoAll H Δ D vs ns → TwoAll H Δ D (.ref p :: vs) (n :: ns)
theorem TwoAll.len {H : Hp} {Δ : Ds} {D : Addr} {vs : List V} {ns : List Str} (h : TwoAll H Δ D vs ns) : vs.length = ns.length := by
  induction h with
  | nil => rfl
  | cons _ _ _ ih => rw [List.length_cons, List.length_cons, ih]
theorem TwoAll.app {H : Hp} {Δ : Ds} {D p : Addr} {n : Str} {vs : List V} {ns : List Str} (h : TwoAll H Δ D vs ns) (np : p ≠ D) (e : H p = some (.lst [.str (Δ.txt n), .int (Δ.sy n : Nat)])) : TwoAll H Δ D (vs ++ [.ref p]) (ns ++ [n]) := by
  induction h with
  | nil => exact .cons np e .nil
  | cons a b _ ih => exact .cons a b ih
theorem TwoAll.mono {H H2 : Hp} {Δ : Ds} {D : Addr} {vs : List V} {ns : List Str} (k : ∀ p u, p ≠ D → H p = some u → H2 p = some u) (h : TwoAll H Δ D vs ns) : TwoAll H2 Δ D vs ns := by
  induction h with
  | nil => exact .nil
  | cons a b _ ih => exact .cons a (k _ _ a b) ih
theorem TwoAll.dz {H : Hp} {Δ : Ds} {D : Addr} {vs : List V} {ns : List Str} (h : TwoAll H Δ D vs ns) : DzAll false H vs (ns.map (two Δ)) := by
  induction h with
  | nil => exact .nil
  | cons a b _ ih => exact .cons (dzTwo b (.str _) (.int _)) ih
theorem two_noD {Δ : Ds} : ∀ ns : List Str, PyData.hasDictAll (ns.map (two Δ)) = false
  | [] => rfl
  | n :: r => by
    show ((two Δ n).hasDict || PyData.hasDictAll (r.map (two Δ))) = false
    rw [two_noD r]
    rfl
def sp__law_call (K : PySem.W.Frag) : Sp := sp2 fun box ow H Q _ => ∃ b n o L D c l k, box = .ref b ∧ ow = .ref o ∧ BoxAt n H b ∧ n < 900000 ∧ OwnAt H o L D c l ∧ Ok8 k D ∧ k ≤ 50 ∧
  ∀ q w x y r H2, But b H H2 → BoxAt (n + 8) H2 b → H q = none → q ≠ b → H2 q = some (.lst [.str w, x, y]) → Jd H2 D w x y r → (∀ p, x = .ref p → H p = none ∧ p ≠ b ∧ p ≠ q) → Q (.ref q) H2
theorem bad_nm {H : Hp} {x : V} {d : PyData} (hz : Dz false H x d) (ni : NotIn H x good5) (h : (nmOk d && !nmD d && oddOk d && !d.hasDict) = true) : BadNm H x := by
  simp only [Bool.and_eq_true, Bool.not_eq_true'] at h
  exact ⟨d, hz, h.1.1.1, h.1.1.2, ni, (sw_odd h.1.2).mono (by decide) (by decide), h.2⟩
theorem bad_tx {H : Hp} {x : V} {d : PyData} (hz : Dz false H x d) (ni : NotIn H x texts4) (h : (txOk d && !txD d && oddOk d && !d.hasDict) = true) : BadTx H x := by
  simp only [Bool.and_eq_true, Bool.not_eq_true'] at h
  exact ⟨d, hz, h.1.1.1, h.1.1.2, ni, (sw_odd h.1.2).mono (by decide) (by decide), h.2⟩
theorem bad_ct {H : Hp} {x : V} {d : PyData} (hz : Dz false H x d) (g : Grow H x d) (h : (!cntN d && oddOk d && !d.hasDict) = true) : BadCt H x := by
  simp only [Bool.and_eq_true, Bool.not_eq_true'] at h
  exact ⟨d, hz, h.1.1, ⟨(sw_odd h.1.2).mono (by decide) (by decide), h.2⟩, g⟩
theorem bad_kp {H : Hp} {x : V} {d : PyData} (hz : Dz false H x d) (g : Grow H x d) (hl : ∀ ds, d = .list ds ∨ d = .tuple ds → ds.length ≤ 1000) (h : (!keepsD d && oddOk d && !d.hasDict && !decide (d.shown ∈ shown4)) = true) : BadKp H x := by
  simp only [Bool.and_eq_true, Bool.not_eq_true'] at h
  exact ⟨d, hz, h.1.1.1, hl, h.2, ⟨(sw_odd h.1.1.2).mono (by decide) (by decide), h.1.2⟩, g⟩
theorem grow1 {H : Hp} {p : Addr} {v : V} {d : PyData} (e : H p = some (.lst [v])) (hz : ∀ H2, Dz false H2 v d) (sw : Sw 2 300 d) : Grow H (.ref p) (.list [d]) := .inr ⟨p, [v], [d], rfl, rfl, e, rfl, fun z hz' => by rw [List.mem_singleton.mp hz']; exact sw, fun H2 => .cons (hz H2) .nil⟩
theorem sw_i1 (i : Int) (h : (decide ((PyData.int i).showable = true) && decide ((PyData.int i).shown.length ≤ 300)) = true) : Sw 2 300 (.int i) := by
  rw [Bool.and_eq_true] at h
  exact ⟨of_decide_eq_true h.1, Nat.zero_le _, of_decide_eq_true h.2⟩
theorem sw_b1 : Sw 2 300 (.bool true) := ⟨rfl, Nat.zero_le _, by decide⟩
theorem zz_pool : ("zz" : Str) ∉ pool4 := by decide
theorem pool4_at {r : Int} (h0 : 0 ≤ r) (h : r < 4) : ∃ n, atI (pool4.map V.str) r = some (.str n) ∧ n ∈ pool4 := by
  obtain ⟨v, h1, h2, _⟩ := atI_some (xs := pool4.map V.str) h0 (by show _ < 4; exact h)
  obtain ⟨n, hn, rfl⟩ := List.mem_map.mp h2
  exact ⟨n, h1, hn⟩
theorem text4_at {r : Int} (h0 : 0 ≤ r) (h : r < 4) : ∃ n, atI (texts4.map V.str) r = some (.str n) ∧ n ∈ texts4 := by
  obtain ⟨v, h1, h2, _⟩ := atI_some (xs := texts4.map V.str) h0 (by show _ < 4; exact h)
  obtain ⟨n, hn, rfl⟩ := List.mem_map.mp h2
  exact ⟨n, h1, hn⟩
/-- a name of the pool, in a call of one file -/
theorem jd_file {H : Hp} {D : Ds} {w n : Str} (hw : w = "sync" ∨ w = "drop" ∨ w = "read") (hn : n ∈ pool4) : ∃ r, Jd H D w (.str n) (.int 0) r := by
  by_cases h : n ∈ D.names
  · exact ⟨_, .file hw (pool_good hn) h⟩
  · exact ⟨_, .gone hw (pool_good hn) h⟩
theorem no_ref {s : Str} {H : Hp} {b q : Addr} : ∀ p, V.str s = .ref p → H p = none ∧ p ≠ b ∧ p ≠ q := fun p e => by cases e
/-- a disk that comes to be otherwise, between files, amid a file -/
structure Oto (Δ : Ds) (done : List Str) (E : Ds) : Prop where
  names : E.names = done
  old : ∀ z ∈ done, E.txt z = Δ.txt z ∧ E.sy z = Δ.sy z
structure Oti (Δ : Ds) (done : List Str) (n : Str) (M j : Nat) (E : Ds) : Prop where
  names : E.names = done ++ (if M + j = 0 then [] else [n])
  old : ∀ z ∈ done, E.txt z = Δ.txt z ∧ E.sy z = Δ.sy z
  new : M + j ≠ 0 → E.txt n = S ((Δ.txt n).cps.toList.take (M + j)) ∧ E.sy n = M
theorem app_S (a b : List Nat) : S a ++ S b = S (a ++ b) := str_ext (by
  rw [cps_S, show (S a ++ S b).cps.toList = (S a).cps.toList ++ (S b).cps.toList from Array.toList_append, cps_S, cps_S])
theorem oti_0 {Δ E : Ds} {done : List Str} {n : Str} (h : Oto Δ done E) : Oti Δ done n 0 0 E := ⟨by rw [h.names]; simp, h.old, fun z => (z rfl).elim⟩
theorem oti_tx {Δ E : Ds} {done : List Str} {n : Str} {M j : Nat} (no : n ∉ done) (h : Oti Δ done n M j E) : E.tx n = S ((Δ.txt n).cps.toList.take (M + j)) ∧ E.mt n = M ∧ (if n ∈ E.names then E.names else E.names ++ [n]) = done ++ [n] := by
  have e := h.names
  by_cases z : M + j = 0
  · rw [if_pos z, List.append_nil] at e
    unfold Ds.tx Ds.mt
    rw [e, if_neg no, if_neg no, if_neg no, z]
    exact ⟨by rw [List.take_zero]; exact lit_nil, by omega, rfl⟩
  · rw [if_neg z] at e
    have i : n ∈ E.names := by rw [e]; simp
    unfold Ds.tx Ds.mt
    rw [if_pos i, if_pos i, if_pos i]
    exact ⟨(h.new z).1, (h.new z).2, e⟩
theorem oti_step {Δ E : Ds} {done : List Str} {n : Str} {M j c : Nat} (no : n ∉ done) (h : Oti Δ done n M j E) (hc : (Δ.txt n).cps.toList[M + j]? = some c) : Oti Δ done n M (j + 1) (E.put n (E.tx n ++ S [c]) (E.mt n)) := by
  obtain ⟨e1, e2, e3⟩ := oti_tx no h
  refine ⟨?_, fun z hz => ?_, fun _ => ?_⟩
  · rw [if_neg (by omega)]
    exact e3
  · have nz : z ≠ n := fun e => no (e ▸ hz)
    show (if z = n then _ else E.txt z) = _ ∧ (if z = n then _ else E.sy z) = _
    rw [if_neg nz, if_neg nz]
    exact h.old z hz
  · show (if n = n then _ else E.txt n) = _ ∧ (if n = n then _ else E.sy n) = _
    rw [if_pos rfl, if_pos rfl, e1, e2, app_S]
    refine ⟨?_, rfl⟩
    congr 1
    rw [show M + (j + 1) = (M + j) + 1 by omega, List.take_add_one, hc]
    rfl
theorem oti_sync {Δ E : Ds} {done : List Str} {n : Str} {M : Nat} (no : n ∉ done) (h : Oto Δ done E) (m0 : 0 < M) (hM : M ≤ (Δ.txt n).length) :
    Oti Δ done n M 0 ((E.put n (E.tx n ++ S ((Δ.txt n).cps.toList.take M)) (E.mt n)).put n ((E.put n (E.tx n ++ S ((Δ.txt n).cps.toList.take M)) (E.mt n)).txt n) ((E.put n (E.tx n ++ S ((Δ.txt n).cps.toList.take M)) (E.mt n)).txt n).length) := by
  obtain ⟨e1, e2, e3⟩ := oti_tx no (oti_0 (n := n) h)
  have et : (E.put n (E.tx n ++ S ((Δ.txt n).cps.toList.take M)) (E.mt n)).txt n = S ((Δ.txt n).cps.toList.take M) := by
    show (if n = n then E.tx n ++ _ else E.txt n) = _
    rw [if_pos rfl, e1, app_S]
    rfl
  refine ⟨?_, fun z hz => ?_, fun _ => ?_⟩
  · rw [if_neg (by omega)]
    have en : (E.put n (E.tx n ++ S ((Δ.txt n).cps.toList.take M)) (E.mt n)).names = done ++ [n] := e3
    show (if n ∈ (E.put n (E.tx n ++ S ((Δ.txt n).cps.toList.take M)) (E.mt n)).names then _ else _) = _
    rw [en, if_pos (by simp)]
  · have nz : z ≠ n := fun e => no (e ▸ hz)
    show (if z = n then _ else (if z = n then _ else E.txt z)) = _ ∧ (if z = n then _ else (if z = n then _ else E.sy z)) = _
    rw [if_neg nz, if_neg nz, if_neg nz, if_neg nz]
    exact h.old z hz
  · rw [et]
    show (if n = n then _ else _) = _ ∧ (if n = n then _ else _) = _
    rw [if_pos rfl, if_pos rfl]
    refine ⟨rfl, ?_⟩
    rw [length_S, List.length_take, len_cps]
    omega
theorem oti_end {Δ E : Ds} {done : List Str} {n : Str} {j : Nat} (h : Oti Δ done n (Δ.sy n) j E) (e : Δ.sy n + j = (Δ.txt n).length) (ne : (Δ.txt n).length ≠ 0) : Oto Δ (done ++ [n]) E := by
  refine ⟨by rw [h.names, if_neg (by omega)], fun z hz => ?_⟩
  rcases List.mem_append.mp hz with hz | hz
  · exact h.old z hz
  · rw [List.mem_singleton.mp hz]
    obtain ⟨a, b⟩ := h.new (by omega)
    refine ⟨?_, b⟩
    rw [a, e, ← len_cps, List.take_length]
theorem dok_of {Δ E : Ds} {k : Nat} (ok : Dok k Δ) (hk : k ≤ 50) (hl : E.names.length ≤ 51) (hn : ∀ z ∈ E.names, z ∈ Δ.names ∧ E.sy z ≤ 3000 ∧ (E.txt z).length ≤ 3000 ∧ ∀ x ∈ (E.txt z).cps.toList, x ∈ (Δ.txt z).cps.toList) : Dok 100 E :=
  ⟨by omega, fun z hz => ok.nm z (hn z hz).1, fun z hz => by have := (hn z hz).2.2.1; omega, fun z hz => by have := (hn z hz).2.1; omega, fun z hz x hx => ok.ch z (hn z hz).1 x ((hn z hz).2.2.2 x hx)⟩
theorem oti_dok {Δ E : Ds} {k : Nat} {done : List Str} {n : Str} {M j : Nat} (ok : Dok k Δ) (hk : k ≤ 50) (hd : ∀ z ∈ done, z ∈ Δ.names) (hl : done.length ≤ 50) (hn : n ∈ Δ.names) (hM : M ≤ 3000) (no : n ∉ done) (h : Oti Δ done n M j E) : Dok 100 E := by
  refine dok_of ok hk ?_ fun z hz => ?_
  · rw [h.names, List.length_append]
    split <;> simp <;> omega
  · rw [h.names, List.mem_append] at hz
    rcases hz with hz | hz
    · have i := hd z hz
      obtain ⟨a, b⟩ := h.old z hz
      rw [a, b]
      have := ok.tx z i
      have := ok.sy z i
      exact ⟨i, by omega, by omega, fun x hx => hx⟩
    · split at hz
      · cases hz
      · rename_i e
        obtain rfl := List.mem_singleton.mp hz
        obtain ⟨a, b⟩ := h.new e
        rw [a, b, length_S, cps_S, List.length_take, len_cps]
        exact ⟨hn, hM, Nat.le_trans (Nat.min_le_right _ _) (Nat.le_trans (ok.tx z hn) (by omega)), fun x hx => List.mem_of_mem_take hx⟩
theorem oto_dok {Δ E : Ds} {k : Nat} {done : List Str} (ok : Dok k Δ) (hk : k ≤ 50) (hd : ∀ z ∈ done, z ∈ Δ.names) (hl : done.length ≤ 50) (h : Oto Δ done E) : Dok 100 E := by
  refine dok_of ok hk (by rw [h.names]; omega) fun z hz => ?_
  rw [h.names] at hz
  have i := hd z hz
  obtain ⟨a, b⟩ := h.old z hz
  rw [a, b]
  have := ok.tx z i
  have := ok.sy z i
  exact ⟨i, by omega, by omega, fun x hx => hx⟩
theorem same_of {Δ E X : Ds} (hp : E.names.Perm Δ.names) (h : ∀ n ∈ Δ.names, E.txt n = Δ.txt n ∧ E.sy n = Δ.sy n) : sameD E X = sameD Δ X := by
  unfold sameD
  rw [hp.length_eq]
  congr 1
  · congr 1
    rw [Bool.eq_iff_iff, List.all_eq_true, List.all_eq_true]
    exact ⟨fun a n hn => by rw [← (h n hn).1]; exact a n (hp.mem_iff.mpr hn), fun a n hn => by have i := hp.mem_iff.mp hn; rw [(h n i).1]; exact a n i⟩
  · rw [Bool.eq_iff_iff, List.all_eq_true, List.all_eq_true]
    exact ⟨fun a n hn => by rw [← (h n hn).2]; exact a n (hp.mem_iff.mpr hn), fun a n hn => by have i := hp.mem_iff.mp hn; rw [(h n i).2]; exact a n i⟩
def sp__law_otherwise (K : PySem.W.Frag) : Sp := sp1 fun ow H Q _ => ∃ o L D c l k, ow = .ref o ∧ OwnAt H o L D c l ∧ Ok8 k D ∧ k ≤ 50 ∧
  ∀ a2 f2 m2 D2 c2 H2, H a2 = none → H f2 = none → H m2 = none → Same H H2 → DiskAt K H2 a2 f2 m2 D2 c2 .non → D2.names.Perm D.names → (∀ n ∈ D.names, D2.txt n = D.txt n ∧ D2.sy n = D.sy n) → Q (.ref a2) H2
/-- one of the three: a disk and the law's own -/
structure S8 where
  a : Addr
  f : Addr
  m : Addr
  o : Addr
  L : Addr
  D : Ds
  c : Int
  l : Option Nat
def Side8 (K : PySem.W.Frag) (H : Hp) (k : Nat) (x : S8) : Prop := DiskAt K H x.a x.f x.m x.D x.c (lfV x.l) ∧ OwnAt H x.o x.L x.D x.c x.l ∧ Ok8 k x.D ∧ 0 ≤ x.c ∧ x.c ≤ k ∧ x.o ≠ x.f ∧ x.o ≠ x.m ∧ x.L ≠ x.f ∧ x.L ≠ x.m
theorem Side8.same {K : PySem.W.Frag} {H H2 : Hp} {k : Nat} {x : S8} (h : Side8 K H k x) (s : Same H H2) : Side8 K H2 k x := ⟨h.1.same s, h.2.1.same s, h.2.2⟩
def three (g : Nat → Addr) : List V := [.ref (g 0), .ref (g 1), .ref (g 2)]
theorem three_get {g : Nat → Addr} {i : Nat} {x : V} (h : (three g)[i]? = some x) : i < 3 ∧ x = .ref (g i) := by
  rcases i with _ | _ | _ | i
  · cases h; exact ⟨by decide, rfl⟩
  · cases h; exact ⟨by decide, rfl⟩
  · cases h; exact ⟨by decide, rfl⟩
  · simp [three] at h
theorem three_at {g : Nat → Addr} {i : Nat} (h : i < 3) : atI (three g) (0 + (i : Int)) = some (.ref (g i)) := by
  rw [Int.zero_add]
  refine atI_nat ?_
  rcases i with _ | _ | _ | i
  · rfl
  · rfl
  · rfl
  · omega
def OthAt (K : PySem.W.Frag) (H : Hp) (a : Addr) (D : Ds) : Prop := ∃ f m E c, DiskAt K H a f m E c .non ∧ E.names.Perm D.names ∧ ∀ n ∈ D.names, E.txt n = D.txt n ∧ E.sy n = D.sy n
theorem two_eqv (D E : Ds) (n : Str) : PyData.eqv (two D n) (two E n) = (decide (D.txt n = E.txt n) && decide (D.sy n = E.sy n)) := by
  have h : PyData.eqv (two D n) (two E n) = ((D.txt n == E.txt n) && (((D.sy n : Nat) : Int) == ((E.sy n : Nat) : Int))) := by
    simp [two, PyData.eqv, PyData.eqvAll]
  rw [h, Bool.eq_iff_iff]
  simp only [Bool.and_eq_true, beq_iff_eq, decide_eq_true_eq]
  exact ⟨fun ⟨a, b⟩ => ⟨a, by omega⟩, fun ⟨a, b⟩ => ⟨a, by omega⟩⟩
theorem two_lay {D : Ds} {n : Str} (h : mkS (D.txt n) = true) : (two D n).canLay0 = true ∧ (two D n).depth ≤ 5 := by
  obtain ⟨_, m⟩ := mk_of h
  have so : PyData.strOk (D.txt n) = true := by
    rw [S_cps (D.txt n)]
    exact strOk_S fun c hc => mrk_pr c (m c hc)
  refine ⟨?_, by show max 0 (max 0 0) + 1 ≤ 5; decide⟩
  show (PyData.strOk (D.txt n) && (true && true)) = true
  rw [so]
  rfl
theorem same_split (D E : Ds) : (decide (D.names.length = E.names.length) && D.names.all fun n => decide (n ∈ E.names) && (decide (D.txt n = E.txt n) && decide (D.sy n = E.sy n))) = sameD D E := by
  unfold sameD
  rw [Bool.eq_iff_iff]
  simp only [Bool.and_eq_true, List.all_eq_true, decide_eq_true_eq]
  exact ⟨fun ⟨a, b⟩ => ⟨⟨a, fun n hn => ⟨(b n hn).1, (b n hn).2.1⟩⟩, fun n hn => ⟨(b n hn).1, (b n hn).2.2⟩⟩, fun ⟨⟨a, b⟩, c⟩ => ⟨a, fun n hn => ⟨(b n hn).1, (b n hn).2, (c n hn).2⟩⟩⟩
theorem files_eq {K : PySem.W.Frag} {H : Hp} {L M : Addr} {D E : Ds} (h : LawAt H L D) (g : LawAt H M E) (nd : D.names.Nodup) (m1 : ∀ n ∈ D.names, mkS (D.txt n) = true) (m2 : ∀ n ∈ E.names, mkS (E.txt n) = true) :
    ∃ ks ls r, H L = some (.dK ks) ∧ H M = some (.dK ls) ∧ HitsV (EqB K H) ls ks r ∧ (ks.length == ls.length && r) = sameD D E := by
  obtain ⟨ks, ad, h1, t1, h2⟩ := h
  obtain ⟨ls, al, g1, t2, g2⟩ := g
  have gen : ∀ {ks : List (Key × V)} {ns : List Str}, (∀ n ∈ ns, n ∈ D.names) → ks.map (·.1) = ns.map Sum.inr → (∀ p ∈ ks, ∃ n ∈ D.names, p.1 = Sum.inr n ∧ p.2 = .ref (ad n)) → HitsV (EqB K H) ls ks (ns.all fun n => decide (n ∈ E.names) && PyData.eqv (two D n) (two E n)) := by
    intro ks
    induction ks with
    | nil =>
      intro ns _ z _
      cases ns with
      | nil => exact .nil
      | cons _ _ => cases z
    | cons p r ih =>
      intro ns hn z hp
      cases ns with
      | nil => cases z
      | cons n ns =>
        have z1 : p.1 = Sum.inr n := (List.cons.inj z).1
        obtain ⟨n', hn', e1, e2⟩ := hp p List.mem_cons_self
        rw [z1] at e1
        cases e1
        obtain ⟨pk, pv⟩ := p
        have z1 : pk = Sum.inr n := z1
        have e2 : pv = .ref (ad n) := e2
        subst z1 e2
        have tail := ih (ns := ns) (fun n hn2 => hn n (List.mem_cons_of_mem _ hn2)) (List.cons.inj z).2 fun p hp' => hp p (List.mem_cons_of_mem _ hp')
        rw [List.all_cons]
        by_cases i : n ∈ E.names
        · rw [decide_eq_true i, Bool.true_and]
          obtain ⟨l1, d1⟩ := two_lay (m1 n hn')
          obtain ⟨l2, d2⟩ := two_lay (m2 n i)
          refine .hit (t2.at i) (.inr ⟨ad n, al n, two D n, two E n, rfl, rfl, .lst (SqL.of (h2 n hn')) (.cons (.str _) (.cons (.int _) .nil)), .lst (SqL.of (g2 n i)) (.cons (.str _) (.cons (.int _) .nil)), l1, l2, d1, rfl, fun e => ?_⟩) tail
          have a := h2 n hn'
          rw [e, g2 n i] at a
          have a := HO.lst.inj (Option.some.inj a)
          unfold two
          have a1 := V.str.inj (List.cons.inj a).1
          have a2 := V.int.inj (List.cons.inj (List.cons.inj a).2).1
          rw [a1, a2]
        · rw [decide_eq_false i, Bool.false_and, Bool.false_and]
          exact .miss (t2.no i)
  refine ⟨ks, ls, _, h1, g1, gen (fun n hn => hn) t1.1 fun p hp => ?_, ?_⟩
  · obtain ⟨j, hj, a, b⟩ := tb_item t1 nd p hp
    exact ⟨j, hj, a, b⟩
  · rw [← same_split, t1.len, t2.len]
    simp only [two_eqv]
    rfl
theorem shB (b : Bool) : (PyData.bool b).showable = true ∧ (PyData.bool b).depth ≤ 60 ∧ (PyData.bool b).shown.length ≤ sizeLine := ⟨rfl, Nat.zero_le _, by cases b <;> decide⟩
def sp__law_equal_right (K : PySem.W.Frag) : Sp := sp2 fun dl ol H Q _ => ∃ (d o : Addr) (s : Nat → S8) (k : Nat), dl = .ref d ∧ ol = .ref o ∧ H d = some (.lst (three fun i => (s i).a)) ∧ H o = some (.lst (three fun i => (s i).o)) ∧ (∀ i, i < 3 → Side8 K H k (s i)) ∧ k ≤ 50 ∧ ∀ H2, Same H H2 → Q (.bl true) H2
theorem kp4 : ∀ ks ∈ keeps4, decide ((PyData.list (ks.map PyData.int)).shown ∈ shown4) = true ∧ Sh8 (.list (ks.map PyData.int)) ∧ ks.length ≤ 2 ∧ ∀ x ∈ ks, 0 ≤ x ∧ x < 6 := fun ks hk => by
  have all : (keeps4.all fun ks => decide ((PyData.list (ks.map PyData.int)).shown ∈ shown4) && oddOk (.list (ks.map PyData.int)) && !(PyData.list (ks.map PyData.int)).hasDict && decide (ks.length ≤ 2) && ks.all fun x => decide (0 ≤ x) && decide (x < 6)) = true := by decide +kernel
  have h := List.all_eq_true.mp all ks hk
  simp only [Bool.and_eq_true, decide_eq_true_eq, List.all_eq_true, Bool.not_eq_true'] at h
  obtain ⟨⟨⟨⟨h1, h2⟩, h3⟩, h4⟩, h5⟩ := h
  exact ⟨decide_eq_true h1, ⟨(sw_odd h2).mono (by decide) (by decide), h3⟩, h4, h5⟩
theorem strs_of {ns : List Str} : ∀ z ∈ ns.map V.str, ∃ t, z = .str t := fun z hz => by
  obtain ⟨t, _, rfl⟩ := List.mem_map.mp hz
  exact ⟨t, rfl⟩
/-! ### two sides of one call -/
theorem due_fun {H H' : Hp} {D : Ds} {c : Int} {l : Option Nat} {w : Str} {x y : V} {r : Option (Str × V)} {k k' : Str} {v v' : V} {D2 D3 : Ds} {c2 c3 : Int} {l2 l3 : Option Nat} (h : Due H D c l w x y r k v D2 c2 l2) (g : Due H' D c l w x y r k' v' D3 c3 l3)
    (s : ∀ p xs, x = .ref p → H p = some (.lst xs) → H' p = some (.lst xs)) : k = k' ∧ v = v' ∧ D2 = D3 ∧ c2 = c3 ∧ l2 = l3 := by
  have inj : ∀ {a b : Option Nat}, lfV a = lfV b → a = b := fun {a b} e => by
    cases a <;> cases b <;> first | rfl | (cases e; done) | (have := V.int.inj e; congr 1; omega)
  cases h with
  | wrong => cases g with
    | wrong => exact ⟨rfl, rfl, rfl, rfl, rfl⟩
  | read e _ => subst e; cases g with
    | read _ _ => exact ⟨rfl, rfl, rfl, rfl, rfl⟩
    | arm e _ => exact absurd e (by decide)
    | cut _ e => exact absurd e (by decide)
    | write e _ _ _ => exact absurd e (by decide)
    | sync e _ _ => exact absurd e (by decide)
    | drop e _ _ => exact absurd e (by decide)
  | arm e ex => subst e; cases g with
    | read e _ => exact absurd e (by decide)
    | arm _ ex' => exact ⟨rfl, rfl, rfl, rfl, inj (ex.symm.trans ex')⟩
    | fall e _ _ _ => exact absurd e (by decide)
    | cut _ e => exact absurd e (by decide)
    | write e _ _ _ => exact absurd e (by decide)
    | sync e _ _ => exact absurd e (by decide)
    | drop e _ _ => exact absurd e (by decide)
  | fall e hp pm so => subst e; cases g with
    | arm e _ => exact absurd e (by decide)
    | fall _ hp' pm' so' =>
      have e1 := s _ _ rfl hp
      rw [hp'] at e1
      have e2 := HO.lst.inj (Option.some.inj e1)
      have e3 := List.map_inj_right (f := V.int) (fun a b e => V.int.inj e) |>.mp e2
      subst e3
      obtain rfl := sorted_one (pm'.trans pm.symm) so' so
      exact ⟨rfl, rfl, rfl, rfl, rfl⟩
    | cut _ e => exact absurd e (by decide)
  | cut z e => cases g with
    | read e' _ => subst e'; exact absurd e (by decide)
    | arm e' _ => subst e'; exact absurd e (by decide)
    | fall e' _ _ _ => subst e'; exact absurd e (by decide)
    | cut _ _ => exact ⟨rfl, rfl, rfl, rfl, rfl⟩
    | write _ ne _ _ => exact absurd z ne
    | sync _ ne _ => exact absurd z ne
    | drop _ ne _ => exact absurd z ne
  | write e ne _ _ => subst e; cases g with
    | read e _ => exact absurd e (by decide)
    | arm e _ => exact absurd e (by decide)
    | cut z _ => exact absurd z ne
    | write _ _ _ _ => exact ⟨rfl, rfl, rfl, rfl, rfl⟩
    | sync e _ _ => exact absurd e (by decide)
    | drop e _ _ => exact absurd e (by decide)
  | sync e ne _ => subst e; cases g with
    | read e _ => exact absurd e (by decide)
    | arm e _ => exact absurd e (by decide)
    | cut z _ => exact absurd z ne
    | write e _ _ _ => exact absurd e (by decide)
    | sync _ _ _ => exact ⟨rfl, rfl, rfl, rfl, rfl⟩
    | drop e _ _ => exact absurd e (by decide)
  | drop e ne _ => subst e; cases g with
    | read e _ => exact absurd e (by decide)
    | arm e _ => exact absurd e (by decide)
    | cut z _ => exact absurd z ne
    | write e _ _ _ => exact absurd e (by decide)
    | sync e _ _ => exact absurd e (by decide)
    | drop _ _ _ => exact ⟨rfl, rfl, rfl, rfl, rfl⟩
theorem Ok8.mono {k j : Nat} {D : Ds} (h : Ok8 k D) (e : k ≤ j) : Ok8 j D := ⟨h.ok.mono e, h.sm, h.nd, h.pl, h.mkt⟩
theorem put_nd {D : Ds} {n t : Str} {m : Nat} (h : D.names.Nodup) : (D.put n t m).names.Nodup := by
  unfold Ds.put
  dsimp only
  split
  · exact h
  · rw [List.nodup_append]
    refine ⟨h, by simp, fun a ha b hb e => ?_⟩
    rw [List.mem_singleton.mp hb] at e
    rw [e] at ha
    contradiction
theorem mk_sub {x : Str} {l : List Nat} (h : ∀ c ∈ l, c ∈ mrk) (e : x.cps.toList = l) (n : l ≠ []) : mkS x = true := by
  rw [S_cps x, e]
  refine mk_S h ?_
  cases l with
  | nil => exact (n rfl).elim
  | cons a r => simp
theorem due_ok {H : Hp} {D : Ds} {c : Int} {l : Option Nat} {w : Str} {x y : V} {r : Option (Str × V)} {kd : Str} {v : V} {D2 : Ds} {c2 : Int} {l2 : Option Nat} {k : Nat} (ok : Ok8 k D) (c0 : 0 ≤ c) (c1 : c ≤ k) (h : Due H D c l w x y r kd v D2 c2 l2) : Ok8 (k + 1) D2 ∧ 0 ≤ c2 ∧ c2 ≤ ((k + 1 : Nat) : Int) := by
  have st : Ok8 (k + 1) D ∧ 0 ≤ c ∧ c ≤ ((k + 1 : Nat) : Int) := ⟨ok.mono (by omega), c0, by omega⟩
  have e0 : ("" : Str).length = 0 := by decide
  cases h with
  | wrong => exact st
  | read _ _ => exact st
  | arm _ _ => exact st
  | cut _ _ => exact st
  | @fall p ks ys _ _ hp pm so =>
    obtain ⟨a, b⟩ := falN_ok (ks := ks) ok.ok ok.sm pm (Nat.le_refl _)
    have hin := falN_in (ks := ks) (fun n hn => pm.mem_iff.mp hn) ok.sm ys.length (Nat.le_refl _)
    refine ⟨⟨a.mono (by omega), b, falN_nodup _, fun n hn => ok.pl n (pm.mem_iff.mp (hin n hn).1), fun n hn => ?_⟩, by omega, by omega⟩
    obtain ⟨m, cc, z0, z1, z2, z3, _⟩ := hin n hn
    rw [z3]
    obtain ⟨_, q⟩ := mk_of (ok.mkt n (pm.mem_iff.mp m))
    have ln := cut_len (x := D.txt n) (c := cc) (by omega) z2
    refine mk_sub (fun x hx => q x (cut_mem (by omega) x hx)) rfl (fun z => ?_)
    rw [← len_cps, z] at ln
    simp at ln
    omega
  | @write n t _ _ np tt =>
    have gn := good_nm n (pool_good np)
    obtain ⟨mt, lt⟩ := text_mk t tt
    obtain ⟨_, mq⟩ := mk_of mt
    have ltx : (D.tx n).length ≤ 30 * k := by
      unfold Ds.tx
      split
      · exact ok.ok.tx n (by assumption)
      · rw [e0]; omega
    have lmt : D.mt n ≤ 30 * k := by
      unfold Ds.mt
      split
      · exact ok.ok.sy n (by assumption)
      · omega
    have chs : ∀ x ∈ (D.tx n ++ t).cps.toList, x ∈ mrk := fun x hx => by
      rw [show (D.tx n ++ t).cps.toList = (D.tx n).cps.toList ++ t.cps.toList from Array.toList_append, List.mem_append] at hx
      rcases hx with hx | hx
      · unfold Ds.tx at hx
        split at hx
        · exact (mk_of (ok.mkt n (by assumption))).2 x hx
        · exact absurd hx (by rw [show ("" : Str).cps.toList = [] by decide]; simp)
      · exact mq x hx
    refine ⟨⟨ok.ok.put gn (by rw [strApp_len]; omega) (by omega) (fun x hx => by have := mrk_pr x (chs x hx); omega), ok.sm.put (by have := ok.sm.mt n; rw [strApp_len]; omega), put_nd ok.nd, fun j hj => ?_, fun j hj => ?_⟩, by omega, by omega⟩
    · rcases put_mem.mp hj with rfl | z
      · exact np
      · exact ok.pl j z
    · show mkS (if j = n then D.tx n ++ t else D.txt j) = true
      by_cases z : j = n
      · rw [if_pos z]
        refine mk_sub chs rfl fun z => ?_
        have := (mk_of mt).1
        have e := congrArg List.length z
        rw [len_cps, strApp_len] at e
        simp at e
        omega
      · rw [if_neg z]
        exact ok.mkt j ((put_mem.mp hj).elim (fun e => (z e).elim) id)
  | @sync n _ _ _ hin =>
    have t1 := ok.ok.tx n hin
    refine ⟨⟨ok.ok.put (ok.ok.nm n hin) (by omega) (by omega) (ok.ok.ch n hin), ok.sm.put (Nat.le_refl _), put_nd ok.nd, fun j hj => ?_, fun j hj => ?_⟩, by omega, by omega⟩
    · rcases put_mem.mp hj with rfl | z
      · exact ok.pl j hin
      · exact ok.pl j z
    · show mkS (if j = n then D.txt n else D.txt j) = true
      by_cases z : j = n
      · rw [if_pos z]
        exact ok.mkt n hin
      · rw [if_neg z]
        exact ok.mkt j ((put_mem.mp hj).elim (fun e => (z e).elim) id)
  | @drop n _ _ _ hin =>
    have mem : ∀ j ∈ (D.drop n).names, j ∈ D.names := fun j hj => (List.mem_filter.mp hj).1
    exact ⟨⟨(ok.ok.drop n).mono (by omega), fun j hj => ok.sm j (mem j hj), ok.nd.sublist List.filter_sublist, fun j hj => ok.pl j (mem j hj), fun j hj => ok.mkt j (mem j hj)⟩, by omega, by omega⟩
mutual
theorem dz_kp {g : Bool} {H H2 : Hp} {l : List Addr} (k : Kp l H H2) (n : ∀ p ∈ l, (∀ xs, H p ≠ some (.lst xs)) ∧ ∀ xs, H p ≠ some (.tup xs)) : ∀ {v : V} {d : PyData}, Dz g H v d → d.hasDict = false → Dz g H2 v d
  | _, _, .non, _ => .non
  | _, _, .bl b, _ => .bl b
  | _, _, .int i, _ => .int i
  | _, _, .str x, _ => .str x
  | _, _, .lst h z a, e => .lst (k.at (fun i => (n _ i).1 _ h) h) z (dzAll_kp k n a (by simpa only [PyData.hasDict] using e))
  | _, _, .tup h a, e => .tup (k.at (fun i => (n _ i).2 _ h) h) (dzAll_kp k n a (by simpa only [PyData.hasDict] using e))
  | _, _, .dic _ _, e => by simp only [PyData.hasDict] at e; cases e
theorem dzAll_kp {g : Bool} {H H2 : Hp} {l : List Addr} (k : Kp l H H2) (n : ∀ p ∈ l, (∀ xs, H p ≠ some (.lst xs)) ∧ ∀ xs, H p ≠ some (.tup xs)) : ∀ {vs : List V} {ds : List PyData}, DzAll g H vs ds → PyData.hasDictAll ds = false → DzAll g H2 vs ds
  | _, _, .nil, _ => .nil
  | _, _, .cons h t, e => by
    simp only [PyData.hasDictAll, Bool.or_eq_false_iff] at e
    exact .cons (dz_kp k n h e.1) (dzAll_kp k n t e.2)
end
def NoSeq (H : Hp) (l : List Addr) : Prop := ∀ p ∈ l, (∀ xs, H p ≠ some (.lst xs)) ∧ ∀ xs, H p ≠ some (.tup xs)
theorem NotIn.kp {H H2 : Hp} {l : List Addr} {x : V} {gs : List Str} (h : NotIn H x gs) (k : Kp l H H2) (n : NoSeq H l) : NotIn H2 x gs := by
  rcases h with h | ⟨a, ys, rfl, e⟩
  · exact .inl h
  · exact .inr ⟨a, ys, rfl, k.at (fun i => (n _ i).1 _ e) e⟩
theorem Grow.kp {H H2 : Hp} {l : List Addr} {x : V} {d : PyData} (h : Grow H x d) (k : Kp l H H2) (n : NoSeq H l) : Grow H2 x d := by
  rcases h with h | ⟨p, xs, ds, rfl, rfl, e, r⟩
  · exact .inl h
  · exact .inr ⟨p, xs, ds, rfl, rfl, k.at (fun i => (n _ i).1 _ e) e, r⟩
theorem Jd.kp {H H2 : Hp} {l : List Addr} {D : Ds} {w : Str} {x y : V} {r : Option (Str × V)} (h : Jd H D w x y r) (k : Kp l H H2) (n : NoSeq H l) : Jd H2 D w x y r := by
  cases h with
  | write a b => exact .write a b
  | text a b =>
    obtain ⟨d, dz, d1, d2, ni, sh⟩ := b
    exact .text a ⟨d, dz_kp k n dz sh.2, d1, d2, ni.kp k n, sh⟩
  | file a b c => exact .file a b c
  | gone a b c => exact .gone a b c
  | name a b =>
    obtain ⟨d, dz, d1, d2, ni, sh⟩ := b
    exact .name a ⟨d, dz_kp k n dz sh.2, d1, d2, ni.kp k n, sh⟩
  | arm => exact .arm
  | count b =>
    obtain ⟨d, dz, d1, sh, g⟩ := b
    exact .count ⟨d, dz_kp k n dz sh.2, d1, sh, g.kp k n⟩
  | fall a b => exact .fall (k.at (fun i => (n _ i).1 _ a) a) b
  | keeps b =>
    obtain ⟨d, dz, d1, d2, d3, sh, g⟩ := b
    exact .keeps ⟨d, dz_kp k n dz sh.2, d1, d2, d3, sh, g.kp k n⟩
def kinds7 : List Str := ["told", "cut", "count", "keeps", "name", "text", "none"]
/-- what is told, as data -/
theorem due_data {H H0 : Hp} {D : Ds} {c : Int} {l : Option Nat} {w : Str} {x y : V} {r : Option (Str × V)} {kd : Str} {v : V} {D2 : Ds} {c2 : Int} {l2 : Option Nat} {k : Nat} (ok : Ok8 k D) (hk : k ≤ 50) (j : Jd H D w x y r) (h : Due H0 D c l w x y r kd v D2 c2 l2) :
    ∃ d, Dz false H v d ∧ Sw 3 30000 d ∧ d.hasDict = false ∧ kd ∈ kinds7 ∧ ((kd ∉ (["count", "keeps"] : List Str)) ∨ (kd ∈ (["count", "keeps"] : List Str) ∧ v = x ∧ Grow H x d)) := by
  have strD : ∀ n, nmS n = true → Sw 3 30000 (.str n) := fun n hn => (sw_str (x := n) (by have := (nm_of hn).2.1; omega) (fun c hc => by have := alf_pr c ((nm_of hn).2.2 c hc); omega)).mono (by decide) (by decide)
  have nonD : Sw 3 30000 PyData.none := (sw_odd (d := .none) (by decide +kernel)).mono (by decide) (by decide)
  have up : ∀ {d : PyData}, Sw 3 3000 d → Sw 3 30000 d := fun h => h.mono (by decide) (by decide)
  cases h with
  | wrong =>
    cases j with
    | text a b =>
      obtain ⟨d, dz, _, _, _, sh⟩ := b
      exact ⟨d, dz, up sh.1, sh.2, by decide, .inl (by decide)⟩
    | gone a b c => exact ⟨_, .str _, strD _ (good_nm _ b), rfl, by decide, .inl (by decide)⟩
    | name a b =>
      obtain ⟨d, dz, _, _, _, sh⟩ := b
      exact ⟨d, dz, up sh.1, sh.2, by decide, .inl (by decide)⟩
    | count b =>
      obtain ⟨d, dz, _, sh, g⟩ := b
      exact ⟨d, dz, up sh.1, sh.2, by decide, .inr ⟨by decide, rfl, g⟩⟩
    | keeps b =>
      obtain ⟨d, dz, _, _, _, sh, g⟩ := b
      exact ⟨d, dz, up sh.1, sh.2, by decide, .inr ⟨by decide, rfl, g⟩⟩
  | read _ hin => exact ⟨_, .str _, (sw_str (by have := ok.ok.tx _ hin; omega) (ok.ok.ch _ hin)).mono (by decide) (by decide), rfl, by decide, .inl (by decide)⟩
  | arm _ _ => exact ⟨_, .non, nonD, rfl, by decide, .inl (by decide)⟩
  | fall _ _ _ _ => exact ⟨_, .non, nonD, rfl, by decide, .inl (by decide)⟩
  | cut _ _ => exact ⟨_, .non, nonD, rfl, by decide, .inl (by decide)⟩
  | write _ _ _ _ => exact ⟨_, .non, nonD, rfl, by decide, .inl (by decide)⟩
  | sync _ _ _ => exact ⟨_, .non, nonD, rfl, by decide, .inl (by decide)⟩
  | drop _ _ _ => exact ⟨_, .non, nonD, rfl, by decide, .inl (by decide)⟩
/-! ### three of them -/
def S8.ads (x : S8) : List Addr := [x.a, x.f, x.m, x.o, x.L]
theorem Side8.objs {K : PySem.W.Frag} {H : Hp} {k : Nat} {x : S8} (h : Side8 K H k x) : ∀ p ∈ x.ads, (∃ C dx fs, H p = some (.ins C dx fs)) ∨ ∃ kvs, H p = some (.dK kvs) := by
  obtain ⟨⟨_, C, dx, kf, km, hc, h1, h2, h3, _⟩, ⟨h4, h5, _⟩, _⟩ := h
  obtain ⟨kv, h5⟩ := h5.dk
  intro p hp
  simp only [S8.ads, List.mem_cons, List.not_mem_nil, or_false] at hp
  rcases hp with rfl | rfl | rfl | rfl | rfl
  · exact .inl ⟨_, _, _, h1⟩
  · exact .inr ⟨_, h2⟩
  · exact .inr ⟨_, h3⟩
  · exact .inr ⟨_, h4⟩
  · exact .inr ⟨_, h5⟩
theorem Side8.no {K : PySem.W.Frag} {H : Hp} {k : Nat} {x : S8} (h : Side8 K H k x) {p : Addr} (hp : p ∈ x.ads) : (∀ xs, H p ≠ some (.lst xs)) ∧ ∀ xs, H p ≠ some (.tup xs) := by
  rcases h.objs p hp with ⟨C, dx, fs, z⟩ | ⟨kvs, z⟩
  · exact ⟨(fun xs e => by rw [z] at e; cases e), fun xs e => by rw [z] at e; cases e⟩
  · exact ⟨(fun xs e => by rw [z] at e; cases e), fun xs e => by rw [z] at e; cases e⟩
theorem Side8.ex {K : PySem.W.Frag} {H : Hp} {k : Nat} {x : S8} (h : Side8 K H k x) {p : Addr} (hp : p ∈ x.ads) : H p ≠ none := by
  rcases h.objs p hp with ⟨C, dx, fs, z⟩ | ⟨kvs, z⟩
  · rw [z]; simp
  · rw [z]; simp
theorem Side8.kp {K : PySem.W.Frag} {H H2 : Hp} {k : Nat} {x : S8} {l : List Addr} (h : Side8 K H k x) (kp : Kp l H H2) (na : ∀ p ∈ x.ads, p ∉ l) (nl : ∀ p ∈ l, ∀ t i, H p ≠ some (.lst [.str t, .int i])) : Side8 K H2 k x := by
  obtain ⟨h1, ⟨h2, h3, h4⟩, h5⟩ := h
  exact ⟨h1.kp kp (na _ (by simp [S8.ads])) (na _ (by simp [S8.ads])) (na _ (by simp [S8.ads])), ⟨kp.at (na _ (by simp [S8.ads])) h2, h3.kp kp (na _ (by simp [S8.ads])) nl, h4⟩, h5⟩
theorem Side8.mono {K : PySem.W.Frag} {H : Hp} {k j : Nat} {x : S8} (h : Side8 K H k x) (e : k ≤ j) : Side8 K H j x := by
  obtain ⟨h1, h2, h3, h4, h5, h6⟩ := h
  exact ⟨h1, h2, h3.mono e, h4, by omega, h6⟩
structure P8 (K : PySem.W.Frag) (Hb H : Hp) (b d o : Addr) (s : Nat → S8) (k : Nat) : Prop where
  sb : Same Hb H
  hd : H d = some (.lst (three fun i => (s i).a))
  ho : H o = some (.lst (three fun i => (s i).o))
  sd : ∀ i, i < 3 → Side8 K H k (s i)
  ap : ∀ i j, i < 3 → j < 3 → i ≠ j → ∀ p ∈ (s i).ads, p ∉ (s j).ads
  fr : ∀ i, i < 3 → ∀ p ∈ (s i).ads, Hb p = none
  fb : Hb b = none
  fd : Hb d = none
  fo : Hb o = none
  nd : d ≠ o
theorem P8.same {K : PySem.W.Frag} {Hb H H2 : Hp} {b d o : Addr} {s : Nat → S8} {k : Nat} (h : P8 K Hb H b d o s k) (e : Same H H2) : P8 K Hb H2 b d o s k :=
  ⟨h.sb.trans e, e _ _ h.hd, e _ _ h.ho, fun i hi => (h.sd i hi).same e, h.ap, h.fr, h.fb, h.fd, h.fo, h.nd⟩
theorem P8.mono {K : PySem.W.Frag} {Hb H : Hp} {b d o : Addr} {s : Nat → S8} {k j : Nat} (h : P8 K Hb H b d o s k) (e : k ≤ j) : P8 K Hb H b d o s j := ⟨h.sb, h.hd, h.ho, fun i hi => (h.sd i hi).mono e, h.ap, h.fr, h.fb, h.fd, h.fo, h.nd⟩
/-- a list beside them is written -/
theorem P8.lst {K : PySem.W.Frag} {Hb H H2 : Hp} {b d o p : Addr} {s : Nat → S8} {k : Nat} {xs : List V} (h : P8 K Hb H b d o s k) (kp : Kp [p] H H2) (hp : Hb p = none) (e : H p = some (.lst xs)) (n3 : xs.length ≠ 3) (n2 : xs.length ≠ 2) : P8 K Hb H2 b d o s k := by
  have neL : ∀ {q : Addr} {ys : List V}, H q = some (.lst ys) → ys.length ≠ xs.length → q ≠ p := fun {q ys} f n z => by
    rw [z, e] at f
    cases f
    exact n rfl
  refine ⟨fun q u f => kp.at (by rw [List.mem_singleton]; exact ne_of_none f hp) (h.sb q u f), kp.at (by rw [List.mem_singleton]; exact neL h.hd (fun z => n3 z.symm)) h.hd, kp.at (by rw [List.mem_singleton]; exact neL h.ho (fun z => n3 z.symm)) h.ho, fun i hi => (h.sd i hi).kp kp (fun q hq z => ?_) (fun q z t i f => ?_), h.ap, h.fr, h.fb, h.fd, h.fo, h.nd⟩
  · rw [List.mem_singleton.mp z] at hq
    exact ((h.sd i hi).no hq).1 _ e
  · rw [List.mem_singleton.mp z, e] at f
    have f := HO.lst.inj (Option.some.inj f)
    rw [f] at n2
    exact n2 rfl
theorem P8.box {K : PySem.W.Frag} {Hb H H2 : Hp} {b d o : Addr} {s : Nat → S8} {k n : Nat} (h : P8 K Hb H b d o s k) (B : BoxAt n H b) (t : But b H H2) : P8 K Hb H2 b d o s k := by
  obtain ⟨g, fl, sd, cn, hb, _⟩ := B
  exact h.lst (Kp.but t) h.fb hb (by simp) (by simp)
/-- one side goes on -/
theorem P8.step {K : PySem.W.Frag} {Hb H H2 H3 : Hp} {b d o : Addr} {s : Nat → S8} {k i : Nat} {L2 f2 m2 : Addr} {D2 : Ds} {c2 : Int} {l2 : Option Nat} (h : P8 K Hb H b d o s k) (hi : i < 3) (k2 : Kp [(s i).o, (s i).L] H H2) (k3 : Kp [(s i).a, (s i).f, (s i).m] H2 H3)
    (fL : L2 = (s i).L ∨ H L2 = none) (ffm : (f2 = (s i).f ∧ m2 = (s i).m) ∨ (H2 f2 = none ∧ H2 m2 = none)) (hO : OwnAt H2 (s i).o L2 D2 c2 l2) (hD : DiskAt K H3 (s i).a f2 m2 D2 c2 (lfV l2)) (ok : Ok8 (k + 1) D2) (c0 : 0 ≤ c2) (c1 : c2 ≤ ((k + 1 : Nat) : Int)) : ∃ s', P8 K Hb H3 b d o s' (k + 1) := by
  have si := h.sd i hi
  obtain ⟨d1, o1, ok1, _, _, n1, n2, n3, n4⟩ := id si
  have sub2 : ∀ p ∈ [(s i).o, (s i).L], p ∈ (s i).ads := fun p hp => by
    simp only [S8.ads, List.mem_cons, List.not_mem_nil, or_false] at hp ⊢
    rcases hp with rfl | rfl <;> simp
  have sub3 : ∀ p ∈ [(s i).a, (s i).f, (s i).m], p ∈ (s i).ads := fun p hp => by
    simp only [S8.ads, List.mem_cons, List.not_mem_nil, or_false] at hp ⊢
    rcases hp with rfl | rfl | rfl <;> simp
  obtain ⟨nfm, C, dx, kf, km, hc, g1, g2, g3, _⟩ := id d1
  obtain ⟨kvL, gL⟩ := o1.2.1.dk
  have na : (s i).a ∉ [(s i).o, (s i).L] := by simp [ne_obj g1 o1.1 (by simp), ne_obj g1 gL (by simp)]
  have nf : (s i).f ∉ [(s i).o, (s i).L] := by simp [n1.symm, n3.symm]
  have nm : (s i).m ∉ [(s i).o, (s i).L] := by simp [n2.symm, n4.symm]
  have d1' := d1.kp k2 na nf nm
  obtain ⟨_, C', dx', kf', km', hc', g1', g2', g3', _⟩ := id d1'
  have k23 : Kp (s i).ads H H3 := (k2.sub sub2).trans (k3.sub sub3)
  have noA : ∀ p ∈ [(s i).a, (s i).f, (s i).m], ∀ xs, H2 p ≠ some (.lst xs) := d1'.nolist
  have L2a : L2 ≠ (s i).a ∧ L2 ≠ (s i).f ∧ L2 ≠ (s i).m := by
    rcases fL with rfl | z
    · exact ⟨(ne_obj g1 gL (by simp)).symm, n3, n4⟩
    · exact ⟨(ne_of_none g1 z).symm, (ne_of_none g2 z).symm, (ne_of_none g3 z).symm⟩
  have oa : (s i).o ≠ (s i).a := (ne_obj g1 o1.1 (by simp)).symm
  have hO3 : OwnAt H3 (s i).o L2 D2 c2 l2 := ⟨k3.at (by simp [oa, n1, n2]) hO.1, hO.2.1.kp k3 (by simp [L2a]) (fun p hp t i => noA p hp _), hO.2.2⟩
  obtain ⟨kv2, gL2⟩ := hO.2.1.dk
  have of2 : (s i).o ≠ f2 ∧ (s i).o ≠ m2 ∧ L2 ≠ f2 ∧ L2 ≠ m2 := by
    rcases ffm with ⟨rfl, rfl⟩ | ⟨z1, z2⟩
    · exact ⟨n1, n2, L2a.2⟩
    · exact ⟨ne_of_none hO.1 z1, ne_of_none hO.1 z2, ne_of_none gL2 z1, ne_of_none gL2 z2⟩
  let y : S8 := ⟨(s i).a, f2, m2, (s i).o, L2, D2, c2, l2⟩
  have Hfree : ∀ q, H2 q = none → H q = none ∨ q ∈ [(s i).o, (s i).L] := fun q z => by
    by_cases m : q ∈ [(s i).o, (s i).L]
    · exact .inr m
    · refine .inl ?_
      cases e : H q with
      | none => rfl
      | some u => rw [k2.at m e] at z; cases z
  have yold : ∀ p ∈ y.ads, p ∈ (s i).ads ∨ H p = none := by
    intro p hp
    simp only [y, S8.ads, List.mem_cons, List.not_mem_nil, or_false] at hp
    have f' : ∀ q, H2 q = none → q ∈ (s i).ads ∨ H q = none := fun q z => (Hfree q z).elim .inr fun m => .inl (sub2 q m)
    rcases hp with rfl | rfl | rfl | rfl | rfl
    · exact .inl (by simp [S8.ads])
    · rcases ffm with ⟨rfl, rfl⟩ | ⟨z1, z2⟩
      · exact .inl (by simp [S8.ads])
      · exact f' _ z1
    · rcases ffm with ⟨rfl, rfl⟩ | ⟨z1, z2⟩
      · exact .inl (by simp [S8.ads])
      · exact f' _ z2
    · exact .inl (by simp [S8.ads])
    · rcases fL with rfl | z
      · exact .inl (by simp [S8.ads])
      · exact .inr z
  have apart : ∀ j, j < 3 → j ≠ i → (∀ p ∈ y.ads, p ∉ (s j).ads) ∧ ∀ p ∈ (s j).ads, p ∉ y.ads := fun j hj ne => by
    have a1 : ∀ p ∈ y.ads, p ∉ (s j).ads := fun p hp hq => by
      rcases yold p hp with z | z
      · exact h.ap i j hi hj ne.symm p z hq
      · exact (h.sd j hj).ex hq z
    exact ⟨a1, fun p hp hq => a1 p hq hp⟩
  have no2 : ∀ p ∈ (s i).ads, ∀ t n, H p ≠ some (.lst [.str t, .int n]) := fun p hp t n => (si.no hp).1 _
  refine ⟨fun j => if j = i then y else s j, fun q u e => k23.at (fun z => by rw [h.fr i hi q z] at e; cases e) (h.sb q u e), ?_, ?_, fun j hj => ?_, fun j j' hj hj' ne p hp hq => ?_, fun j hj p hp => ?_, h.fb, h.fd, h.fo, h.nd⟩
  · rw [k23.at (fun z => (si.no z).1 _ h.hd) h.hd]
    have e : (fun j => (if j = i then y else s j).a) = fun j => (s j).a := funext fun j => by by_cases z : j = i <;> simp [z, y]
    rw [e]
  · rw [k23.at (fun z => (si.no z).1 _ h.ho) h.ho]
    have e : (fun j => (if j = i then y else s j).o) = fun j => (s j).o := funext fun j => by by_cases z : j = i <;> simp [z, y]
    rw [e]
  · show Side8 K H3 (k + 1) (if j = i then y else s j)
    by_cases z : j = i
    · rw [if_pos z]
      exact ⟨hD, hO3, ok, c0, c1, of2⟩
    · rw [if_neg z]
      exact (((h.sd j hj).kp k23 (fun p hp hq => h.ap j i hj hi z p hp hq) no2)).mono (by omega)
  · have hp : p ∈ (if j = i then y else s j).ads := hp
    have hq : p ∈ (if j' = i then y else s j').ads := hq
    by_cases z : j = i
    · rw [if_pos z] at hp
      rw [if_neg (fun e => ne (z.trans e.symm))] at hq
      exact (apart j' hj' (fun e => ne (z.trans e.symm))).1 p hp hq
    · rw [if_neg z] at hp
      by_cases z' : j' = i
      · rw [if_pos z'] at hq
        exact (apart j hj z).2 p hp hq
      · rw [if_neg z'] at hq
        exact h.ap j j' hj hj' ne p hp hq
  · have hp : p ∈ (if j = i then y else s j).ads := hp
    by_cases z : j = i
    · rw [if_pos z] at hp
      rcases yold p hp with w | w
      · exact h.fr i hi p w
      · exact h.sb.free w
    · rw [if_neg z] at hp
      exact h.fr j hj p hp
/-- a side is set -/
theorem P8.set {K : PySem.W.Frag} {Hb H H2 H3 : Hp} {b d o : Addr} {s : Nat → S8} {k j : Nat} {y : S8} (h : P8 K Hb H b d o s k) (s2 : Same H H2) (hy : Side8 K H2 k y) (fy : ∀ p ∈ y.ads, H p = none) (k3 : Kp [d, o] H2 H3)
    (hd : H3 d = some (.lst (three fun i => (if i = j then y else s i).a))) (ho : H3 o = some (.lst (three fun i => (if i = j then y else s i).o))) : P8 K Hb H3 b d o (fun i => if i = j then y else s i) k := by
  have hd2 := s2 _ _ h.hd
  have ho2 := s2 _ _ h.ho
  have no : ∀ p ∈ [d, o], ∃ g : Nat → Addr, H2 p = some (.lst (three g)) := fun p hp => by
    simp only [List.mem_cons, List.not_mem_nil, or_false] at hp
    rcases hp with rfl | rfl
    · exact ⟨_, hd2⟩
    · exact ⟨_, ho2⟩
  have side : ∀ {x : S8}, Side8 K H2 k x → Side8 K H3 k x := by
    intro x hx
    refine hx.kp k3 (fun p hp hq => ?_) (fun p hp t i e => ?_)
    · obtain ⟨g, e⟩ := no p hq
      exact (hx.no hp).1 _ e
    · obtain ⟨g, e'⟩ := no p hp
      rw [e'] at e
      cases e
  have ya : ∀ i, i < 3 → (∀ p ∈ y.ads, p ∉ (s i).ads) := fun i hi p hp hq => (h.sd i hi).ex hq (fy p hp)
  refine ⟨fun q u e => k3.at (fun z => ?_) (s2 _ _ (h.sb q u e)), hd, ho, fun i hi => ?_, fun i i' hi hi' ne p hp hq => ?_, fun i hi p hp => ?_, h.fb, h.fd, h.fo, h.nd⟩
  · simp only [List.mem_cons, List.not_mem_nil, or_false] at z
    rcases z with rfl | rfl
    · rw [h.fd] at e; cases e
    · rw [h.fo] at e; cases e
  · show Side8 K H3 k (if i = j then y else s i)
    by_cases z : i = j
    · rw [if_pos z]
      exact side hy
    · rw [if_neg z]
      exact side ((h.sd i hi).same s2)
  · have hp : p ∈ (if i = j then y else s i).ads := hp
    have hq : p ∈ (if i' = j then y else s i').ads := hq
    by_cases z : i = j
    · rw [if_pos z] at hp
      rw [if_neg (fun e => ne (z.trans e.symm))] at hq
      exact ya i' hi' p hp hq
    · rw [if_neg z] at hp
      by_cases z' : i' = j
      · rw [if_pos z'] at hq
        exact ya i hi p hq hp
      · rw [if_neg z'] at hq
        exact h.ap i i' hi hi' ne p hp hq
  · have hp : p ∈ (if i = j then y else s i).ads := hp
    by_cases z : i = j
    · rw [if_pos z] at hp
      exact h.sb.free (fy p hp)
    · rw [if_neg z] at hp
      exact h.fr i hi p hp
theorem three_set {g : Nat → Addr} {j : Nat} {v : Addr} (h : j < 3) : (three g).set j (.ref v) = three fun i => if i = j then v else g i := by
  rcases j with _ | _ | _ | j
  · rfl
  · rfl
  · rfl
  · omega
theorem ix_nat {n j : Nat} (h : j < n) : ixN n (j : Int) = some j := by
  unfold ixN
  rw [if_pos (by omega), if_pos (by omega)]
  rfl
def sp_law (K : PySem.W.Frag) : Sp := sp1 fun script H Q _ => ∃ (a : Addr) (ns : List Int), script = .ref a ∧ SqL K H a (ns.map V.int) ∧ ns.length ≤ 63 ∧ ∀ H2, Q (.bl true) H2
theorem apart2 {x y : S8} {Ha Hc He : Hp} (h1 : ∀ p ∈ [x.a, x.f, x.m], Ha p ≠ none ∧ He p ≠ none) (h2 : ∀ p ∈ [y.a, y.f, y.m], Ha p = none ∧ Hc p ≠ none) (h3 : ∀ p ∈ [x.o, x.L], Hc p = none ∧ He p ≠ none) (h4 : ∀ p ∈ [y.o, y.L], He p = none) : (∀ p ∈ x.ads, p ∉ y.ads) ∧ ∀ p ∈ y.ads, p ∉ x.ads := by
  have sp : ∀ z : S8, ∀ p ∈ z.ads, p ∈ [z.a, z.f, z.m] ∨ p ∈ [z.o, z.L] := fun z p hp => by
    simp only [S8.ads, List.mem_cons, List.not_mem_nil, or_false] at hp ⊢
    rcases hp with h | h | h | h | h <;> simp [h]
  have a1 : ∀ p ∈ x.ads, p ∉ y.ads := fun p hp hq => by
    rcases sp x p hp with a | a <;> rcases sp y p hq with c | c
    · exact (h1 p a).1 (h2 p c).1
    · exact (h1 p a).2 (h4 p c)
    · exact (h2 p c).2 (h3 p a).1
    · exact (h3 p a).2 (h4 p c)
  exact ⟨a1, fun p hp hq => a1 p hq hp⟩
theorem three_at' {g : Nat → Addr} {i : Nat} (h : i < 3) : atI (three g) (i : Int) = some (.ref (g i)) := by
  have := three_at (g := g) h
  rw [Int.zero_add] at this
  exact this
theorem box8 {n : Nat} {H H2 : Hp} {b : Addr} {l : List Addr} (B : BoxAt n H b) (k : Kp l H H2) (no : ∀ p ∈ l, ∀ xs, H p ≠ some (.lst xs)) : BoxAt n H2 b := by
  obtain ⟨g, fl, sd, cn, hb, r⟩ := B
  exact ⟨g, fl, sd, cn, k.at (fun z => no b z _ hb) hb, r⟩
theorem swk {kd : Str} (h : kd ∈ kinds7) : Sw 3 30000 (.str kd) := by
  have all : (kinds7.all fun w => oddOk (.str w)) = true := by decide +kernel
  exact (sw_odd (List.all_eq_true.mp all kd h)).mono (by decide) (by decide)
theorem sw_pair {kd : Str} {d : PyData} (h : kd ∈ kinds7) (hd : Sw 4 40000 d) (nd : d.hasDict = false) : ((PyData.list [.str kd, d]).hasDict = true → false = true) ∧ (PyData.list [.str kd, d]).showable = true ∧ (PyData.list [.str kd, d]).depth ≤ 60 ∧ (PyData.list [.str kd, d]).shown.length ≤ sizeLine := by
  have := Sw.list (k := 4) (B := 40000) (m := 2) (ds := [.str kd, d]) (fun x hx => by
    simp only [List.mem_cons, List.not_mem_nil, or_false] at hx
    rcases hx with rfl | rfl
    · exact (swk h).mono (by decide) (by decide)
    · exact hd) (by simp)
  refine ⟨fun z => ?_, this.sh, Nat.le_trans this.dp (by decide), sz (Nat.le_trans this.ln (by decide))⟩
  have e : (PyData.list [.str kd, d]).hasDict = PyData.hasDictAll [.str kd, d] := by simp only [PyData.hasDict]
  rw [e] at z
  simp only [PyData.hasDictAll, Bool.or_eq_true] at z
  rcases z with z | z | z
  · simp only [PyData.hasDict] at z; cases z
  · rw [nd] at z; cases z
  · cases z
theorem ok8_0 : Ok8 0 empty := ⟨Dok.nil, (fun _ h => by cases h), List.nodup_nil, (fun _ h => by cases h), fun _ h => by cases h⟩
theorem dk_ex {K : PySem.W.Frag} {H : Hp} {a f m : Addr} {D : Ds} {c : Int} {lf : V} (h : DiskAt K H a f m D c lf) : ∀ p ∈ [a, f, m], H p ≠ none := by
  obtain ⟨_, C, dx, kf, km, hc, h1, h2, h3, _⟩ := h
  intro p hp
  simp only [List.mem_cons, List.not_mem_nil, or_false] at hp
  rcases hp with rfl | rfl | rfl
  · rw [h1]; simp
  · rw [h2]; simp
  · rw [h3]; simp
theorem ow_ex {H : Hp} {o L : Addr} {D : Ds} {c : Int} {l : Option Nat} (h : OwnAt H o L D c l) : ∀ p ∈ [o, L], H p ≠ none := by
  obtain ⟨h1, h2, _⟩ := h
  obtain ⟨kv, h2⟩ := h2.dk
  intro p hp
  simp only [List.mem_cons, List.not_mem_nil, or_false] at hp
  rcases hp with rfl | rfl
  · rw [h1]; simp
  · rw [h2]; simp
theorem nn_same {H H2 : Hp} {p : Addr} (s : Same H H2) (h : H p ≠ none) : H2 p ≠ none := fun e => h (s.free e)
theorem all3 {q : Addr → Prop} {a f m : Addr} (h1 : q a) (h2 : q f) (h3 : q m) : ∀ p ∈ [a, f, m], q p := fun p hp => by
  simp only [List.mem_cons, List.not_mem_nil, or_false] at hp
  rcases hp with rfl | rfl | rfl
  · exact h1
  · exact h2
  · exact h3
theorem all2 {q : Addr → Prop} {a f : Addr} (h1 : q a) (h2 : q f) : ∀ p ∈ [a, f], q p := fun p hp => by
  simp only [List.mem_cons, List.not_mem_nil, or_false] at hp
  rcases hp with rfl | rfl
  · exact h1
  · exact h2
theorem side0 {K : PySem.W.Frag} {H H2 H3 : Hp} {a f m o L : Addr} (hD : DiskAt K H a f m empty 0 .non) (fo : H o = none) (fL : H L = none) (hO : OwnAt H2 o L empty 0 none) (s : Same H H3) (t : Same H2 H3) : Side8 K H3 0 ⟨a, f, m, o, L, empty, 0, none⟩ := by
  obtain ⟨_, C, dx, kf, km, hc, h1, h2, h3, _⟩ := id hD
  exact ⟨hD.same s, hO.same t, ok8_0, Int.le_refl _, Int.le_refl _, (ne_of_none h2 fo).symm, (ne_of_none h3 fo).symm, (ne_of_none h2 fL).symm, (ne_of_none h3 fL).symm⟩
theorem Side8.sub {x : S8} : (∀ p ∈ [x.o, x.L], p ∈ x.ads) ∧ ∀ p ∈ [x.a, x.f, x.m], p ∈ x.ads := ⟨fun p hp => by
    simp only [S8.ads, List.mem_cons, List.not_mem_nil, or_false] at hp ⊢
    rcases hp with rfl | rfl <;> simp, fun p hp => by
    simp only [S8.ads, List.mem_cons, List.not_mem_nil, or_false] at hp ⊢
    rcases hp with rfl | rfl | rfl <;> simp⟩
theorem Side8.disk {K : PySem.W.Frag} {H H2 : Hp} {k : Nat} {x : S8} (si : Side8 K H k x) (k2 : Kp [x.o, x.L] H H2) : DiskAt K H2 x.a x.f x.m x.D x.c (lfV x.l) := by
  obtain ⟨d1, o1, ok1, _, _, n1, n2, n3, n4⟩ := id si
  obtain ⟨nfm, C, dx, kf, km, hc, g1, g2, g3, _⟩ := id d1
  obtain ⟨kvL, gL⟩ := o1.2.1.dk
  have na : x.a ∉ [x.o, x.L] := by simp [ne_obj g1 o1.1 (by simp), ne_obj g1 gL (by simp)]
  have nf : x.f ∉ [x.o, x.L] := by simp [n1.symm, n3.symm]
  have nm : x.m ∉ [x.o, x.L] := by simp [n2.symm, n4.symm]
  exact d1.kp k2 na nf nm
theorem dk_noseq {K : PySem.W.Frag} {H : Hp} {a f m : Addr} {D : Ds} {c : Int} {lf : V} (h : DiskAt K H a f m D c lf) : NoSeq H [a, f, m] := by
  obtain ⟨_, C, dx, kf, km, hc, h1, h2, h3, _⟩ := h
  intro p hp
  simp only [List.mem_cons, List.not_mem_nil, or_false] at hp
  rcases hp with rfl | rfl | rfl
  · exact ⟨(fun xs e => by rw [h1] at e; cases e), fun xs e => by rw [h1] at e; cases e⟩
  · exact ⟨(fun xs e => by rw [h2] at e; cases e), fun xs e => by rw [h2] at e; cases e⟩
  · exact ⟨(fun xs e => by rw [h3] at e; cases e), fun xs e => by rw [h3] at e; cases e⟩
theorem ix_of {z : Int} {j n : Nat} (e : z = (j : Int)) (h : j < n) : ixN n z = some j := by rw [e]; exact ix_nat h
theorem side_new {K : PySem.W.Frag} {H2 H3 H4 : Hp} {a f m o L : Addr} {D : Ds} {c : Int} {l : Option Nat} {k : Nat} (hD : DiskAt K H2 a f m D c (lfV l)) (fo : H2 o = none) (fL : H2 L = none) (hO : OwnAt H3 o L D c l) (ok : Ok8 k D) (c0 : 0 ≤ c) (c1 : c ≤ k) (s : Same H2 H4) (t : Same H3 H4) : Side8 K H4 k ⟨a, f, m, o, L, D, c, l⟩ := by
  obtain ⟨_, C, dx, kf, km, hc, h1, h2, h3, _⟩ := id hD
  exact ⟨hD.same s, hO.same t, ok, c0, c1, (ne_of_none h2 fo).symm, (ne_of_none h3 fo).symm, (ne_of_none h2 fL).symm, (ne_of_none h3 fL).symm⟩
theorem P8.neb {K : PySem.W.Frag} {Hb H : Hp} {b d o : Addr} {s : Nat → S8} {k n : Nat} (h : P8 K Hb H b d o s k) (B : BoxAt n H b) : b ≠ d ∧ b ≠ o := by
  obtain ⟨g, fl, sd, cn, hb, _⟩ := B
  exact ⟨ne_obj hb h.hd (fun z => by cases z), ne_obj hb h.ho (fun z => by cases z)⟩
theorem P8.set2 {K : PySem.W.Frag} {Hb H H2 H3 H4 : Hp} {b d o : Addr} {s : Nat → S8} {k j : Nat} {y : S8} (h : P8 K Hb H b d o s k) (s2 : Same H H2) (hj : j < 3) (hy : Side8 K H2 k y) (fy : ∀ p ∈ y.ads, H p = none) (w : Wr H2 d (.lst ((three fun i => (s i).a).set j (.ref y.a))) H3) (w2 : Wr H3 o (.lst ((three fun i => (s i).o).set j (.ref y.o))) H4) :
    P8 K Hb H4 b d o (fun i => if i = j then y else s i) k := by
  have nd := h.nd
  refine h.set s2 hy fy ((Kp.wr Kp.refl (by simp) w).wr (by simp) w2) ?_ ?_
  · rw [w2.keep nd w.here, three_set hj]
    have e : (fun i => if i = j then y.a else (s i).a) = fun i => (if i = j then y else s i).a := funext fun i => by by_cases z : i = j <;> simp [z]
    rw [e]
  · rw [w2.here, three_set hj]
    have e : (fun i => if i = j then y.o else (s i).o) = fun i => (if i = j then y else s i).o := funext fun i => by by_cases z : i = j <;> simp [z]
    rw [e]
section
variable {P : Program} {w : World} {K : PySem.W.Frag} {mg : Str → Option Value} {base : Heap}
variable {e_PowerCut e_InvalidName e_InvalidText e_NoFile e_InvalidKeeps e_InvalidCount e_QueueError e_Disk : Addr}
/-! ### _law_box(_law_great), level 1 -/
abbrev s__law_box : Stmt := top 22
abbrev N__law_box : List Str := ["_law_great"]
theorem sc__law_box : FnScope N__law_box ["_law_great"] (defScope s__law_box) := ⟨rfl, rfl, rfl, by decide +kernel, rfl, by decide +kernel, by decide +kernel⟩
theorem ok__law_box (T : Txt K mg e_PowerCut e_InvalidName e_InvalidText e_NoFile e_InvalidKeeps e_InvalidCount e_QueueError e_Disk) (D : Df K mg "_law_box" s__law_box ["_law_great"]) : Ct P w K mg base CX0 1 "_law_box" ["_law_great"] (sp__law_box K) := by
  refine ct1 D sc__law_box fun f cdv A outer s H a_great Q E hr h => ⟨_, (pss_one (ps_ret (pe_lz (pa_cons (pe_callB c_abs (by rfl) T.n_abs bt_abs (pa_cons (pz 0) pa_nil)) (pa_cons (pe_cmpR o_ge (pe_callB c_abs (by rfl) T.n_abs bt_abs (pa_cons (pz 0) pa_nil)) (pe_op o_pow pe_int pe_int) (nomark _)) (pa_cons (pe_op o_mod (pe_callTy c_int (by rfl) T.n_int bt_int (pa_cons (pe_callB c_abs (by rfl) T.n_abs bt_abs (pa_cons (pz 0) pa_nil)) pa_nil)) pe_int) (pa_cons pe_int pa_nil))))))), ?_⟩
  obtain ⟨g, rfl, k⟩ := h
  refine ⟨⟨by decide, by decide, by decide⟩, by show (0 : Int) < _; decide, by show 4 ≤ sizeLine; decide, fun b H2 n => ?_⟩
  refine k b H2 n.fresh n.same ⟨_, _, _, _, n.here, ?_, ?_, ?_, by decide, by decide⟩
  · split <;> omega
  · exact Int.emod_nonneg _ (by decide)
  · have := Int.emod_lt_of_pos (if g < 0 then -g else g) (show (0 : Int) < 2147483629 by decide)
    omega

/-! ### _law_cell(_law_script, _law_k), level 1 -/
abbrev s__law_cell : Stmt := top 21
abbrev N__law_cell : List Str := ["_law_script", "_law_k"]
theorem sc__law_cell : FnScope N__law_cell ["_law_script", "_law_k"] (defScope s__law_cell) := ⟨rfl, rfl, rfl, by decide +kernel, rfl, by decide +kernel, by decide +kernel⟩
theorem ok__law_cell (T : Txt K mg e_PowerCut e_InvalidName e_InvalidText e_NoFile e_InvalidKeeps e_InvalidCount e_QueueError e_Disk) (D : Df K mg "_law_cell" s__law_cell ["_law_script", "_law_k"]) : Ct P w K mg base CX0 1 "_law_cell" ["_law_script", "_law_k"] (sp__law_cell K) := by
  refine ct2 D sc__law_cell fun f cdv A outer s H a_script a_k Q E hr h => ⟨_, (pss_one (ps_ret (pe_ifExp (pt_cmpZ o_ltS (pz 1) (pe_callB (k_len K) (by rfl) T.n_len bt_len (pa_cons (pz 0) pa_nil)) (nomark _)) (pe_ix (k_ix K) (pz 0) (pz 1) (fun _ _ => rfl)) (pe_op (k_add K) (pe_op o_mul pe_int (pz 1)) (pe_op o_mod (pe_callB (k_sum K rfl) (by rfl) T.n_sum bt_sum (pa_cons (pe_slice (k_sl K) (pz 0) po_none (po_z pe_int)) pa_nil)) pe_int))))), ?_⟩
  obtain ⟨a, i, ns, rfl, rfl, h0, h1, hS, hl, k⟩ := h
  refine .inl ⟨_, .inl hS, ?_⟩
  refine ite2 (fun hc => ?_) (fun hc => ?_)
  · have hi : i < (ns.map V.int).length := by simpa using hc
    rw [List.length_map] at hi
    refine ⟨_, V.int (ns.getD i.toNat 0), .inl hS, ?_, k _ _ (Same.refl _)⟩
    have e : i = ((i.toNat : Nat) : Int) := by omega
    rw [e]
    refine atI_nat ?_
    rw [Int.toNat_natCast, List.getElem?_map, List.getElem?_eq_getElem (by omega)]
    simp [List.getD, List.getElem?_eq_getElem (show i.toNat < ns.length by omega)]
  · refine ⟨.inr ⟨by omega, by omega⟩, .inl ⟨_, hS, fun p H2 n => ?_⟩⟩
    have e : cutV (ns.map V.int) none (some 1) = (ns.take 1).map V.int := by
      cases ns with
      | nil => rfl
      | cons x r => simp [cutV, HT.sIx]
    rw [e] at n
    exact ⟨_, SqL.of n.here, by show (0 : Int) < _; decide, k _ _ n.same⟩

/-! ### _law_own(), level 1 -/
abbrev s__law_own : Stmt := top 24
abbrev N__law_own : List Str := []
theorem sc__law_own : FnScope N__law_own [] (defScope s__law_own) := ⟨rfl, rfl, rfl, by decide +kernel, rfl, by decide +kernel, by decide +kernel⟩
theorem ok__law_own (T : Txt K mg e_PowerCut e_InvalidName e_InvalidText e_NoFile e_InvalidKeeps e_InvalidCount e_QueueError e_Disk) (D : Df K mg "_law_own" s__law_own []) : Ct P w K mg base CX0 1 "_law_own" [] (sp__law_own K) := by
  refine ct0 D sc__law_own fun f cdv A outer s H  Q E hr h => ⟨_, (pss_one (ps_ret (pe_disz (pps_cons pe_str (pe_callTy (k_dict K rfl) (by rfl) T.n_dict bt_dict (pa_cons (pe_lz pa_nil) pa_nil)) (pps_cons pe_str pe_int (pps_cons pe_str pe_non pps_nil))) rfl rfl (by decide) (by decide)))), ?_⟩
  have q := h
  refine fun o H1 n1 => ?_
  refine ⟨by show 0 ≤ sizeLine; decide, fun e0 H2 n2 => ?_⟩
  refine .inl ⟨[], [], SqL.of n2.here, .nil, fun L H3 n3 => ?_⟩
  have ho := n3.keep (n2.keep n1.here)
  refine ⟨ho, ownK L 0 none, rfl, by show 3 ≤ 15; decide, fun H4 w4 => ?_⟩
  have oL : o ≠ L := ne_of_none (n2.keep n1.here) n3.fresh
  have s3 := (n1.same.trans n2.same).trans n3.same
  exact q o L H4 n1.fresh ((n1.same.trans n2.same).free n3.fresh) (s3.wr n1.fresh w4) ⟨w4.here, ⟨[], fun _ => L, w4.keep oL.symm n3.here, Tb.nil, fun j hj => by cases hj⟩, oL⟩

/-! ### _law_take(_law_box_here, _law_many), level 1 -/
abbrev s__law_take : Stmt := top 23
abbrev N__law_take : List Str := ["_law_box_here", "_law_many", "_law_digit", "_law_mixed"]
theorem sc__law_take : FnScope N__law_take ["_law_box_here", "_law_many"] (defScope s__law_take) := ⟨rfl, rfl, rfl, by decide +kernel, rfl, by decide +kernel, by decide +kernel⟩
theorem ok__law_take (T : Txt K mg e_PowerCut e_InvalidName e_InvalidText e_NoFile e_InvalidKeeps e_InvalidCount e_QueueError e_Disk) (D : Df K mg "_law_take" s__law_take ["_law_box_here", "_law_many"]) : Ct P w K mg base CX0 1 "_law_take" ["_law_box_here", "_law_many"] (sp__law_take K) := by
  refine ct2 D sc__law_take fun f cdv A outer s H a_box_here a_many Q E hr h => ⟨_, (pss_cons (ps_if (PW.pt (pw_and (pt_trK K (pe_ix (k_ix K) (pz 0) pe_int (fun _ _ => rfl))) (pw_and1 (pt_cmpZ o_gtS (pe_ix (k_ix K) (pz 0) pe_int (fun _ _ => rfl)) pe_int (nomark _))))) 
      (pss_cons (ps_set (i := 2) sc__law_take.nd rfl (Or.inl rfl) (pe_op o_mod (pe_callTy c_int (by rfl) T.n_int bt_int (pa_cons (pe_ix (k_ix K) (pz 0) pe_int (fun _ _ => rfl)) pa_nil)) (pz 1)))
      (pss_cons (ps_asg (pe_op o_fdiv (pe_ix (k_ix K) (pz 0) pe_int (fun _ _ => rfl)) (pz 1)) (pg_sub (pz 0) pe_int s_list))
      (pss_one (ps_ret (pz 2))))) pss_nil)
    (pss_cons (ps_asg (pe_op (k_add K) (pe_ix (k_ix K) (pz 0) pe_int (fun _ _ => rfl)) pe_int) (pg_sub (pz 0) pe_int s_list))
    (pss_cons (ps_set (i := 3) sc__law_take.nd rfl (Or.inl rfl) (pe_op o_mod (pe_callTy c_int (by rfl) T.n_int bt_int (pa_cons (pe_op o_pow (pe_op (k_add K) (pe_op (k_add K) (pe_ix (k_ix K) (pz 0) pe_int (fun _ _ => rfl)) (pe_op o_mul pe_int (pe_ix (k_ix K) (pz 0) pe_int (fun _ _ => rfl)))) pe_int) pe_int) pa_nil)) pe_int))
    (pss_one (ps_ret (pe_op o_mod (pe_op o_fdiv (pe_op o_mod (pe_callTy c_int (by rfl) T.n_int bt_int (pa_cons (pe_op o_pow (pe_op (k_add K) (pe_op o_mul (pz 3) pe_int) (pe_op o_mul pe_int (pe_ix (k_ix K) (pz 0) pe_int (fun _ _ => rfl)))) pe_int) pa_nil)) pe_int) pe_int) (pz 1))))))), ?_⟩
  obtain ⟨b, m, n, rfl, rfl, hm, hm2, hB, hn, k⟩ := h
  obtain ⟨g, f1, s1, c, hb, g0, s0, s2, c0, c1⟩ := id hB
  have two : (2 : Int) ^ 64 = 18446744073709551616 := by decide
  refine ⟨_, _, .inl (SqL.of hb), rfl, ?_⟩
  refine ite2 (fun h1 => ?_) (fun h1 => ?_)
  · refine ⟨_, _, .inl (SqL.of hb), rfl, ?_⟩
    refine ite2 (fun h2 => ?_) (fun h2 => ?_)
    · refine ⟨_, _, .inl (SqL.of hb), rfl, hm, ?_⟩
      refine ⟨_, _, .inl (SqL.of hb), rfl, ⟨hm, by omega⟩, ?_⟩
      refine ⟨_, 0, hb, rfl, fun H2 w => ?_⟩
      have hg : 0 < g := by simpa using h2
      exact k _ H2 w.but ⟨_, _, _, _, w.here, Int.ediv_nonneg g0 (by omega), s0, s2, c0, by omega⟩ (Int.emod_nonneg _ (by omega)) (Int.emod_lt_of_pos _ hm)
    · refine ⟨_, _, .inl (SqL.of hb), rfl, ?_⟩
      refine ⟨_, 3, hb, rfl, fun H2 w => ?_⟩
      refine ⟨_, _, .inl (SqL.of w.here), rfl, ?_⟩
      refine ⟨_, _, .inl (SqL.of w.here), rfl, .inl ⟨by omega, by omega⟩, ?_⟩
      refine ⟨⟨by decide, by decide, by omega⟩, by show (0 : Int) < _; decide, ?_⟩
      have q1 := Int.emod_nonneg ((s1 + 15485863 * (c + 1) + 179424697) ^ (5 : Int).toNat) (show (2147483647 : Int) ≠ 0 by decide)
      have q2 := Int.emod_lt_of_pos ((s1 + 15485863 * (c + 1) + 179424697) ^ (5 : Int).toNat) (show (0 : Int) < 2147483647 by decide)
      refine ⟨.inr ⟨by omega, by omega⟩, ?_⟩
      refine ⟨_, _, .inl (SqL.of w.here), rfl, .inl ⟨by omega, by omega⟩, ?_⟩
      generalize (s1 + 15485863 * (c + 1) + 179424697) ^ (5 : Int).toNat % 2147483647 = z at q1 q2 ⊢
      refine ⟨⟨by decide, by decide, by omega⟩, by show (0 : Int) < _; decide, ⟨by show (0 : Int) < _; decide, by show _ < (1073741824 : Int); decide⟩, hm, ?_⟩
      exact k _ H2 w.but ⟨_, _, _, _, w.here, g0, s0, s2, by omega, by omega⟩ (Int.emod_nonneg _ (by omega)) (Int.emod_lt_of_pos _ hm)
  · refine iteF ?_
    refine ⟨_, _, .inl (SqL.of hb), rfl, ?_⟩
    refine ⟨_, 3, hb, rfl, fun H2 w => ?_⟩
    refine ⟨_, _, .inl (SqL.of w.here), rfl, ?_⟩
    refine ⟨_, _, .inl (SqL.of w.here), rfl, .inl ⟨by omega, by omega⟩, ?_⟩
    refine ⟨⟨by decide, by decide, by omega⟩, by show (0 : Int) < _; decide, ?_⟩
    have q1 := Int.emod_nonneg ((s1 + 15485863 * (c + 1) + 179424697) ^ (5 : Int).toNat) (show (2147483647 : Int) ≠ 0 by decide)
    have q2 := Int.emod_lt_of_pos ((s1 + 15485863 * (c + 1) + 179424697) ^ (5 : Int).toNat) (show (0 : Int) < 2147483647 by decide)
    refine ⟨.inr ⟨by omega, by omega⟩, ?_⟩
    refine ⟨_, _, .inl (SqL.of w.here), rfl, .inl ⟨by omega, by omega⟩, ?_⟩
    generalize (s1 + 15485863 * (c + 1) + 179424697) ^ (5 : Int).toNat % 2147483647 = z at q1 q2 ⊢
    refine ⟨⟨by decide, by decide, by omega⟩, by show (0 : Int) < _; decide, ⟨by show (0 : Int) < _; decide, by show _ < (1073741824 : Int); decide⟩, hm, ?_⟩
    exact k _ H2 w.but ⟨_, _, _, _, w.here, g0, s0, s2, by omega, by omega⟩ (Int.emod_nonneg _ (by omega)) (Int.emod_lt_of_pos _ hm)

/-! ### _law_call(_law_box_here, _law_own_here), level 2 -/
abbrev s__law_call : Stmt := top 26
abbrev N__law_call : List Str := ["_law_box_here", "_law_own_here", "_law_known", "_law_way", "_law_name"]
theorem sc__law_call : FnScope N__law_call ["_law_box_here", "_law_own_here"] (defScope s__law_call) := ⟨rfl, rfl, rfl, by decide +kernel, rfl, by decide +kernel, by decide +kernel⟩
theorem ok__law_call (T : Txt K mg e_PowerCut e_InvalidName e_InvalidText e_NoFile e_InvalidKeeps e_InvalidCount e_QueueError e_Disk) (C__law_take : Ct P w K mg base CX0 1 "_law_take" ["_law_box_here", "_law_many"] (sp__law_take K)) (D : Df K mg "_law_call" s__law_call ["_law_box_here", "_law_own_here"]) : Ct P w K mg base CX0 2 "_law_call" ["_law_box_here", "_law_own_here"] (sp__law_call K) := by
  refine ct2 D sc__law_call fun f cdv A outer s H a_box_here a_own_here Q E hr h => ⟨_, (pss_cons (ps_parZ (i := 2) (j := 3) (by rfl) sc__law_call.nd rfl rfl (by decide) rfl rfl (pa_cons (pe_callB (k_sortS K) (by rfl) T.n_sorted bt_sorted (pa_cons (pe_callTy (c_listD rfl) (by rfl) T.n_list bt_list (pa_cons (pe_dg (hu_of hr) (pz 1) pe_str (fun _ _ => rfl)) pa_nil)) pa_nil)) (pa_cons (pe_cl C__law_take (hr.mono (by decide)) pass0 (pa_cons (pz 0) (pa_cons pe_int pa_nil))) pa_nil)) (by rfl))
    (pss_cons (ps_set (i := 4) sc__law_call.nd rfl (Or.inl rfl) (pe_ix (k_ix K) (pe_lz (pa_cons pe_str (pa_cons pe_str (pa_cons pe_str (pa_cons pe_str pa_nil))))) (pe_cl C__law_take (hr.mono (by decide)) pass0 (pa_cons (pz 0) (pa_cons pe_int pa_nil))) (fun _ _ => rfl)))
    (pss_cons (ps_if (PW.pt (pw_and (pt_cmpZ (k_ne K hr.units) (pz 2) (pe_lz pa_nil) (nomark _)) (pw_and1 (pt_cmpZ o_gtS (pe_cl C__law_take (hr.mono (by decide)) pass0 (pa_cons (pz 0) (pa_cons pe_int pa_nil))) pe_int (nomark _))))) 
      (pss_one (ps_set (i := 4) sc__law_call.nd rfl (Or.inl rfl) (pe_ix (k_ix K) (pz 2) (pe_cl C__law_take (hr.mono (by decide)) pass0 (pa_cons (pz 0) (pa_cons (pe_callB (k_len K) (by rfl) T.n_len bt_len (pa_cons (pz 2) pa_nil)) pa_nil))) (fun _ _ => rfl)))) pss_nil)
    (pss_cons (ps_if (pt_cmpZ o_ltS (pz 3) pe_int (nomark _)) 
      (pss_one (ps_ret (pe_lz (pa_cons pe_str (pa_cons (pz 4) (pa_cons (pe_ix (k_ix K) (pe_lz (pa_cons pe_str (pa_cons pe_str (pa_cons pe_str (pa_cons pe_str pa_nil))))) (pe_cl C__law_take (hr.mono (by decide)) pass0 (pa_cons (pz 0) (pa_cons pe_int pa_nil))) (fun _ _ => rfl)) pa_nil)))))) pss_nil)
    (pss_cons (ps_if (pt_cmpZ o_ltS (pz 3) pe_int (nomark _)) 
      (pss_one (ps_ret (pe_lz (pa_cons pe_str (pa_cons (pz 4) (pa_cons pe_int pa_nil)))))) pss_nil)
    (pss_cons (ps_if (pt_cmpZ o_ltS (pz 3) pe_int (nomark _)) 
      (pss_one (ps_ret (pe_lz (pa_cons pe_str (pa_cons (pz 4) (pa_cons pe_int pa_nil)))))) pss_nil)
    (pss_cons (ps_if (pt_cmpZ (k_eq K hr.units) (pz 3) pe_int (nomark _)) 
      (pss_one (ps_ret (pe_lz (pa_cons pe_str (pa_cons (pe_ix (k_ix K) (pe_lz (pa_cons (pz 4) (pa_cons pe_str pa_nil))) (pe_cl C__law_take (hr.mono (by decide)) pass0 (pa_cons (pz 0) (pa_cons pe_int pa_nil))) (fun _ _ => rfl)) (pa_cons (pe_ix (k_ix K) (pe_lz (pa_cons pe_str (pa_cons pe_non (pa_cons (pe_lz (pa_cons pe_str pa_nil)) (pa_cons pe_str pa_nil))))) (pe_cl C__law_take (hr.mono (by decide)) pass0 (pa_cons (pz 0) (pa_cons pe_int pa_nil))) (fun _ _ => rfl)) pa_nil)))))) pss_nil)
    (pss_cons (ps_if (pt_cmpZ (k_eq K hr.units) (pz 3) pe_int (nomark _)) 
      (pss_one (ps_ret (pe_lz (pa_cons (pe_ix (k_ix K) (pe_lz (pa_cons pe_str (pa_cons pe_str pa_nil))) (pe_cl C__law_take (hr.mono (by decide)) pass0 (pa_cons (pz 0) (pa_cons pe_int pa_nil))) (fun _ _ => rfl)) (pa_cons (pe_ix (k_ix K) (pe_lz (pa_cons pe_str (pa_cons pe_str (pa_cons pe_non (pa_cons (pe_lz (pa_cons pe_str pa_nil)) (pa_cons pe_str pa_nil)))))) (pe_cl C__law_take (hr.mono (by decide)) pass0 (pa_cons (pz 0) (pa_cons pe_int pa_nil))) (fun _ _ => rfl)) (pa_cons pe_int pa_nil)))))) pss_nil)
    (pss_cons (ps_if (pt_cmpZ o_ltS (pz 3) pe_int (nomark _)) 
      (pss_one (ps_ret (pe_lz (pa_cons pe_str (pa_cons (pe_ix (k_ix K) (pe_lz (pa_cons pe_int (pa_cons pe_int (pa_cons pe_int (pa_cons pe_int (pa_cons pe_non (pa_cons pe_int (pa_cons pe_int (pa_cons pe_int pa_nil))))))))) (pe_cl C__law_take (hr.mono (by decide)) pass0 (pa_cons (pz 0) (pa_cons pe_int pa_nil))) (fun _ _ => rfl)) (pa_cons pe_int pa_nil)))))) pss_nil)
    (pss_cons (ps_if (pt_cmpZ (k_eq K hr.units) (pz 3) pe_int (nomark _)) 
      (pss_one (ps_ret (pe_lz (pa_cons pe_str (pa_cons (pe_ix (k_ix K) (pe_lz (pa_cons (pe_un un_negZ pe_int) (pa_cons pe_bl (pa_cons pe_str (pa_cons (pe_lz (pa_cons pe_int pa_nil)) (pa_cons pe_bl (pa_cons (pe_tz (pa_cons pe_int pa_nil)) (pa_cons (pe_un un_negZ pe_int) pa_nil)))))))) (pe_cl C__law_take (hr.mono (by decide)) pass0 (pa_cons (pz 0) (pa_cons pe_int pa_nil))) (fun _ _ => rfl)) (pa_cons pe_int pa_nil)))))) pss_nil)
    (pss_cons (ps_if (pt_cmpZ (k_eq K hr.units) (pz 3) pe_int (nomark _)) 
      (pss_one (ps_ret (pe_lz (pa_cons pe_str (pa_cons (pz 4) (pa_cons pe_int pa_nil)))))) pss_nil)
    (pss_one (ps_ret (pe_lz (pa_cons pe_str (pa_cons (pe_ix (k_ix K) (pe_lz (pa_cons (pe_lz pa_nil) (pa_cons (pe_lz (pa_cons pe_int pa_nil)) (pa_cons (pe_lz (pa_cons pe_int (pa_cons pe_int pa_nil))) (pa_cons (pe_lz (pa_cons pe_int (pa_cons pe_int pa_nil))) (pa_cons (pe_lz (pa_cons (pe_un un_negZ pe_int) pa_nil)) (pa_cons pe_non (pa_cons (pe_lz (pa_cons pe_bl pa_nil)) (pa_cons pe_int pa_nil))))))))) (pe_cl C__law_take (hr.mono (by decide)) pass0 (pa_cons (pz 0) (pa_cons pe_int pa_nil))) (fun _ _ => rfl)) (pa_cons pe_int pa_nil))))))))))))))))), ?_⟩
  obtain ⟨b, n, o, L, Δ, c, l, k, rfl, rfl, hB, hn, hO, ok, k1, q⟩ := h
  obtain ⟨ho, hL, noL⟩ := id hO
  obtain ⟨kvs, adr, hd, tb, hp⟩ := id hL
  have nl : Δ.names.length < 64 := by have := ok.ok.len; omega
  refine ⟨⟨_, ho⟩, ?_⟩
  refine ⟨_, Sum.inr "files", _, ho, rfl, own_f, ?_⟩
  refine ⟨kvs, hd, fun p1 H1 n1 => ?_⟩
  refine ⟨Δ.names, SqL.of (by rw [n1.here, tb.mem]), nl, fun ys pk H2 pm so n2 => ?_⟩
  have s2 := n1.same.trans n2.same
  have B2 := hB.same s2
  refine ⟨b, 20, n, rfl, rfl, by decide, by decide, B2, by omega, fun w H3 t3 B3 w0 w1 => ?_⟩
  have npk : pk ≠ b := ((hB.same n1.same).ne n2.fresh).symm
  refine ⟨by show 4 ≤ sizeLine; decide, fun p4 H4 n4 => ?_⟩
  have np4 : p4 ≠ b := (B3.ne n4.fresh).symm
  refine ⟨b, 4, _, rfl, rfl, by decide, by decide, B3.same n4.same, by omega, fun r5 H5 t5 B5 r50 r51 => ?_⟩
  obtain ⟨nm, en, hnm⟩ := pool4_at r50 r51
  refine ⟨_, _, .inl (SqL.of (t5.at np4 n4.here)), en, ?_⟩
  refine ⟨by show 0 ≤ sizeLine; decide, fun pe H6 n6 => ?_⟩
  have ynm : ∀ j ∈ ys, nmS j = true := fun j hj => ok.ok.nm j (pm.mem_iff.mp hj)
  have hpk6 := n6.keep (t5.at npk (n4.keep (t3.at npk n2.here)))
  obtain ⟨d, e, e1, e2, e3, e4, e5⟩ := ne_names (K := K) ynm (SqL.of hpk6) (SqL.of n6.here)
  refine ⟨d, e, e1, e2, e3, e4, ?_⟩
  rw [e5]
  have t06 : But b H H6 := (((But.of s2).trans t3).nw n4).trans t5 |>.nw n6
  have B6 : BoxAt (n + 2) H6 b := B5.same n6.same
  have yl : ys.length < 64 := by rw [pm.length_eq]; exact nl
  have ypl : ∀ j ∈ ys, j ∈ pool4 := fun j hj => ok.pl j (pm.mem_iff.mp hj)
  clear e5 e4 e3 e2 e1 d e en n6 t5 n4 t3 B3 B5 B2 so pm ynm
  rcases ys with _ | ⟨y0, yr⟩
  case' nil =>
    obtain ⟨H9, rfl⟩ : ∃ H9, H9 = H6 := ⟨_, rfl⟩
    obtain ⟨nn, rfl⟩ : ∃ nn, nn = nm := ⟨nm, rfl⟩
    have hnn' := hnm
    have t9 := t06
    have B9 : BoxAt (n + 4) H9 b := B6.mono (by omega)
  case' cons =>
    refine ⟨b, 3, _, rfl, rfl, by decide, by decide, B6, by omega, fun r7 H7 t7 B7 r70 r71 => ?_⟩
    refine ite2 (fun h7 => ?_) (fun h7 => ?_)
    case' refine_1 =>
      have hpk7 := t7.at npk hpk6
      refine .inl ⟨_, .inl (SqL.of hpk7), ?_⟩
      rw [List.length_map]
      refine ⟨b, _, _, rfl, rfl, by show (0 : Int) < ((yr.length + 1 : Nat) : Int); omega, by omega, B7, by omega, fun r8 H9 t8 B9 r80 r81 => ?_⟩
      obtain ⟨v, f1, f2, _⟩ := atI_some (xs := (y0 :: yr).map V.str) r80 (by rw [List.length_map]; exact r81)
      obtain ⟨nn, hnn, rfl⟩ := List.mem_map.mp f2
      refine ⟨_, _, .inl (SqL.of (t8.at npk hpk7)), f1, ?_⟩
      have t9 := (t06.trans t7).trans t8
      have B9 : BoxAt (n + 4) H9 b := B9.mono (by omega)
      have hnn' : nn ∈ pool4 := ypl nn hnn
      clear f1 f2 hnn h7 t7 B7
    case' refine_2 =>
      obtain ⟨H9, rfl⟩ : ∃ H9, H9 = H7 := ⟨_, rfl⟩
      obtain ⟨nn, rfl⟩ : ∃ nn, nn = nm := ⟨nm, rfl⟩
      have hnn' := hnm
      have t9 := t06.trans t7
      have B9 : BoxAt (n + 4) H9 b := B7.mono (by omega)
      clear h7 t7 B7
  all_goals
    have fr9 : ∀ x, H9 x = none → H x = none ∧ x ≠ b := fun x e => by
      have nb := (B9.ne e).symm
      refine ⟨?_, nb⟩
      cases e1 : H x with
      | none => rfl
      | some u => rw [t9.at nb e1] at e; cases e
    have fr' : ∀ {m : Nat} {Hx : Hp}, But b H9 Hx → BoxAt m Hx b → ∀ x, Hx x = none → H x = none ∧ x ≠ b := fun {m Hx} t B x e => by
      have nb := (B.ne e).symm
      refine ⟨?_, nb⟩
      cases e1 : H x with
      | none => rfl
      | some u => rw [t.at nb (t9.at nb e1)] at e; cases e
    refine ite2 (fun h1 => ?_) (fun h1 => ?_)
    · -- write
      refine ⟨by show 4 ≤ sizeLine; decide, fun pa Ha na => ?_⟩
      refine ⟨b, 4, _, rfl, rfl, by decide, by decide, B9.same na.same, by omega, fun ra Hb tb' Bb ra0 ra1 => ?_⟩
      obtain ⟨tx, et, htx⟩ := text4_at ra0 ra1
      refine ⟨_, _, .inl (SqL.of (tb'.at (B9.ne na.fresh).symm na.here)), et, ?_⟩
      refine ⟨by show 3 ≤ sizeLine; decide, fun pq Hq nq => ?_⟩
      obtain ⟨f1, f2⟩ := fr9 pq (na.same.free (by
        cases e1 : Ha pq with
        | none => rfl
        | some u =>
          by_cases z : pq = b
          · exact absurd z (Bb.ne nq.fresh).symm
          · have := nq.fresh
            rw [tb'.at z e1] at this; cases this))
      exact q pq "write" _ _ _ Hq (((t9.nw na).trans tb').nw nq) ((Bb.same nq.same).mono (by omega)) f1 f2 nq.here (.write hnn' htx) no_ref
    refine ite2 (fun h2 => ?_) (fun h2 => ?_)
    · -- sync
      refine ⟨by show 3 ≤ sizeLine; decide, fun pq Hq nq => ?_⟩
      obtain ⟨f1, f2⟩ := fr9 pq nq.fresh
      obtain ⟨r, j⟩ := jd_file (H := Hq) (D := Δ) (w := "sync") (by simp) hnn'
      exact q pq "sync" _ _ _ Hq (t9.nw nq) ((B9.same nq.same).mono (by omega)) f1 f2 nq.here j no_ref
    refine ite2 (fun h3 => ?_) (fun h3 => ?_)
    · -- drop
      refine ⟨by show 3 ≤ sizeLine; decide, fun pq Hq nq => ?_⟩
      obtain ⟨f1, f2⟩ := fr9 pq nq.fresh
      obtain ⟨r, j⟩ := jd_file (H := Hq) (D := Δ) (w := "drop") (by simp) hnn'
      exact q pq "drop" _ _ _ Hq (t9.nw nq) ((B9.same nq.same).mono (by omega)) f1 f2 nq.here j no_ref
    refine ite2 (fun h4 => ?_) (fun h4 => ?_)
    · -- write with a bad text, perhaps a bad name
      refine ⟨by show 2 ≤ sizeLine; decide, fun pa Ha na => ?_⟩
      refine ⟨b, 2, _, rfl, rfl, by decide, by decide, B9.same na.same, by omega, fun ra Hb tb' Bb ra0 ra1 => ?_⟩
      obtain ⟨v, ev, hv, _⟩ := atI_some (xs := [V.str nn, .str "A"]) (r := ra) ra0 (by show _ < 2; omega)
      refine ⟨_, v, .inl (SqL.of (tb'.at (B9.ne na.fresh).symm na.here)), ev, ?_⟩
      refine ⟨by show 1 ≤ sizeLine; decide, fun px Hc nc => ?_⟩
      refine ⟨by show 4 ≤ sizeLine; decide, fun pm' Hd nd => ?_⟩
      have Bd := (Bb.same nc.same).same nd.same
      have npx : px ≠ b := (Bb.ne nc.fresh).symm
      have npm : pm' ≠ b := ((Bb.same nc.same).ne nd.fresh).symm
      refine ⟨b, 4, _, rfl, rfl, by decide, by decide, Bd, by omega, fun rb He te Be rb0 rb1 => ?_⟩
      obtain ⟨y, ey, hy, _⟩ := atI_some (xs := [V.str "", .non, .ref px, .str "\n"]) (r := rb) rb0 (by show _ < 4; omega)
      refine ⟨_, y, .inl (SqL.of (te.at npm nd.here)), ey, ?_⟩
      refine ⟨by show 3 ≤ sizeLine; decide, fun pq Hq nq => ?_⟩
      have tE : But b H9 He := ((((But.of na.same).trans tb').nw nc).nw nd).trans te
      obtain ⟨f1, f2⟩ := fr' tE Be pq nq.fresh
      have hx := nq.keep (te.at npx (nd.keep nc.here))
      have by' : BadTx Hq y := by
        simp only [List.mem_cons, List.not_mem_nil, or_false] at hy
        rcases hy with rfl | rfl | rfl | rfl
        · exact bad_tx (d := .str "") (.str _) (.inl ⟨rfl, by decide +kernel⟩) (by decide +kernel)
        · exact bad_tx (d := .none) .non (.inl ⟨rfl, by decide +kernel⟩) (by decide +kernel)
        · exact bad_tx (d := .list [.str "x"]) (.lst hx (fun z => by cases z) (.cons (.str _) .nil)) (.inr ⟨px, _, rfl, hx⟩) (by decide +kernel)
        · exact bad_tx (d := .str "\n") (.str _) (.inl ⟨rfl, by decide +kernel⟩) (by decide +kernel)
      simp only [List.mem_cons, List.not_mem_nil, or_false] at hv
      rcases hv with rfl | rfl
      · exact q pq "write" _ y _ Hq ((t9.trans tE).nw nq) ((Be.same nq.same).mono (by omega)) f1 f2 nq.here (.text (pool_good hnn') by') no_ref
      · exact q pq "write" _ y _ Hq ((t9.trans tE).nw nq) ((Be.same nq.same).mono (by omega)) f1 f2 nq.here (.name (by simp) (bad_nm (d := .str "A") (.str _) (.inl ⟨rfl, by decide +kernel⟩) (by decide +kernel))) no_ref
    refine ite2 (fun h5 => ?_) (fun h5 => ?_)
    · -- sync, drop with bad names
      refine ⟨by show 2 ≤ sizeLine; decide, fun pa Ha na => ?_⟩
      refine ⟨b, 2, _, rfl, rfl, by decide, by decide, B9.same na.same, by omega, fun ra Hb tb' Bb ra0 ra1 => ?_⟩
      obtain ⟨v, ev, hv, _⟩ := atI_some (xs := [V.str "sync", .str "drop"]) (r := ra) ra0 (by show _ < 2; omega)
      refine ⟨_, v, .inl (SqL.of (tb'.at (B9.ne na.fresh).symm na.here)), ev, ?_⟩
      refine ⟨by show 1 ≤ sizeLine; decide, fun px Hc nc => ?_⟩
      refine ⟨by show 5 ≤ sizeLine; decide, fun pm' Hd nd => ?_⟩
      have Bd := (Bb.same nc.same).same nd.same
      have npx : px ≠ b := (Bb.ne nc.fresh).symm
      have npm : pm' ≠ b := ((Bb.same nc.same).ne nd.fresh).symm
      refine ⟨b, 5, _, rfl, rfl, by decide, by decide, Bd, by omega, fun rb He te Be rb0 rb1 => ?_⟩
      obtain ⟨y, ey, hy, _⟩ := atI_some (xs := [V.str "zz", .str "", .non, .ref px, .str "B"]) (r := rb) rb0 (by show _ < 5; omega)
      refine ⟨_, y, .inl (SqL.of (te.at npm nd.here)), ey, ?_⟩
      refine ⟨by show 3 ≤ sizeLine; decide, fun pq Hq nq => ?_⟩
      have tE : But b H9 He := ((((But.of na.same).trans tb').nw nc).nw nd).trans te
      obtain ⟨f1, f2⟩ := fr' tE Be pq nq.fresh
      have hx := nq.keep (te.at npx (nd.keep nc.here))
      have fx : H px = none ∧ px ≠ b ∧ px ≠ pq := by
        obtain ⟨g1, g2⟩ := fr' ((But.of na.same).trans tb') Bb px nc.fresh
        exact ⟨g1, g2, ne_of_none (te.at npx (nd.keep nc.here)) nq.fresh⟩
      have hw : ∃ ws : Str, v = .str ws ∧ (ws = "sync" ∨ ws = "drop" ∨ ws = "read") := by
        simp only [List.mem_cons, List.not_mem_nil, or_false] at hv
        rcases hv with rfl | rfl
        · exact ⟨"sync", rfl, .inl rfl⟩
        · exact ⟨"drop", rfl, .inr (.inl rfl)⟩
      obtain ⟨ws, rfl, hw⟩ := hw
      have fin : (∃ r, Jd Hq Δ ws y (.int 0) r) ∧ ∀ p, y = .ref p → H p = none ∧ p ≠ b ∧ p ≠ pq := by
        simp only [List.mem_cons, List.not_mem_nil, or_false] at hy
        rcases hy with rfl | rfl | rfl | rfl | rfl
        · exact ⟨⟨_, .gone hw (by decide) fun z => zz_pool (ok.pl _ z)⟩, no_ref⟩
        · exact ⟨⟨_, .name (.inr hw) (bad_nm (d := .str "") (.str _) (.inl ⟨rfl, by decide +kernel⟩) (by decide +kernel))⟩, no_ref⟩
        · exact ⟨⟨_, .name (.inr hw) (bad_nm (d := .none) .non (.inl ⟨rfl, by decide +kernel⟩) (by decide +kernel))⟩, fun p e => by cases e⟩
        · exact ⟨⟨_, .name (.inr hw) (bad_nm (d := .list [.str "a"]) (.lst hx (fun z => by cases z) (.cons (.str _) .nil)) (.inr ⟨px, _, rfl, hx⟩) (by decide +kernel))⟩, fun p e => by cases e; exact fx⟩
        · exact ⟨⟨_, .name (.inr hw) (bad_nm (d := .str "B") (.str _) (.inl ⟨rfl, by decide +kernel⟩) (by decide +kernel))⟩, no_ref⟩
      obtain ⟨⟨r, j⟩, fy⟩ := fin
      exact q pq ws y (.int 0) r Hq ((t9.trans tE).nw nq) ((Be.same nq.same).mono (by omega)) f1 f2 nq.here j fy
    refine ite2 (fun h6 => ?_) (fun h6 => ?_)
    · -- arm
      refine ⟨by show 8 ≤ sizeLine; decide, fun pa Ha na => ?_⟩
      refine ⟨b, 8, _, rfl, rfl, by decide, by decide, B9.same na.same, by omega, fun ra Hb tb' Bb ra0 ra1 => ?_⟩
      obtain ⟨v, ev, hv, _⟩ := atI_some (xs := [V.int 0, .int 1, .int 2, .int 3, .non, .int 4, .int 1, .int 2]) (r := ra) ra0 (by show _ < 8; omega)
      refine ⟨_, v, .inl (SqL.of (tb'.at (B9.ne na.fresh).symm na.here)), ev, ?_⟩
      refine ⟨by show 3 ≤ sizeLine; decide, fun pq Hq nq => ?_⟩
      have tE : But b H9 Hb := (But.of na.same).trans tb'
      obtain ⟨f1, f2⟩ := fr' tE Bb pq nq.fresh
      obtain ⟨l', rfl⟩ : ∃ l', v = lfV l' := by
        simp only [List.mem_cons, List.not_mem_nil, or_false] at hv
        rcases hv with rfl | rfl | rfl | rfl | rfl | rfl | rfl | rfl
        · exact ⟨some 0, rfl⟩
        · exact ⟨some 1, rfl⟩
        · exact ⟨some 2, rfl⟩
        · exact ⟨some 3, rfl⟩
        · exact ⟨none, rfl⟩
        · exact ⟨some 4, rfl⟩
        · exact ⟨some 1, rfl⟩
        · exact ⟨some 2, rfl⟩
      exact q pq "arm" _ _ _ Hq ((t9.trans tE).nw nq) ((Bb.same nq.same).mono (by omega)) f1 f2 nq.here .arm fun p e => by cases l' <;> cases e
    refine ite2 (fun h7 => ?_) (fun h7 => ?_)
    · -- arm with a bad count
      refine ⟨by show 1 ≤ sizeLine; decide, fun px Hc nc => ?_⟩
      refine ⟨by show 1 ≤ sizeLine; decide, fun pz Hz nz => ?_⟩
      refine ⟨by show 7 ≤ sizeLine; decide, fun pm' Hd nd => ?_⟩
      have Bd := ((B9.same nc.same).same nz.same).same nd.same
      have npx : px ≠ b := (B9.ne nc.fresh).symm
      have npz : pz ≠ b := ((B9.same nc.same).ne nz.fresh).symm
      have npm : pm' ≠ b := (((B9.same nc.same).same nz.same).ne nd.fresh).symm
      refine ⟨b, 7, _, rfl, rfl, by decide, by decide, Bd, by omega, fun rb He te Be rb0 rb1 => ?_⟩
      obtain ⟨y, ey, hy, _⟩ := atI_some (xs := [V.int (-1), .bl true, .str "1", .ref px, .bl false, .ref pz, .int (-5)]) (r := rb) rb0 (by show _ < 7; omega)
      refine ⟨_, y, .inl (SqL.of (te.at npm nd.here)), ey, ?_⟩
      refine ⟨by show 3 ≤ sizeLine; decide, fun pq Hq nq => ?_⟩
      have tE : But b H9 He := ((((But.of nc.same).nw nz).nw nd)).trans te
      obtain ⟨f1, f2⟩ := fr' tE Be pq nq.fresh
      have hxe := te.at npx (nd.keep (nz.keep nc.here))
      have hx := nq.keep hxe
      have hze := te.at npz (nd.keep nz.here)
      have hz := nq.keep hze
      have fx : H px = none ∧ px ≠ b ∧ px ≠ pq := ⟨(fr9 px nc.fresh).1, npx, ne_of_none hxe nq.fresh⟩
      have fz : H pz = none ∧ pz ≠ b ∧ pz ≠ pq := ⟨(fr' (But.of nc.same) (B9.same nc.same) pz nz.fresh).1, npz, ne_of_none hze nq.fresh⟩
      have fin : BadCt Hq y ∧ ∀ p, y = .ref p → H p = none ∧ p ≠ b ∧ p ≠ pq := by
        simp only [List.mem_cons, List.not_mem_nil, or_false] at hy
        rcases hy with rfl | rfl | rfl | rfl | rfl | rfl | rfl
        · exact ⟨bad_ct (d := .int (-1)) (.int _) (.inl rfl) (by decide +kernel), fun p e => by cases e⟩
        · exact ⟨bad_ct (d := .bool true) (.bl _) (.inl rfl) (by decide +kernel), fun p e => by cases e⟩
        · exact ⟨bad_ct (d := .str "1") (.str _) (.inl rfl) (by decide +kernel), no_ref⟩
        · exact ⟨bad_ct (d := .list [.int 1]) (.lst hx (fun z => by cases z) (.cons (.int _) .nil)) (grow1 hx (fun _ => .int _) (sw_i1 1 (by decide))) (by decide +kernel), fun p e => by cases e; exact fx⟩
        · exact ⟨bad_ct (d := .bool false) (.bl _) (.inl rfl) (by decide +kernel), fun p e => by cases e⟩
        · exact ⟨bad_ct (d := .tuple [.int 0]) (.tup hz (.cons (.int _) .nil)) (.inl rfl) (by decide +kernel), fun p e => by cases e; exact fz⟩
        · exact ⟨bad_ct (d := .int (-5)) (.int _) (.inl rfl) (by decide +kernel), fun p e => by cases e⟩
      exact q pq "arm" y (.int 0) _ Hq ((t9.trans tE).nw nq) ((Be.same nq.same).mono (by omega)) f1 f2 nq.here (.count fin.1) fin.2
    refine ite2 (fun h8 => ?_) (fun h8 => ?_)
    · -- read
      refine ⟨by show 3 ≤ sizeLine; decide, fun pq Hq nq => ?_⟩
      obtain ⟨f1, f2⟩ := fr9 pq nq.fresh
      obtain ⟨r, j⟩ := jd_file (H := Hq) (D := Δ) (w := "read") (by simp) hnn'
      exact q pq "read" _ _ _ Hq (t9.nw nq) ((B9.same nq.same).mono (by omega)) f1 f2 nq.here j no_ref
    -- fall
    refine ⟨by show 0 ≤ sizeLine; decide, fun a1 G1 g1 => ?_⟩
    refine ⟨by show 1 ≤ sizeLine; decide, fun a2 G2 g2 => ?_⟩
    refine ⟨by show 2 ≤ sizeLine; decide, fun a3 G3 g3 => ?_⟩
    refine ⟨by show 2 ≤ sizeLine; decide, fun a4 G4 g4 => ?_⟩
    refine ⟨by show 1 ≤ sizeLine; decide, fun a5 G5 g5 => ?_⟩
    refine ⟨by show 1 ≤ sizeLine; decide, fun a6 G6 g6 => ?_⟩
    refine ⟨by show 8 ≤ sizeLine; decide, fun pm' Hd nd => ?_⟩
    have s16 := ((((g2.same.trans g3.same).trans g4.same).trans g5.same).trans g6.same)
    have B6' : BoxAt (n + 4) G6 b := B9.same (g1.same.trans s16)
    have Bd := B6'.same nd.same
    have npm : pm' ≠ b := (B6'.ne nd.fresh).symm
    refine ⟨b, 8, _, rfl, rfl, by decide, by decide, Bd, by omega, fun rb He te Be rb0 rb1 => ?_⟩
    obtain ⟨y, ey, hy, _⟩ := atI_some (xs := [V.ref a1, .ref a2, .ref a3, .ref a4, .ref a5, .non, .ref a6, .int 3]) (r := rb) rb0 (by show _ < 8; omega)
    refine ⟨_, y, .inl (SqL.of (te.at npm nd.here)), ey, ?_⟩
    refine ⟨by show 3 ≤ sizeLine; decide, fun pq Hq nq => ?_⟩
    have tE : But b H9 He := ((But.of (g1.same.trans s16)).nw nd).trans te
    obtain ⟨f1, f2⟩ := fr' tE Be pq nq.fresh
    have keep : ∀ {x : Addr} {u : HO}, G6 x = some u → H9 x = none → Hq x = some u ∧ H x = none ∧ x ≠ b ∧ x ≠ pq := fun {x u} e z => by
      obtain ⟨z1, z2⟩ := fr9 x z
      have e2 := te.at z2 (nd.keep e)
      exact ⟨nq.keep e2, z1, z2, ne_of_none e2 nq.fresh⟩
    have k1' := keep (s16 _ _ g1.here) g1.fresh
    have k2' := keep ((((g3.same.trans g4.same).trans g5.same).trans g6.same) _ _ g2.here) (g1.same.free g2.fresh)
    have k3' := keep (((g4.same.trans g5.same).trans g6.same) _ _ g3.here) ((g1.same.trans g2.same).free g3.fresh)
    have k4' := keep ((g5.same.trans g6.same) _ _ g4.here) (((g1.same.trans g2.same).trans g3.same).free g4.fresh)
    have k5' := keep (g6.same _ _ g5.here) ((((g1.same.trans g2.same).trans g3.same).trans g4.same).free g5.fresh)
    have k6' := keep g6.here (((((g1.same.trans g2.same).trans g3.same).trans g4.same).trans g5.same).free g6.fresh)
    have fin : (∃ r, Jd Hq Δ "fall" y (.int 0) r) ∧ ∀ p, y = .ref p → H p = none ∧ p ≠ b ∧ p ≠ pq := by
      simp only [List.mem_cons, List.not_mem_nil, or_false] at hy
      rcases hy with rfl | rfl | rfl | rfl | rfl | rfl | rfl | rfl
      · exact ⟨⟨_, .fall (ks := []) k1'.1 (by decide)⟩, fun p e => by cases e; exact k1'.2⟩
      · exact ⟨⟨_, .fall (ks := [1]) k2'.1 (by decide)⟩, fun p e => by cases e; exact k2'.2⟩
      · exact ⟨⟨_, .fall (ks := [2, 0]) k3'.1 (by decide)⟩, fun p e => by cases e; exact k3'.2⟩
      · exact ⟨⟨_, .fall (ks := [0, 5]) k4'.1 (by decide)⟩, fun p e => by cases e; exact k4'.2⟩
      · exact ⟨⟨_, .keeps (bad_kp (d := .list [.int (-1)]) (.lst k5'.1 (fun z => by cases z) (.cons (.int _) .nil)) (grow1 k5'.1 (fun _ => .int _) (sw_i1 (-1) (by decide))) (fun ds e => by rcases e with e | e <;> cases e; show 1 ≤ 1000; decide) (by decide +kernel))⟩, fun p e => by cases e; exact k5'.2⟩
      · exact ⟨⟨_, .keeps (bad_kp (d := .none) .non (.inl rfl) (fun ds e => by rcases e with e | e <;> cases e) (by decide +kernel))⟩, fun p e => by cases e⟩
      · exact ⟨⟨_, .keeps (bad_kp (d := .list [.bool true]) (.lst k6'.1 (fun z => by cases z) (.cons (.bl _) .nil)) (grow1 k6'.1 (fun _ => .bl _) sw_b1) (fun ds e => by rcases e with e | e <;> cases e; show 1 ≤ 1000; decide) (by decide +kernel))⟩, fun p e => by cases e; exact k6'.2⟩
      · exact ⟨⟨_, .keeps (bad_kp (d := .int 3) (.int _) (.inl rfl) (fun ds e => by rcases e with e | e <;> cases e) (by decide +kernel))⟩, fun p e => by cases e⟩
    obtain ⟨⟨r, j⟩, fy⟩ := fin
    exact q pq "fall" y (.int 0) r Hq ((t9.trans tE).nw nq) ((Be.same nq.same).mono (by omega)) f1 f2 nq.here j fy

/-! ### _law_wrong(_law_own_here, _law_word, _law_first, _law_second), level 1 -/
abbrev s__law_wrong : Stmt := top 28
abbrev N__law_wrong : List Str := ["_law_own_here", "_law_word", "_law_first", "_law_second", "_law_is_count"]
theorem sc__law_wrong : FnScope N__law_wrong ["_law_own_here", "_law_word", "_law_first", "_law_second"] (defScope s__law_wrong) := ⟨rfl, rfl, rfl, by decide +kernel, rfl, by decide +kernel, by decide +kernel⟩
theorem ok__law_wrong (T : Txt K mg e_PowerCut e_InvalidName e_InvalidText e_NoFile e_InvalidKeeps e_InvalidCount e_QueueError e_Disk) (D : Df K mg "_law_wrong" s__law_wrong ["_law_own_here", "_law_word", "_law_first", "_law_second"]) : Cg P w K mg base CX0 1 "_law_wrong" ["_law_own_here", "_law_word", "_law_first", "_law_second"] (sp__law_wrong K) := by
  refine cg4 D sc__law_wrong fun f cdv A outer s H a_own_here a_word a_first a_second Q E hr h => ⟨_, (pss_cons (ps_if (pt_cmpZ (k_eq K hr.room.units) (pz 1) pe_str (nomark _)) 
      (pss_cons (ps_set (i := 4) sc__law_wrong.nd rfl (Or.inl rfl) (pe_andZ (pe_callB (k_isi K) (by rfl) T.n_isinstance bt_isinstance (pa_cons (pz 2) (pa_cons (pe_bltn (v := .ty "int") (by rfl) T.n_int bt_int rfl) pa_nil))) (pe_andZ (pe_notZ (pe_callB (k_isi K) (by rfl) T.n_isinstance bt_isinstance (pa_cons (pz 2) (pa_cons (pe_bltn (v := .ty "bool") (by rfl) T.n_bool bt_bool rfl) pa_nil)))) (pe_one (pe_cmpR o_ge (pz 2) pe_int (nomark _))))))
      (pss_one (ps_ret (pe_ifExp (PW.pt (pw_or (pt_cmpZ o_is (pz 2) pe_non (nomark _)) (pw_or1 (pt_trK K (pz 4))))) pe_non (pe_lz (pa_cons pe_str (pa_cons (pz 2) pa_nil))))))) pss_nil)
    (pss_cons (ps_if (pt_cmpZ (k_eq K hr.room.units) (pz 1) pe_str (nomark _)) 
      (pss_one (ps_ret (pe_ifExp (pt_cmpZ (k_in K) (pe_callB (c_repr hr) (by rfl) T.n_repr bt_repr (pa_cons (pz 2) pa_nil)) (pe_lz (pa_cons pe_str (pa_cons pe_str (pa_cons pe_str (pa_cons pe_str pa_nil))))) (by rfl)) pe_non (pe_lz (pa_cons pe_str (pa_cons (pz 2) pa_nil)))))) pss_nil)
    (pss_cons (ps_if (pt_cmpZ (k_ninS K hr.room.units) (pz 2) (pe_lz (pa_cons pe_str (pa_cons pe_str (pa_cons pe_str (pa_cons pe_str (pa_cons pe_str pa_nil)))))) (by rfl)) 
      (pss_one (ps_ret (pe_lz (pa_cons pe_str (pa_cons (pz 2) pa_nil))))) pss_nil)
    (pss_cons (ps_if (pt_cmpZ (k_eq K hr.room.units) (pz 1) pe_str (nomark _)) 
      (pss_one (ps_ret (pe_ifExp (pt_cmpZ (k_inS K hr.room.units) (pz 3) (pe_lz (pa_cons pe_str (pa_cons pe_str (pa_cons pe_str (pa_cons pe_str pa_nil))))) (by rfl)) pe_non (pe_lz (pa_cons pe_str (pa_cons (pz 3) pa_nil)))))) pss_nil)
    (pss_one (ps_ret (pe_ifExp (pt_cmpZ (o_inZ (hu_of hr.room)) (pz 2) (pe_dg (hu_of hr.room) (pz 0) pe_str (fun _ _ => rfl)) (by rfl)) pe_non (pe_lz (pa_cons pe_str (pa_cons (pz 2) pa_nil)))))))))), ?_⟩
  obtain ⟨o, L, Δ, c, l, r, ws, rfl, rfl, hO, j, qn, qs⟩ := h
  obtain ⟨ho, hL, noL⟩ := id hO
  obtain ⟨kvs, adr, hd, tb, hp⟩ := id hL
  cases j with
  | @write n t gn gt =>
    refine ⟨by show 5 ≤ sizeLine; decide, fun p1 H1 n1 => ?_⟩
    refine ⟨_, SqL.of n1.here, .inl ⟨rfl, rfl, ?_⟩⟩
    refine iteN (c := true ^^ inV (.str n) (good5.map V.str)) (by rw [in_strs, decide_eq_true (pool_good gn)]; rfl) ?_
    refine ⟨by show 4 ≤ sizeLine; decide, fun p2 H2 n2 => ?_⟩
    refine ⟨_, SqL.of n2.here, .inl ⟨rfl, rfl, ?_⟩⟩
    refine iteY (c := false ^^ inV (.str t) (texts4.map V.str)) (by rw [in_strs, decide_eq_true gt]; rfl) ?_
    exact qn rfl H2 (n1.same.trans n2.same)
  | @text n y gn bt =>
    obtain ⟨d, dz, _, _, ni, _⟩ := bt
    refine ⟨by show 5 ≤ sizeLine; decide, fun p1 H1 n1 => ?_⟩
    refine ⟨_, SqL.of n1.here, .inl ⟨rfl, rfl, ?_⟩⟩
    refine iteN (c := true ^^ inV (.str n) (good5.map V.str)) (by rw [in_strs, decide_eq_true gn]; rfl) ?_
    refine ⟨by show 4 ≤ sizeLine; decide, fun p2 H2 n2 => ?_⟩
    have s2 := n1.same.trans n2.same
    refine ⟨_, SqL.of n2.here, ?_⟩
    rcases ni with ⟨f, e⟩ | ⟨a, ys, rfl, ha⟩
    · refine .inl ⟨f, flat_strs texts4, ?_⟩
      refine iteN (c := false ^^ inV a_second (texts4.map V.str)) (by rw [e]; rfl) ?_
      refine ⟨by show 2 ≤ sizeLine; decide, fun p3 H3 n3 => ?_⟩
      exact qs _ _ rfl p3 H3 (s2.trans n3.same) (s2.free n3.fresh) n3.here
    · refine .inr ⟨a, ys, rfl, SqL.of (s2 _ _ ha), strs_of (ns := texts4), ?_⟩
      refine ⟨by show 2 ≤ sizeLine; decide, fun p3 H3 n3 => ?_⟩
      exact qs _ _ rfl p3 H3 (s2.trans n3.same) (s2.free n3.fresh) n3.here
  | @file w n hw gn hin =>
    rcases hw with rfl | rfl | rfl
    all_goals
      refine ⟨by show 5 ≤ sizeLine; decide, fun p1 H1 n1 => ?_⟩
      refine ⟨_, SqL.of n1.here, .inl ⟨rfl, rfl, ?_⟩⟩
      refine iteN (c := true ^^ inV (.str n) (good5.map V.str)) (by rw [in_strs, decide_eq_true gn]; rfl) ?_
      refine ⟨⟨_, n1.keep ho⟩, ?_⟩
      refine ⟨_, Sum.inr "files", _, n1.keep ho, rfl, own_f, ?_⟩
      refine ⟨kvs, Sum.inr n, n1.keep hd, rfl, ?_⟩
      refine iteY (c := false ^^ (valV kvs (Sum.inr n)).isSome) (by rw [tb.has, decide_eq_true hin]; rfl) ?_
      exact qn rfl H1 n1.same
  | @gone w n hw gn hin =>
    rcases hw with rfl | rfl | rfl
    all_goals
      refine ⟨by show 5 ≤ sizeLine; decide, fun p1 H1 n1 => ?_⟩
      refine ⟨_, SqL.of n1.here, .inl ⟨rfl, rfl, ?_⟩⟩
      refine iteN (c := true ^^ inV (.str n) (good5.map V.str)) (by rw [in_strs, decide_eq_true gn]; rfl) ?_
      refine ⟨⟨_, n1.keep ho⟩, ?_⟩
      refine ⟨_, Sum.inr "files", _, n1.keep ho, rfl, own_f, ?_⟩
      refine ⟨kvs, Sum.inr n, n1.keep hd, rfl, ?_⟩
      refine iteN (c := false ^^ (valV kvs (Sum.inr n)).isSome) (by rw [tb.has, decide_eq_false hin]; rfl) ?_
      refine ⟨by show 2 ≤ sizeLine; decide, fun p3 H3 n3 => ?_⟩
      exact qs _ _ rfl p3 H3 (n1.same.trans n3.same) (n1.same.free n3.fresh) n3.here
  | @name w x y hw bn =>
    obtain ⟨d, dz, _, _, ni, _⟩ := bn
    rcases hw with rfl | rfl | rfl | rfl
    all_goals
      refine ⟨by show 5 ≤ sizeLine; decide, fun p1 H1 n1 => ?_⟩
      refine ⟨_, SqL.of n1.here, ?_⟩
      rcases ni with ⟨f, e⟩ | ⟨a, ys, rfl, ha⟩
      · refine .inl ⟨f, flat_strs good5, ?_⟩
        refine iteY (c := true ^^ inV a_first (good5.map V.str)) (by rw [e]; rfl) ?_
        refine ⟨by show 2 ≤ sizeLine; decide, fun p3 H3 n3 => ?_⟩
        exact qs _ _ rfl p3 H3 (n1.same.trans n3.same) (n1.same.free n3.fresh) n3.here
      · refine .inr ⟨a, ys, rfl, SqL.of (n1.same _ _ ha), strs_of (ns := good5), ?_⟩
        refine ⟨by show 2 ≤ sizeLine; decide, fun p3 H3 n3 => ?_⟩
        exact qs _ _ rfl p3 H3 (n1.same.trans n3.same) (n1.same.free n3.fresh) n3.here
  | @arm l' =>
    cases l' with
    | none =>
      refine ⟨by decide, "NoneType", rfl, ?_⟩
      exact qn rfl H (Same.refl H)
    | some n =>
      refine ⟨by decide, "int", rfl, ?_⟩
      refine ⟨by decide, "int", rfl, ?_⟩
      exact qn rfl H (Same.refl H)
  | @count x bc =>
    obtain ⟨d, dz, hb, _, _⟩ := bc
    have fin : ∀ p H2, Nw H p (.lst [.str "count", a_first]) H2 → Q (.ref p) H2 := fun p H2 n => qs _ _ rfl p H2 n.same n.fresh n.here
    cases dz with
    | non => cases hb
    | bl b =>
      refine ⟨by decide, "bool", rfl, ?_⟩
      refine ⟨by decide, "bool", rfl, ?_⟩
      exact ⟨by show 2 ≤ sizeLine; decide, fin⟩
    | int i =>
      refine ⟨by decide, "int", rfl, ?_⟩
      refine ⟨by decide, "int", rfl, ?_⟩
      refine iteN (c := decide ((0 : Int) ≤ i)) hb ?_
      exact ⟨by show 2 ≤ sizeLine; decide, fin⟩
    | str z =>
      refine ⟨by decide, "str", rfl, ?_⟩
      exact ⟨by show 2 ≤ sizeLine; decide, fin⟩
    | lst e _ a =>
      refine ⟨by decide, "list", .inl ⟨rfl, _, SqL.of e⟩, ?_⟩
      exact ⟨by show 2 ≤ sizeLine; decide, fin⟩
    | tup e a =>
      refine ⟨by decide, "tuple", .inr (.inl ⟨rfl, _, SqT.of e⟩), ?_⟩
      exact ⟨by show 2 ≤ sizeLine; decide, fin⟩
    | dic e a =>
      refine ⟨by decide, "dict", .inr (.inr ⟨rfl, .inl ⟨_, e⟩⟩), ?_⟩
      exact ⟨by show 2 ≤ sizeLine; decide, fin⟩
  | @fall p ks hk h4 =>
    obtain ⟨e4, sh, _, _⟩ := kp4 ks h4
    refine ⟨false, _, .lst hk (fun z => by cases z) (dz_ints ks), (fun z => by rw [sh.2] at z; cases z), sh.1.sh, Nat.le_trans sh.1.dp (by decide), sz (Nat.le_trans sh.1.ln (by decide)), ?_⟩
    refine ⟨by show 4 ≤ sizeLine; decide, fun p1 H1 n1 => ?_⟩
    refine ⟨_, .inl (SqL.of n1.here), rfl, rfl, ?_⟩
    refine iteY (c := false ^^ inV (.str _) (shown4.map V.str)) (by rw [in_strs, e4]; rfl) ?_
    exact qn rfl H1 n1.same
  | @keeps x bk =>
    obtain ⟨d, dz, _, _, e4, sh, _⟩ := bk
    refine ⟨false, d, dz, (fun z => by rw [sh.2] at z; cases z), sh.1.sh, Nat.le_trans sh.1.dp (by decide), sz (Nat.le_trans sh.1.ln (by decide)), ?_⟩
    refine ⟨by show 4 ≤ sizeLine; decide, fun p1 H1 n1 => ?_⟩
    refine ⟨_, .inl (SqL.of n1.here), rfl, rfl, ?_⟩
    refine iteN (c := false ^^ inV (.str _) (shown4.map V.str)) (by rw [in_strs, e4]; rfl) ?_
    refine ⟨by show 2 ≤ sizeLine; decide, fun p3 H3 n3 => ?_⟩
    exact qs _ _ rfl p3 H3 (n1.same.trans n3.same) (n1.same.free n3.fresh) n3.here

/-! ### _law_fallen(_law_files, _law_keeps), level 1 -/
abbrev s__law_fallen : Stmt := top 27
abbrev N__law_fallen : List Str := ["_law_files", "_law_keeps", "_law_found", "_law_names", "_law_k", "_law_text", "_law_kept"]
theorem sc__law_fallen : FnScope N__law_fallen ["_law_files", "_law_keeps"] (defScope s__law_fallen) := ⟨rfl, rfl, rfl, by decide +kernel, rfl, by decide +kernel, by decide +kernel⟩
theorem ok__law_fallen (T : Txt K mg e_PowerCut e_InvalidName e_InvalidText e_NoFile e_InvalidKeeps e_InvalidCount e_QueueError e_Disk) (D : Df K mg "_law_fallen" s__law_fallen ["_law_files", "_law_keeps"]) : Ct P w K mg base CX0 1 "_law_fallen" ["_law_files", "_law_keeps"] (sp__law_fallen K) := by
  refine ct2 D sc__law_fallen fun f cdv A outer s H a_files a_keeps Q E hr h => ⟨_, (pss_cons (ps_parZ (i := 2) (j := 3) (by rfl) sc__law_fallen.nd rfl rfl (by decide) rfl rfl (pa_cons (pe_callTy (k_dict K rfl) (by rfl) T.n_dict bt_dict (pa_cons (pe_lz pa_nil) pa_nil)) (pa_cons (pe_callB (k_sortS K) (by rfl) T.n_sorted bt_sorted (pa_cons (pe_callTy (c_listD rfl) (by rfl) T.n_list bt_list (pa_cons (pz 0) pa_nil)) pa_nil)) pa_nil)) (by rfl))
    (pss_cons (ps_for PassesOwn.never rfl (pi_rngZ (by rfl) T.n_range (pa_cons (pe_callB (k_len K) (by rfl) T.n_len bt_len (pa_cons (pz 3) pa_nil)) pa_nil)) (pg_name (i := 4) sc__law_fallen.nd rfl (Or.inl rfl)) 
      (pss_cons (ps_asg (pe_dg (hu_of hr) (pz 0) (pe_ix (k_ix K) (pz 3) (pz 4) (fun _ _ => rfl)) (fun _ _ => rfl)) (pg_lzK K (by rfl) (pgs_cz (pg_name (i := 5) sc__law_fallen.nd rfl (Or.inl rfl)) (pgs_cz (pg_name (i := 6) sc__law_fallen.nd rfl (Or.inl rfl)) pgs_nz))))
      (pss_cons (ps_if (pt_cmpZ o_gtS (pe_callB (k_len K) (by rfl) T.n_len bt_len (pa_cons (pz 1) pa_nil)) pe_int (nomark _)) 
        (pss_one (ps_set (i := 6) sc__law_fallen.nd rfl (Or.inl rfl) (pe_op (k_add K) (pz 6) (pe_op o_mod (pe_callTy c_int (by rfl) T.n_int bt_int (pa_cons (pe_ix (k_ix K) (pz 1) (pe_op o_mod (pe_callTy c_int (by rfl) T.n_int bt_int (pa_cons (pz 4) pa_nil)) (pe_callB (k_len K) (by rfl) T.n_len bt_len (pa_cons (pz 1) pa_nil))) (fun _ _ => rfl)) pa_nil)) (pe_op (k_add K) (pe_op o_sub (pe_callB (k_len K) (by rfl) T.n_len bt_len (pa_cons (pz 5) pa_nil)) (pz 6)) pe_int))))) pss_nil)
      (pss_one (ps_if (pt_cmpZ o_gtS (pz 6) pe_int (nomark _)) 
        (pss_one (ps_asg (pe_lz (pa_cons (pe_slice (k_sl K) (pz 5) po_none (po_z (pz 6))) (pa_cons (pz 6) pa_nil))) (pg_sub (pz 2) (pe_ix (k_ix K) (pz 3) (pz 4) (fun _ _ => rfl)) (s_dict (hu_of hr))))) pss_nil)))))
    (pss_one (ps_ret (pz 2))))), ?_⟩
  obtain ⟨L, Δ, p, ks, k, rfl, rfl, hL, hks, hk, sm, k1, q⟩ := h
  obtain ⟨kvs, adr, hd, tb, hp⟩ := id hL
  refine ⟨by show 0 ≤ sizeLine; decide, fun e0 H1 n1 => ?_⟩
  refine .inl ⟨[], [], SqL.of n1.here, .nil, fun q0 H2 n2 => ?_⟩
  have s02 := n1.same.trans n2.same
  refine ⟨kvs, s02 _ _ hd, fun pl H3 n3 => ?_⟩
  refine ⟨Δ.names, SqL.of (by rw [n3.here, tb.mem]), by have := hk.len; omega, fun ys pn H4 pm so n4 => ?_⟩
  have s04 := (s02.trans n3.same).trans n4.same
  have fq : H q0 = none := n1.same.free n2.fresh
  have hq4 : H4 q0 = some (.dK []) := n4.keep (n3.keep n2.here)
  have yl : ys.length ≤ 60 := by rw [pm.length_eq]; have := hk.len; omega
  refine .inl ⟨_, .inl (SqL.of n4.here), ?_⟩
  rw [List.length_map]
  refine ⟨by omega, by omega, for_w (wk_rng 0 _) (fun i σ H' => (∃ kv2 ad2, Same H H' ∧ H' pn = some (.lst (ys.map V.str)) ∧ H' q0 = some (.dK kv2) ∧ i ≤ ys.length ∧ Tb kv2 (falN Δ ks ys i).names (fun j => .ref (ad2 j)) ∧ ∀ j ∈ (falN Δ ks ys i).names, H' (ad2 j) = some (.lst [.str ((falN Δ ks ys i).txt j), .int ((falN Δ ks ys i).sy j : Nat)])) ∧ ∃ v4 v5 v6 : Option V, σ = [some (.ref L), some (.ref p), some (.ref q0), some (.ref pn), v4, v5, v6])
      ⟨⟨[], fun _ => L, s04, n4.here, hq4, Nat.zero_le _, Tb.nil, fun j hj => by cases hj⟩, none, none, none, rfl⟩ (fun _ _ _ _ => trivial) ?_ ?_⟩
  · rintro i x σ H6 hx ⟨⟨kv2, ad2, s6, hpn6, hq6, hi, tb2, hp2⟩, v4, v5, v6, rfl⟩
    obtain ⟨hi', rfl⟩ := rngV_at hx
    have hlt : i < ys.length := by omega
    obtain ⟨n, hn⟩ : ∃ n, ys[i]? = some n := ⟨_, List.getElem?_eq_getElem hlt⟩
    have hin : n ∈ Δ.names := pm.mem_iff.mp (List.mem_of_getElem? hn)
    have gd : ys.getD i "" = n := by rw [List.getD_eq_getElem?_getD, hn]; rfl
    have ai : atI (ys.map V.str) (0 + (i : Int)) = some (.str n) := by
      rw [Int.zero_add]
      refine atI_nat ?_
      rw [List.getElem?_map, hn]
      rfl
    refine ⟨⟨_, s6 _ _ hd⟩, ?_⟩
    refine ⟨_, _, .inl (SqL.of hpn6), ai, ?_⟩
    refine ⟨kvs, Sum.inr n, _, s6 _ _ hd, rfl, tb.at hin, ?_⟩
    refine ⟨_, SqL.of (s6 _ _ (hp n hin)), rfl, ?_⟩
    refine .inl ⟨_, (hks.same s6).sq, ?_⟩
    rw [List.length_map]
    obtain ⟨b1, b2⟩ := kpI_bounds (ks := ks) (i := i) (sm n hin)
    have lt := hk.tx n hin
    refine ite2 (fun h0 => ?_) (fun h0 => ?_)
    case' refine_1 =>
      have h0' : (ks.length : Int) > 0 := dT h0
      refine .inl ⟨_, (hks.same s6).sq, ?_⟩
      rw [List.length_map]
      refine ⟨by show (0 : Int) < _; omega, ?_⟩
      refine ⟨_, _, (hks.same s6).sq, (show atI (ks.map V.int) ((0 + (i : Int)) % (ks.length : Int)) = some (.int (ks.getD (i % ks.length) 0)) by rw [Int.zero_add]; exact ks_at (by omega)), ?_⟩
      refine ⟨sz (by omega), ?_⟩
      have sml := sm n hin
      refine ⟨by show (0 : Int) < ((Δ.txt n).length : Int) - ((Δ.sy n : Nat) : Int) + 1; omega, ?_⟩
      have ek : ((Δ.sy n : Nat) : Int) + ks.getD (i % ks.length) 0 % (((Δ.txt n).length : Int) - ((Δ.sy n : Nat) : Int) + 1) = kpI Δ ks i n := by
        unfold kpI
        rw [if_neg (by omega)]
      unfold zAdd
      dsimp only
      rw [ek]
    case' refine_2 =>
      have h0' : ¬ (ks.length : Int) > 0 := dF h0
      have ek : ((Δ.sy n : Nat) : Int) = kpI Δ ks i n := by
        unfold kpI
        rw [if_pos (by omega)]
      rw [ek]
    all_goals
      clear h0
      refine ite2 (fun hpos => ?_) (fun hpos => ?_)
      · have hp' : 0 < kpI Δ ks i n := dT hpos
        refine ⟨sz (by omega), ?_⟩
        refine ⟨by show 2 ≤ sizeLine; decide, fun pn2 H7 n7 => ?_⟩
        refine ⟨_, _, .inl (SqL.of (n7.keep hpn6)), ai, ?_⟩
        have l1 : kv2.length ≤ 1000 := by
          rw [tb2.len]
          have := falN_len (D := Δ) (ks := ks) (ys := ys) i
          omega
        refine ⟨kv2, Sum.inr n, n7.keep hq6, rfl, szlt (by omega), fun H8 w8 => ?_⟩
        have e9 : falN Δ ks ys (i + 1) = (falN Δ ks ys i).put n (cutS (Δ.txt n) none (some (kpI Δ ks i n))) (kpI Δ ks i n).toNat := by
          show stp Δ ks (falN Δ ks ys i) i (ys.getD i "") = _
          rw [gd]
          exact if_pos hp'
        have npq : pn2 ≠ q0 := (ne_of_none hq6 n7.fresh).symm
        have lw : LawAt H8 q0 (falN Δ ks ys (i + 1)) := by
          rw [e9]
          refine lawPut tb2 (fun j hj => w8.keep (ne_obj (n7.keep (hp2 j hj)) (n7.keep hq6) (by simp)) (n7.keep (hp2 j hj))) w8.here ?_
          rw [w8.keep npq n7.here]
          congr 4
          congr 1
          omega
        obtain ⟨kv3, ad3, l1', l2', l3'⟩ := lw
        exact ⟨⟨kv3, ad3, (s6.trans n7.same).wr fq w8, w8.keep (ne_obj (n7.keep hpn6) (n7.keep hq6) (by simp)) (n7.keep hpn6), l1', hlt, l2', l3'⟩, _, _, _, rfl⟩
      · have hp' : ¬ 0 < kpI Δ ks i n := dF hpos
        have e9 : falN Δ ks ys (i + 1) = falN Δ ks ys i := by
          show stp Δ ks (falN Δ ks ys i) i (ys.getD i "") = _
          rw [gd]
          exact if_neg hp'
        refine ⟨⟨kv2, ad2, s6, hpn6, hq6, hlt, ?_, ?_⟩, _, _, _, rfl⟩
        · rw [e9]; exact tb2
        · rw [e9]; exact hp2
  · rintro σ H6 ⟨⟨kv2, ad2, s6, hpn6, hq6, hi, tb2, hp2⟩, v4, v5, v6, rfl⟩
    have e : (rngV 0 ((ys.length : Int)).toNat).length = ys.length := by rw [rngV_len]; omega
    rw [e] at tb2 hp2
    exact q ys q0 H6 pm so s6 fq ⟨kv2, ad2, hq6, tb2, hp2⟩

/-! ### _law_due(_law_own_here, _law_word, _law_first, _law_second), level 2 -/
abbrev s__law_due : Stmt := top 29
abbrev N__law_due : List Str := ["_law_own_here", "_law_word", "_law_first", "_law_second", "_law_wrong_here", "_law_files", "_law_old"]
theorem sc__law_due : FnScope N__law_due ["_law_own_here", "_law_word", "_law_first", "_law_second"] (defScope s__law_due) := ⟨rfl, rfl, rfl, by decide +kernel, rfl, by decide +kernel, by decide +kernel⟩
theorem ok__law_due (T : Txt K mg e_PowerCut e_InvalidName e_InvalidText e_NoFile e_InvalidKeeps e_InvalidCount e_QueueError e_Disk) (C__law_wrong : Cg P w K mg base CX0 1 "_law_wrong" ["_law_own_here", "_law_word", "_law_first", "_law_second"] (sp__law_wrong K)) (C__law_fallen : Ct P w K mg base CX0 1 "_law_fallen" ["_law_files", "_law_keeps"] (sp__law_fallen K)) (D : Df K mg "_law_due" s__law_due ["_law_own_here", "_law_word", "_law_first", "_law_second"]) : Cg P w K mg base CX0 2 "_law_due" ["_law_own_here", "_law_word", "_law_first", "_law_second"] (sp__law_due K) := by
  refine cg4 D sc__law_due fun f cdv A outer s H a_own_here a_word a_first a_second Q E hr h => ⟨_, (pss_cons (ps_parZ (i := 4) (j := 5) (by rfl) sc__law_due.nd rfl rfl (by decide) rfl rfl (pa_cons (pe_cg C__law_wrong (hr.mono (by decide)) pass0 (pa_cons (pz 0) (pa_cons (pz 1) (pa_cons (pz 2) (pa_cons (pz 3) pa_nil))))) (pa_cons (pe_dg (hu_of hr.room) (pz 0) pe_str (fun _ _ => rfl)) pa_nil)) (by rfl))
    (pss_cons (ps_if (pt_cmpZ o_isn (pz 4) pe_non (nomark _)) 
      (pss_one (ps_ret (pz 4))) pss_nil)
    (pss_cons (ps_if (pt_cmpZ (k_eq K hr.room.units) (pz 1) pe_str (nomark _)) 
      (pss_one (ps_ret (pe_lz (pa_cons pe_str (pa_cons (pe_ix (k_ix K) (pe_dg (hu_of hr.room) (pz 5) (pz 2) (fun _ _ => rfl)) pe_int (fun _ _ => rfl)) pa_nil))))) pss_nil)
    (pss_cons (ps_if (pt_cmpZ (k_eq K hr.room.units) (pz 1) pe_str (nomark _)) 
      (pss_cons (ps_asg (pz 2) (pg_sub (pz 0) pe_str (s_dict (hu_of hr.room))))
      (pss_one (ps_ret (pe_lz (pa_cons pe_str (pa_cons pe_non pa_nil)))))) pss_nil)
    (pss_cons (ps_if (pt_cmpZ (k_eq K hr.room.units) (pz 1) pe_str (nomark _)) 
      (pss_cons (ps_asg (pe_tz (pa_cons (pe_cl C__law_fallen (hr.room.mono (by decide)) pass0 (pa_cons (pz 5) (pa_cons (pz 2) pa_nil))) (pa_cons pe_non (pa_cons (pe_op (k_add K) (pe_dg (hu_of hr.room) (pz 0) pe_str (fun _ _ => rfl)) pe_int) pa_nil)))) (pg_tzK K (by rfl) (pgs_cz (pg_sub (pz 0) pe_str (s_dict (hu_of hr.room))) (pgs_cz (pg_sub (pz 0) pe_str (s_dict (hu_of hr.room))) (pgs_cz (pg_sub (pz 0) pe_str (s_dict (hu_of hr.room))) pgs_nz)))))
      (pss_one (ps_ret (pe_lz (pa_cons pe_str (pa_cons pe_non pa_nil)))))) pss_nil)
    (pss_cons (ps_if (pt_cmpZ (k_eq K hr.room.units) (pe_dg (hu_of hr.room) (pz 0) pe_str (fun _ _ => rfl)) pe_int (nomark _)) 
      (pss_one (ps_ret (pe_lz (pa_cons pe_str (pa_cons pe_non pa_nil))))) pss_nil)
    (pss_cons (ps_if (pt_cmpZ o_isn (pe_dg (hu_of hr.room) (pz 0) pe_str (fun _ _ => rfl)) pe_non (nomark _)) 
      (pss_one (ps_asg (pe_op o_sub (pe_dg (hu_of hr.room) (pz 0) pe_str (fun _ _ => rfl)) pe_int) (pg_sub (pz 0) pe_str (s_dict (hu_of hr.room))))) pss_nil)
    (pss_cons (ps_asg (pe_op (k_add K) (pe_dg (hu_of hr.room) (pz 0) pe_str (fun _ _ => rfl)) pe_int) (pg_sub (pz 0) pe_str (s_dict (hu_of hr.room))))
    (pss_cons (ps_if (pt_cmpZ (k_eq K hr.room.units) (pz 1) pe_str (nomark _)) 
      (pss_cons (ps_set (i := 6) sc__law_due.nd rfl (Or.inl rfl) (pe_dg2 (hu_of hr.room) (pz 5) (pz 2) (pe_lz (pa_cons pe_str (pa_cons pe_int pa_nil))) ⟨rfl, rfl, rfl, rfl⟩))
      (pss_one (ps_asg (pe_lz (pa_cons (pe_op (k_add K) (pe_ix (k_ix K) (pz 6) pe_int (fun _ _ => rfl)) (pz 3)) (pa_cons (pe_ix (k_ix K) (pz 6) pe_int (fun _ _ => rfl)) pa_nil))) (pg_sub (pz 5) (pz 2) (s_dict (hu_of hr.room)))))) pss_nil)
    (pss_cons (ps_if (pt_cmpZ (k_eq K hr.room.units) (pz 1) pe_str (nomark _)) 
      (pss_one (ps_asg (pe_lz (pa_cons (pe_ix (k_ix K) (pe_dg (hu_of hr.room) (pz 5) (pz 2) (fun _ _ => rfl)) pe_int (fun _ _ => rfl)) (pa_cons (pe_callB (k_len K) (by rfl) T.n_len bt_len (pa_cons (pe_ix (k_ix K) (pe_dg (hu_of hr.room) (pz 5) (pz 2) (fun _ _ => rfl)) pe_int (fun _ _ => rfl)) pa_nil)) pa_nil))) (pg_sub (pz 5) (pz 2) (s_dict (hu_of hr.room))))) pss_nil)
    (pss_cons (ps_if (pt_cmpZ (k_eq K hr.room.units) (pz 1) pe_str (nomark _)) 
      (pss_one (ps_expr (pe_dpop1 (pz 5) (pz 2) ⟨rfl, rfl, rfl, rfl⟩))) pss_nil)
    (pss_one (ps_ret (pe_lz (pa_cons pe_str (pa_cons pe_non pa_nil)))))))))))))))), ?_⟩
  obtain ⟨o, L, Δ, c, l, k, r, ws, rfl, rfl, hO, ok, k1, j, q⟩ := h
  obtain ⟨ho, hL, noL⟩ := id hO
  obtain ⟨kvs, adr, hd, tb, hp⟩ := id hL
  refine ⟨o, L, Δ, c, l, r, ws, rfl, rfl, hO, j, fun hr H1 s1 => ?_, fun kd v hr p H1 s1 fp hp' => ?_⟩
  case' refine_2 =>
    subst hr
    refine ⟨⟨_, s1 _ _ ho⟩, ?_⟩
    refine ⟨_, Sum.inr "files", _, s1 _ _ ho, rfl, own_f, ?_⟩
    exact q p kd v L Δ c l H1 .wrong (Kp.same s1) (.inl rfl) (hO.same s1) fp hp'
  subst hr
  have ho1 := s1 _ _ ho
  refine ⟨⟨_, ho1⟩, ?_⟩
  refine ⟨_, Sum.inr "files", _, ho1, rfl, own_f, ?_⟩
  have kl : kvs.length ≤ 50 := by rw [tb.len]; have := ok.ok.len; omega
  cases j with
  | @write n t gn gt =>
    refine ⟨⟨_, ho1⟩, ?_⟩
    refine ⟨_, Sum.inr "left", _, ho1, rfl, own_l, ?_⟩
    rcases l with _ | (_ | n')
    case' none =>
      refine ⟨⟨_, ho1⟩, ?_⟩
      refine ⟨_, Sum.inr "left", _, ho1, rfl, own_l, ?_⟩
      obtain ⟨H2, rfl⟩ : ∃ H2, H2 = H1 := ⟨_, rfl⟩
      have ho2 : H2 o = some (.dK (ownK L c (dec none))) := ho1
      have kp2 : Kp [o] H H2 := Kp.same s1
      have ne : (none : Option Nat) ≠ some 0 := by simp
      clear s1 ho1
    case' some.zero =>
      refine ⟨by show 2 ≤ sizeLine; decide, fun p H2 n2 => ?_⟩
      exact q p "cut" .non L Δ c (some 0) H2 (.cut rfl (by simp)) (Kp.same (s1.trans n2.same)) (.inl rfl) (hO.same (s1.trans n2.same)) (s1.free n2.fresh) n2.here
    case' some.succ =>
      refine ⟨⟨_, ho1⟩, ?_⟩
      refine ⟨_, Sum.inr "left", _, ho1, rfl, own_l, ?_⟩
      refine ⟨⟨_, ho1⟩, ?_⟩
      refine ⟨_, Sum.inr "left", _, ho1, rfl, own_l, ?_⟩
      refine ⟨_, Sum.inr "left", ho1, rfl, szlt (by show 3 ≤ 16000000; decide), fun H2 w2 => ?_⟩
      have ho2 : H2 o = some (.dK (ownK L c (dec (some (n' + 1))))) := by
        rw [w2.here]
        have e : V.int (((n' + 1 : Nat) : Int) - 1) = lfV (some n') := by
          show V.int _ = V.int _
          congr 1
          omega
        show some (HO.dK (putK (ownK L c (some (n' + 1))) (Sum.inr ("left" : Str)) (V.int (((n' + 1 : Nat) : Int) - 1)))) = _
        rw [e]
        rfl
      have kp2 : Kp [o] H H2 := Kp.wr (Kp.same s1) (by simp) w2
      have ne : (some (n' + 1) : Option Nat) ≠ some 0 := by simp
      clear s1 ho1 w2
    all_goals
      refine ⟨⟨_, ho2⟩, ?_⟩
      refine ⟨_, Sum.inr "ops", _, ho2, rfl, own_o, ?_⟩
      refine ⟨_, Sum.inr "ops", ho2, rfl, szlt (by show 3 ≤ 16000000; decide), fun H3 w3 => ?_⟩
      have ho3 := w3.here
      rw [show (putK (ownK L c (dec _)) (Sum.inr "ops") (V.int (c + 1))) = ownK L (c + 1) (dec _) from put_o] at ho3
      have kp3 : Kp [o] H H3 := kp2.wr (by simp) w3
      have hd3 : H3 L = some (.dK kvs) := kp3.at (by simp [noL.symm]) hd
      have hp3 : ∀ j ∈ Δ.names, H3 (adr j) = some (.lst [.str (Δ.txt j), .int (Δ.sy j : Nat)]) := fun j hj => kp3.at (by simp [ne_obj (hp j hj) ho (by simp)]) (hp j hj)
      clear kp2 ho2 w3
      have fr : ∀ x, H3 x = none → H x = none := fun x e => by
        cases e1 : H x with
        | none => rfl
        | some u =>
          by_cases z : x = o
          · rw [z, ho3] at e; cases e
          · rw [kp3.at (by simp [z]) e1] at e; cases e
      refine ⟨⟨_, hd3⟩, ?_⟩
      refine ⟨by show 2 ≤ sizeLine; decide, fun pz H4 n4 => ?_⟩
      refine ⟨kvs, Sum.inr n, n4.keep hd3, rfl, ?_⟩
      obtain ⟨po, hpo, hpo4⟩ : ∃ po, (valV kvs (Sum.inr n)).getD (V.ref pz) = .ref po ∧ H4 po = some (.lst [.str (Δ.tx n), .int (Δ.mt n : Nat)]) := by
        by_cases z : n ∈ Δ.names
        · exact ⟨adr n, by rw [tb.at z]; rfl, by rw [Ds.tx_in z, Ds.mt_in z]; exact n4.keep (hp3 n z)⟩
        · refine ⟨pz, by rw [tb.no z]; rfl, ?_⟩
          rw [n4.here]
          unfold Ds.tx Ds.mt
          rw [if_neg z, if_neg z]
          rfl
      rw [hpo]
      have lt : (Δ.tx n).length ≤ 30 * k := by
        unfold Ds.tx
        split
        · exact ok.ok.tx n (by assumption)
        · exact Nat.zero_le _
      have lt2 := (text_mk t gt).2
      refine ⟨_, _, .inl (SqL.of hpo4), rfl, ?_⟩
      refine ⟨sz (by omega), ?_⟩
      refine ⟨_, _, .inl (SqL.of hpo4), rfl, ?_⟩
      refine ⟨by show 2 ≤ sizeLine; decide, fun pn H5 n5 => ?_⟩
      have s35 := n4.same.trans n5.same
      refine ⟨kvs, Sum.inr n, s35 _ _ hd3, rfl, szlt (by omega), fun H6 w6 => ?_⟩
      have pnL : pn ≠ L := (ne_of_none (n4.keep hd3) n5.fresh).symm
      refine ⟨by show 2 ≤ sizeLine; decide, fun p H7 n7 => ?_⟩
      have kp6 : Kp [L] H3 H6 := Kp.wr (Kp.same s35) (by simp) w6
      have kpE : Kp [o, L] H H7 := ((kp3.sub (by simp)).trans (kp6.sub (by simp))).nw n7
      have lw : LawAt H7 L (Δ.put n (Δ.tx n ++ t) (Δ.mt n)) := lawPut tb (fun j hj => n7.keep (kp6.at (by simp [ne_obj (hp3 j hj) hd3 (by simp)]) (hp3 j hj))) (n7.keep w6.here) (n7.keep (w6.keep pnL n5.here))
      have fp : H p = none := fr p (by
        cases e1 : H3 p with
        | none => rfl
        | some u =>
          have e := n7.fresh
          by_cases z : p = L
          · rw [z, w6.here] at e; cases e
          · rw [kp6.at (by simp [z]) e1] at e; cases e)
      exact q p "told" .non L _ (c + 1) _ H7 (.write rfl ne gn gt) kpE (.inl rfl) ⟨n7.keep (kp6.at (by simp [noL]) ho3), lw, noL⟩ fp n7.here
  | @file w n hw gn hin =>
    have lt := ok.ok.tx n hin
    rcases hw with rfl | rfl | rfl
    · -- sync
      refine ⟨⟨_, ho1⟩, ?_⟩
      refine ⟨_, Sum.inr "left", _, ho1, rfl, own_l, ?_⟩
      rcases l with _ | (_ | n')
      case' none =>
        refine ⟨⟨_, ho1⟩, ?_⟩
        refine ⟨_, Sum.inr "left", _, ho1, rfl, own_l, ?_⟩
        obtain ⟨H2, rfl⟩ : ∃ H2, H2 = H1 := ⟨_, rfl⟩
        have ho2 : H2 o = some (.dK (ownK L c (dec none))) := ho1
        have kp2 : Kp [o] H H2 := Kp.same s1
        have ne : (none : Option Nat) ≠ some 0 := by simp
        clear s1 ho1
      case' some.zero =>
        refine ⟨by show 2 ≤ sizeLine; decide, fun p H2 n2 => ?_⟩
        exact q p "cut" .non L Δ c (some 0) H2 (.cut rfl (by simp)) (Kp.same (s1.trans n2.same)) (.inl rfl) (hO.same (s1.trans n2.same)) (s1.free n2.fresh) n2.here
      case' some.succ =>
        refine ⟨⟨_, ho1⟩, ?_⟩
        refine ⟨_, Sum.inr "left", _, ho1, rfl, own_l, ?_⟩
        refine ⟨⟨_, ho1⟩, ?_⟩
        refine ⟨_, Sum.inr "left", _, ho1, rfl, own_l, ?_⟩
        refine ⟨_, Sum.inr "left", ho1, rfl, szlt (by show 3 ≤ 16000000; decide), fun H2 w2 => ?_⟩
        have ho2 : H2 o = some (.dK (ownK L c (dec (some (n' + 1))))) := by
          rw [w2.here]
          have e : V.int (((n' + 1 : Nat) : Int) - 1) = lfV (some n') := by
            show V.int _ = V.int _
            congr 1
            omega
          show some (HO.dK (putK (ownK L c (some (n' + 1))) (Sum.inr ("left" : Str)) (V.int (((n' + 1 : Nat) : Int) - 1)))) = _
          rw [e]
          rfl
        have kp2 : Kp [o] H H2 := Kp.wr (Kp.same s1) (by simp) w2
        have ne : (some (n' + 1) : Option Nat) ≠ some 0 := by simp
        clear s1 ho1 w2
      all_goals
        refine ⟨⟨_, ho2⟩, ?_⟩
        refine ⟨_, Sum.inr "ops", _, ho2, rfl, own_o, ?_⟩
        refine ⟨_, Sum.inr "ops", ho2, rfl, szlt (by show 3 ≤ 16000000; decide), fun H3 w3 => ?_⟩
        have ho3 := w3.here
        rw [show (putK (ownK L c (dec _)) (Sum.inr "ops") (V.int (c + 1))) = ownK L (c + 1) (dec _) from put_o] at ho3
        have kp3 : Kp [o] H H3 := kp2.wr (by simp) w3
        have hd3 : H3 L = some (.dK kvs) := kp3.at (by simp [noL.symm]) hd
        have hp3 : ∀ j ∈ Δ.names, H3 (adr j) = some (.lst [.str (Δ.txt j), .int (Δ.sy j : Nat)]) := fun j hj => kp3.at (by simp [ne_obj (hp j hj) ho (by simp)]) (hp j hj)
        clear kp2 ho2 w3
        have fr : ∀ x, H3 x = none → H x = none := fun x e => by
          cases e1 : H x with
          | none => rfl
          | some u =>
            by_cases z : x = o
            · rw [z, ho3] at e; cases e
            · rw [kp3.at (by simp [z]) e1] at e; cases e
        refine ⟨⟨_, hd3⟩, ?_⟩
        refine ⟨kvs, Sum.inr n, _, hd3, rfl, tb.at hin, ?_⟩
        refine ⟨_, _, .inl (SqL.of (hp3 n hin)), rfl, ?_⟩
        refine ⟨⟨_, hd3⟩, ?_⟩
        refine ⟨kvs, Sum.inr n, _, hd3, rfl, tb.at hin, ?_⟩
        refine ⟨_, _, .inl (SqL.of (hp3 n hin)), rfl, ?_⟩
        refine ⟨sz (by omega), ?_⟩
        refine ⟨by show 2 ≤ sizeLine; decide, fun pn H5 n5 => ?_⟩
        refine ⟨kvs, Sum.inr n, n5.keep hd3, rfl, szlt (by omega), fun H6 w6 => ?_⟩
        have pnL : pn ≠ L := (ne_of_none hd3 n5.fresh).symm
        refine ⟨by show 2 ≤ sizeLine; decide, fun p H7 n7 => ?_⟩
        have kp6 : Kp [L] H3 H6 := Kp.wr (Kp.same n5.same) (by simp) w6
        have kpE : Kp [o, L] H H7 := ((kp3.sub (by simp)).trans (kp6.sub (by simp))).nw n7
        have lw : LawAt H7 L (Δ.put n (Δ.txt n) (Δ.txt n).length) := lawPut tb (fun j hj => n7.keep (kp6.at (by simp [ne_obj (hp3 j hj) hd3 (by simp)]) (hp3 j hj))) (n7.keep w6.here) (n7.keep (w6.keep pnL n5.here))
        have fp : H p = none := fr p (by
          cases e1 : H3 p with
          | none => rfl
          | some u =>
            have e := n7.fresh
            by_cases z : p = L
            · rw [z, w6.here] at e; cases e
            · rw [kp6.at (by simp [z]) e1] at e; cases e)
        exact q p "told" .non L _ (c + 1) _ H7 (.sync rfl ne hin) kpE (.inl rfl) ⟨n7.keep (kp6.at (by simp [noL]) ho3), lw, noL⟩ fp n7.here
    · -- drop
      refine ⟨⟨_, ho1⟩, ?_⟩
      refine ⟨_, Sum.inr "left", _, ho1, rfl, own_l, ?_⟩
      rcases l with _ | (_ | n')
      case' none =>
        refine ⟨⟨_, ho1⟩, ?_⟩
        refine ⟨_, Sum.inr "left", _, ho1, rfl, own_l, ?_⟩
        obtain ⟨H2, rfl⟩ : ∃ H2, H2 = H1 := ⟨_, rfl⟩
        have ho2 : H2 o = some (.dK (ownK L c (dec none))) := ho1
        have kp2 : Kp [o] H H2 := Kp.same s1
        have ne : (none : Option Nat) ≠ some 0 := by simp
        clear s1 ho1
      case' some.zero =>
        refine ⟨by show 2 ≤ sizeLine; decide, fun p H2 n2 => ?_⟩
        exact q p "cut" .non L Δ c (some 0) H2 (.cut rfl (by simp)) (Kp.same (s1.trans n2.same)) (.inl rfl) (hO.same (s1.trans n2.same)) (s1.free n2.fresh) n2.here
      case' some.succ =>
        refine ⟨⟨_, ho1⟩, ?_⟩
        refine ⟨_, Sum.inr "left", _, ho1, rfl, own_l, ?_⟩
        refine ⟨⟨_, ho1⟩, ?_⟩
        refine ⟨_, Sum.inr "left", _, ho1, rfl, own_l, ?_⟩
        refine ⟨_, Sum.inr "left", ho1, rfl, szlt (by show 3 ≤ 16000000; decide), fun H2 w2 => ?_⟩
        have ho2 : H2 o = some (.dK (ownK L c (dec (some (n' + 1))))) := by
          rw [w2.here]
          have e : V.int (((n' + 1 : Nat) : Int) - 1) = lfV (some n') := by
            show V.int _ = V.int _
            congr 1
            omega
          show some (HO.dK (putK (ownK L c (some (n' + 1))) (Sum.inr ("left" : Str)) (V.int (((n' + 1 : Nat) : Int) - 1)))) = _
          rw [e]
          rfl
        have kp2 : Kp [o] H H2 := Kp.wr (Kp.same s1) (by simp) w2
        have ne : (some (n' + 1) : Option Nat) ≠ some 0 := by simp
        clear s1 ho1 w2
      all_goals
        refine ⟨⟨_, ho2⟩, ?_⟩
        refine ⟨_, Sum.inr "ops", _, ho2, rfl, own_o, ?_⟩
        refine ⟨_, Sum.inr "ops", ho2, rfl, szlt (by show 3 ≤ 16000000; decide), fun H3 w3 => ?_⟩
        have ho3 := w3.here
        rw [show (putK (ownK L c (dec _)) (Sum.inr "ops") (V.int (c + 1))) = ownK L (c + 1) (dec _) from put_o] at ho3
        have kp3 : Kp [o] H H3 := kp2.wr (by simp) w3
        have hd3 : H3 L = some (.dK kvs) := kp3.at (by simp [noL.symm]) hd
        have hp3 : ∀ j ∈ Δ.names, H3 (adr j) = some (.lst [.str (Δ.txt j), .int (Δ.sy j : Nat)]) := fun j hj => kp3.at (by simp [ne_obj (hp j hj) ho (by simp)]) (hp j hj)
        clear kp2 ho2 w3
        have fr : ∀ x, H3 x = none → H x = none := fun x e => by
          cases e1 : H x with
          | none => rfl
          | some u =>
            by_cases z : x = o
            · rw [z, ho3] at e; cases e
            · rw [kp3.at (by simp [z]) e1] at e; cases e
        refine ⟨L, rfl, .inl ⟨kvs, .inl hd3⟩, ?_⟩
        refine ⟨kvs, Sum.inr n, _, hd3, rfl, tb.at hin, ?_⟩
        have w6 : Wr H3 L (.dK (dropK kvs (Sum.inr n))) (upd H3 L (.dK (dropK kvs (Sum.inr n)))) := wr
        generalize upd H3 L (.dK (dropK kvs (Sum.inr n))) = H6 at w6 ⊢
        refine ⟨by show 2 ≤ sizeLine; decide, fun p H7 n7 => ?_⟩
        have kp6 : Kp [L] H3 H6 := Kp.wr Kp.refl (by simp) w6
        have kpE : Kp [o, L] H H7 := ((kp3.sub (by simp)).trans (kp6.sub (by simp))).nw n7
        have lw : LawAt H7 L (Δ.drop n) := lawDrop tb (fun j hj => n7.keep (kp6.at (by simp [ne_obj (hp3 j hj) hd3 (by simp)]) (hp3 j hj))) (n7.keep w6.here)
        have fp : H p = none := fr p (by
          cases e1 : H3 p with
          | none => rfl
          | some u =>
            have e := n7.fresh
            by_cases z : p = L
            · rw [z, w6.here] at e; cases e
            · rw [kp6.at (by simp [z]) e1] at e; cases e)
        exact q p "told" .non L _ (c + 1) _ H7 (.drop rfl ne hin) kpE (.inl rfl) ⟨n7.keep (kp6.at (by simp [noL]) ho3), lw, noL⟩ fp n7.here
    · -- read
      refine ⟨⟨_, s1 _ _ hd⟩, ?_⟩
      refine ⟨kvs, Sum.inr n, _, s1 _ _ hd, rfl, tb.at hin, ?_⟩
      refine ⟨_, _, .inl (SqL.of (s1 _ _ (hp n hin))), rfl, ?_⟩
      refine ⟨by show 2 ≤ sizeLine; decide, fun p H2 n2 => ?_⟩
      exact q p "told" (.str (Δ.txt n)) L Δ c l H2 (.read rfl hin) (Kp.same (s1.trans n2.same)) (.inl rfl) (hO.same (s1.trans n2.same)) (s1.free n2.fresh) n2.here
  | @arm l' =>
    refine ⟨_, Sum.inr "left", ho1, rfl, szlt (by show 3 ≤ 16000000; decide), fun H2 w2 => ?_⟩
    refine ⟨by show 2 ≤ sizeLine; decide, fun p H3 n3 => ?_⟩
    have kp2 : Kp [o] H H2 := Kp.wr (Kp.same s1) (by simp) w2
    have ho2 := w2.here
    rw [show putK (ownK L c l) (Sum.inr "left") (lfV l') = ownK L c l' from put_l] at ho2
    have fp : H p = none := by
      cases e1 : H p with
      | none => rfl
      | some u =>
        have e := n3.fresh
        by_cases z : p = o
        · rw [z, w2.here] at e; cases e
        · rw [kp2.at (by simp [z]) e1] at e; cases e
    exact q p "told" .non L Δ c l' H3 (.arm rfl rfl) ((kp2.sub (by simp)).nw n3) (.inl rfl) ⟨n3.keep ho2, (hL.kp kp2 (by simp [noL.symm]) (fun b z t i => by rw [List.mem_singleton.mp z, ho]; simp)).same n3.same, noL⟩ fp n3.here
  | @fall p ks hk h4 =>
    obtain ⟨_, _, k2, k6⟩ := kp4 ks h4
    refine ⟨L, Δ, p, ks, k, rfl, rfl, hL.same s1, ⟨.inl (s1 _ _ hk), fun x hx => by have := k6 x hx; omega, by omega⟩, ok.ok, ok.sm, by omega, fun ys q0 H2 pm so s2 fq hLq => ?_⟩
    have s02 := s1.trans s2
    have ho2 := s02 _ _ ho
    refine ⟨⟨_, ho2⟩, ?_⟩
    refine ⟨_, Sum.inr "ops", _, ho2, rfl, own_o, ?_⟩
    refine ⟨by show 3 ≤ sizeLine; decide, fun pt H3 n3 => ?_⟩
    refine ⟨_, SqT.of n3.here, rfl, ?_⟩
    refine ⟨_, Sum.inr "files", n3.keep ho2, rfl, szlt (by show 3 ≤ 16000000; decide), fun H4 w4 => ?_⟩
    have ho4 := w4.here
    rw [show putK (ownK L c l) (Sum.inr "files") (.ref q0) = ownK q0 c l from put_f] at ho4
    refine ⟨_, Sum.inr "left", ho4, rfl, szlt (by show 3 ≤ 16000000; decide), fun H5 w5 => ?_⟩
    have ho5 := w5.here
    rw [show putK (ownK q0 c l) (Sum.inr "left") V.non = ownK q0 c none from put_l (l2 := none)] at ho5
    refine ⟨_, Sum.inr "ops", ho5, rfl, szlt (by show 3 ≤ 16000000; decide), fun H6 w6 => ?_⟩
    have ho6 := w6.here
    rw [show putK (ownK q0 c none) (Sum.inr "ops") (V.int (c + 1)) = ownK q0 (c + 1) none from put_o] at ho6
    refine ⟨by show 2 ≤ sizeLine; decide, fun p7 H7 n7 => ?_⟩
    have kp6 : Kp [o] H2 H6 := (((Kp.same n3.same).wr (by simp) w4).wr (by simp) w5).wr (by simp) w6
    have kp06 : Kp [o] H H6 := (Kp.same s02).trans kp6
    have fq0 : H q0 = none := s1.free fq
    have noq : o ≠ q0 := ne_of_none ho fq0
    have fp : H p7 = none := by
      cases e1 : H p7 with
      | none => rfl
      | some u =>
        have e := n7.fresh
        by_cases z : p7 = o
        · rw [z, w6.here] at e; cases e
        · rw [kp06.at (by simp [z]) e1] at e; cases e
    exact q p7 "told" .non q0 _ (c + 1) none H7 (.fall rfl hk pm so) ((kp06.sub (by simp)).nw n7) (.inr fq0) ⟨n7.keep ho6, (hLq.kp kp6 (by simp [noq.symm]) (fun b z t i => by rw [List.mem_singleton.mp z, ho2]; simp)).same n7.same, noq⟩ fp n7.here

/-! ### is_file_name(value), level 1 -/
abbrev s_is_file_name : Stmt := top 16
abbrev N_is_file_name : List Str := ["value", "sign"]
theorem sc_is_file_name : FnScope N_is_file_name ["value"] (defScope s_is_file_name) := ⟨rfl, rfl, rfl, by decide +kernel, rfl, by decide +kernel, by decide +kernel⟩
theorem ok_is_file_name (T : Txt K mg e_PowerCut e_InvalidName e_InvalidText e_NoFile e_InvalidKeeps e_InvalidCount e_QueueError e_Disk) (D : Df K mg "is_file_name" s_is_file_name ["value"]) : Ct P w K mg base CX0 1 "is_file_name" ["value"] (sp_is_file_name K) := by
  refine ct1 D sc_is_file_name fun f cdv A outer s H a_value Q E hr h => ⟨_, (pss_cons (ps_if (PW.pt (pw_or (pt_not (pt_trK K (pe_callB (k_isi K) (by rfl) T.n_isinstance bt_isinstance (pa_cons (pz 0) (pa_cons (pe_bltn (v := .ty "str") (by rfl) T.n_str bt_str rfl) pa_nil))))) (pw_or1 (pt_not (pt_chT o_le o_le pe_int (pe_callB (k_len K) (by rfl) T.n_len bt_len (pa_cons (pz 0) pa_nil)) (pe_gk T.c_MOST_NAME)))))) 
      (pss_one (ps_ret pe_bl)) pss_nil)
    (pss_one (ps_ret (pe_callB (k_all K rfl) (by rfl) T.n_all bt_all (pa_cons (pe_lcz (own := [("sign", 1)]) (by rfl) sc_is_file_name.nd (pi_sz (pz 0)) (blkOk_by (own := [("sign", 1)]) (N := N_is_file_name) (sc := defScope s_is_file_name) (by decide +kernel)) (fun _ _ _ _ _ => (pg_name (i := 1) sc_is_file_name.nd rfl (Or.inl rfl))) (fun _ _ _ _ _ => pts_nil) (fun _ _ _ _ _ => (pe_cmpR (k_in K) (pz 1) (pe_gk T.c_NAME_SIGNS) (by rfl)))) pa_nil))))), ?_⟩
  obtain ⟨d, hd, ho, q⟩ := h
  refine ⟨by decide, kindD d, hd.kind, ?_⟩
  cases d with
  | str x =>
    obtain rfl := hd.str
    have hz := (Bool.and_eq_true _ _ ▸ ho : asciiS x = true ∧ _)
    have hx : x.length ≤ 30 := of_decide_eq_true hz.2
    have q : ∀ H2, Same H H2 → Q (.bl (nmS x)) H2 := q
    have hlen : x.length = x.cps.toList.length := by rw [Array.length_toList]; rfl
    refine ⟨sz (by omega), ?_⟩
    refine ite2 (fun h1 => ?_) (fun h1 => ?_)
    · have h1' : (1 : Int) ≤ x.length := dT h1
      refine ite2 (fun h2 => ?_) (fun h2 => ?_)
      · have h2' : ¬ (x.length : Int) ≤ 12 := nT h2
        have e : nmS x = false := by
          unfold nmS
          rw [decide_eq_false (p := x.length ≤ 12) (by omega), Bool.and_false]
          rfl
        rw [e] at q
        exact q H (Same.refl H)
      · have h2' : (x.length : Int) ≤ 12 := nF h2
        refine fun D hD => lc_w (wk_str x) (by rw [signsV_len]; omega) (fun i acc H3 => Same H H3 ∧ acc = ((x.cps.toList.take i).map fun c => V.bl (inAlf c))) (fun H3 n3 => ⟨n3.same, rfl⟩) (fun _ _ _ _ => trivial)
          (fun i acc H3 p => by rw [p.2, List.length_map, List.length_take]; omega) ?_ ?_
        · rintro i y acc H3 hx' hD3 ⟨s3, rfl⟩
          obtain ⟨c, hc, rfl⟩ := signsV_at hx'
          refine ⟨rfl, ?_⟩
          refine ⟨c, rfl, hD3, fun H5 w5 => ⟨s3.wr hD w5, ?_⟩⟩
          rw [List.take_add_one, hc]
          simp [inAlf, alf]
        · rintro acc H3 _ hD3 ⟨s3, rfl⟩
          rw [signsV_len, hlen, List.take_length] at hD3
          refine ⟨x.cps.toList.map inAlf, .inl (.inl (by rw [hD3, List.map_map]; rfl)), ?_⟩
          have e : nmS x = x.cps.toList.all inAlf := by
            unfold nmS
            rw [decide_eq_true (p := 1 ≤ x.length) (by omega), decide_eq_true (p := x.length ≤ 12) (by omega), Bool.and_self, Bool.true_and]
          rw [e] at q
          show Q (.bl ((List.map inAlf x.cps.toList).all id)) H3
          rw [List.all_map]
          exact q _ s3
    · have h1' : ¬ (1 : Int) ≤ x.length := dF h1
      have e : nmS x = false := by
        unfold nmS
        rw [decide_eq_false (p := 1 ≤ x.length) (by omega)]
        rfl
      rw [e] at q
      exact q H (Same.refl H)
  | _ => exact q H (Same.refl H)

/-! ### is_signs(value), level 1 -/
abbrev s_is_signs : Stmt := top 12
abbrev N_is_signs : List Str := ["value"]
theorem sc_is_signs : FnScope N_is_signs ["value"] (defScope s_is_signs) := ⟨rfl, rfl, rfl, by decide +kernel, rfl, by decide +kernel, by decide +kernel⟩
theorem ok_is_signs (T : Txt K mg e_PowerCut e_InvalidName e_InvalidText e_NoFile e_InvalidKeeps e_InvalidCount e_QueueError e_Disk) (D : Df K mg "is_signs" s_is_signs ["value"]) : Ct P w K mg base CX0 1 "is_signs" ["value"] (sp_is_signs K) := by
  refine ct1 D sc_is_signs fun f cdv A outer s H a_value Q E hr h => ⟨_, (pss_one (ps_ret (pe_andZ (pe_callB (k_isi K) (by rfl) T.n_isinstance bt_isinstance (pa_cons (pz 0) (pa_cons (pe_bltn (v := .ty "str") (by rfl) T.n_str bt_str rfl) pa_nil))) (pe_andZ (pe_ms0 PySem.F.slot_str_isascii PySem.F.type_str_isascii m_isascii (pz 0)) (pe_one (pe_ms0 PySem.F.slot_str_isprintable PySem.F.type_str_isprintable m_isprintable (pz 0))))))), ?_⟩
  obtain ⟨d, hd, ha, q⟩ := h
  refine ⟨by decide, kindD d, hd.kind, ?_⟩
  cases d with
  | str x =>
    obtain rfl := hd.str
    have hx := (Bool.and_eq_true _ _ ▸ ha : asciiS x = true ∧ _).1
    refine iteY (isascii_D hx) ?_
    show Q (.bl (Txt.isprintable x)) H
    rw [isprintable_D hx]
    exact q
  | _ => exact q

/-! ### Disk_use_power(self), level 3 -/
abbrev s_Disk_use_power : Stmt := (clsB (top 19)).getD 13 (.Pass ⟨0, 0, 0, 0⟩)
abbrev N_Disk_use_power : List Str := ["self"]
theorem sc_Disk_use_power : FnScope N_Disk_use_power ["self"] (defScope s_Disk_use_power) := ⟨rfl, rfl, rfl, by decide +kernel, rfl, by decide +kernel, by decide +kernel⟩
theorem ok_Disk_use_power (T : Txt K mg e_PowerCut e_InvalidName e_InvalidText e_NoFile e_InvalidKeeps e_InvalidCount e_QueueError e_Disk) (R_PowerCut : Er0 K mg "PowerCut" e_PowerCut) (D : Dm K e_Disk "use_power" "Disk.use_power" s_Disk_use_power ["self"]) : Mt P w K mg base (L2.CX P w) 3 e_Disk "use_power" ["self"] (sp_Disk_use_power K) := by
  refine mx1 D sc_Disk_use_power fun f cdv A outer s H a_self Q E hr h => ⟨_, (pss_cons (ps_if (pt_cmpZ (k_eq K hr.units) (pe_fdC T.k_Disk T.f_Disk_left (pz 0)) pe_int (nomark _)) 
      (pss_one (ps_rz0 rfl (takes_of rfl rfl rfl rfl) R_PowerCut)) pss_nil)
    (pss_cons (ps_if (pt_cmpZ o_isn (pe_fdC T.k_Disk T.f_Disk_left (pz 0)) pe_non (nomark _)) 
      (pss_one (ps_faC T.k_Disk T.f_Disk_left (pz 0) pe_int ip_sub)) pss_nil)
    (pss_one (ps_faC T.k_Disk T.f_Disk_calls (pz 0) pe_int ip_add)))), ?_⟩
  obtain ⟨a, f, m, Δ, c, l, rfl, hD, pw⟩ := h
  obtain ⟨nfm, C, dx, kf, km, hc, h1, h2, h3, t1, t2⟩ := id hD
  obtain rfl := hc.one T.a_Disk
  refine ⟨_, _, _, h1, rfl, ?_⟩
  rcases pw with ⟨rfl, rz⟩ | ⟨ne, q⟩
  · exact rz _ _ T.a_PowerCut (Same.refl H)
  · cases l with
    | none =>
      refine ⟨_, _, _, h1, rfl, ?_⟩
      refine ⟨_, _, _, h1, rfl, ?_⟩
      refine ⟨_, _, rfl, rfl, _, _, h1, by show 4 < 1000; decide, fun H4 w4 => ?_⟩
      exact q H4 (Kp.wr Kp.refl (List.mem_singleton.mpr rfl) w4) ⟨nfm, _, _, _, _, hc, w4.here, w4.keep (ne_obj h2 h1 (by simp)) h2, w4.keep (ne_obj h3 h1 (by simp)) h3, t1, t2⟩
    | some n =>
      have n0 : n ≠ 0 := fun z => ne (by rw [z])
      refine iteN (c := false ^^ decide (V.int (n : Nat) = V.int 0)) (by rw [Bool.false_xor]; exact decide_eq_false fun z => n0 (by have := V.int.inj z; omega)) ?_
      refine ⟨_, _, _, h1, rfl, ?_⟩
      refine ⟨_, _, _, h1, rfl, ?_⟩
      refine ⟨_, _, rfl, rfl, _, _, h1, by show 4 < 1000; decide, fun H4 w4 => ?_⟩
      refine ⟨_, _, _, w4.here, rfl, ?_⟩
      refine ⟨_, _, rfl, rfl, _, _, w4.here, by show 4 < 1000; decide, fun H5 w5 => ?_⟩
      refine q H5 (Kp.wr (Kp.wr Kp.refl (List.mem_singleton.mpr rfl) w4) (List.mem_singleton.mpr rfl) w5) ⟨nfm, C, dx, kf, km, hc, ?_, w5.keep (ne_obj h2 h1 (by simp)) (w4.keep (ne_obj h2 h1 (by simp)) h2), w5.keep (ne_obj h3 h1 (by simp)) (w4.keep (ne_obj h3 h1 (by simp)) h3), t1, t2⟩
      rw [w5.here]
      have e : ((n : Nat) : Int) - 1 = ((n - 1 : Nat) : Int) := by omega
      show some (HO.ins _ _ (flds f m (c + 1) (V.int (((n : Nat) : Int) - 1)))) = some (HO.ins _ _ (flds f m (c + 1) (V.int ((n - 1 : Nat) : Int))))
      rw [e]

/-! ### Disk_write(self, name, text), level 4 -/
abbrev s_Disk_write : Stmt := (clsB (top 19)).getD 1 (.Pass ⟨0, 0, 0, 0⟩)
abbrev N_Disk_write : List Str := ["self", "name", "text"]
theorem sc_Disk_write : FnScope N_Disk_write ["self", "name", "text"] (defScope s_Disk_write) := ⟨rfl, rfl, rfl, by decide +kernel, rfl, by decide +kernel, by decide +kernel⟩
theorem ok_Disk_write (T : Txt K mg e_PowerCut e_InvalidName e_InvalidText e_NoFile e_InvalidKeeps e_InvalidCount e_QueueError e_Disk) (R_InvalidName : Er P w K mg base 1 "InvalidName" "given" e_InvalidName) (R_InvalidText : Er P w K mg base 1 "InvalidText" "given" e_InvalidText) (C_is_file_name : Ct P w K mg base CX0 1 "is_file_name" ["value"] (sp_is_file_name K)) (C_is_signs : Ct P w K mg base CX0 1 "is_signs" ["value"] (sp_is_signs K)) (M_Disk_use_power : Mt P w K mg base (L2.CX P w) 3 e_Disk "use_power" ["self"] (sp_Disk_use_power K)) (D : Dm K e_Disk "write" "Disk.write" s_Disk_write ["self", "name", "text"]) : Mt P w K mg base (L2.CX P w) 4 e_Disk "write" ["self", "name", "text"] (sp_Disk_write K) := by
  refine mx3 D sc_Disk_write fun f cdv A outer s H a_self a_name a_text Q E hr h => ⟨_, (pss_cons (ps_if (pt_not (pt_trK K (pe_cl C_is_file_name (hr.mono (by decide)) pass0 (pa_cons (pz 1) pa_nil)))) 
      (pss_one (ps_rz rfl (takes_of rfl rfl rfl rfl) R_InvalidName (hr.mono (by decide)) (pa_cons (pz 1) pa_nil))) pss_nil)
    (pss_cons (ps_if (PW.pt (pw_or (pt_not (pt_trK K (pe_cl C_is_signs (hr.mono (by decide)) pass0 (pa_cons (pz 2) pa_nil)))) (pw_or1 (pt_cmpZ (k_eq K hr.units) (pz 2) pe_str (nomark _))))) 
      (pss_one (ps_rz rfl (takes_of rfl rfl rfl rfl) R_InvalidText (hr.mono (by decide)) (pa_cons (pz 2) pa_nil))) pss_nil)
    (pss_cons (ps_expr (pe_mtA0 M_Disk_use_power (hr.mono (by decide)) (passAt (takes_of rfl rfl rfl rfl)) (pz 0)))
    (pss_cons (ps_asg (pe_op (k_add K) (pe_dg2 (hu_of hr) (pe_fdC T.k_Disk T.f_Disk_files (pz 0)) (pz 1) pe_str ⟨rfl, rfl, rfl, rfl⟩) (pz 2)) (pg_sub (pe_fdC T.k_Disk T.f_Disk_files (pz 0)) (pz 1) (s_dict (hu_of hr))))
    (pss_one (ps_asg (pe_dg2 (hu_of hr) (pe_fdC T.k_Disk T.f_Disk_marks (pz 0)) (pz 1) pe_int ⟨rfl, rfl, rfl, rfl⟩) (pg_sub (pe_fdC T.k_Disk T.f_Disk_marks (pz 0)) (pz 1) (s_dict (hu_of hr))))))))), ?_⟩
  obtain ⟨a, f, m, Δ, c, l, k, rfl, hD, hk, k1, h⟩ := h
  obtain ⟨nfm, C, dx, kf, km, hc, h1, h2, h3, t1, t2⟩ := id hD
  obtain rfl := hc.one T.a_Disk
  rcases h with ⟨⟨d, hd, ho, hb⟩, rz⟩ | ⟨n, rfl, hn, ⟨e, he, hte, hbe⟩, rz⟩ | ⟨n, t, rfl, rfl, hn, ht, hto, pw⟩
  · refine ⟨d, hd, ho, fun H2 s2 => ?_⟩
    rw [hb]
    refine fun d H3 n3 => ?_
    exact rz.go T.a_InvalidName s2 n3
  · refine ⟨.str n, vd_str n, nm_ok2 hn, fun H2 s2 => ?_⟩
    rw [show nmD (.str n) = true from hn]
    refine ⟨e, he.same s2, txt_ok hte, ?_⟩
    rcases tx_cases hte hbe with z | ⟨z, rfl⟩
    · rw [z]
      refine fun d H3 n3 => ?_
      exact rz.go T.a_InvalidText s2 n3
    · rw [z]
      obtain rfl := he.str
      refine fun d H3 n3 => ?_
      exact rz.go T.a_InvalidText s2 n3
  · refine ⟨.str n, vd_str n, nm_ok2 hn, fun H2 s2 => ?_⟩
    rw [show nmD (.str n) = true from hn]
    refine ⟨.str t, vd_str t, txt_ok' ht hto, ?_⟩
    obtain ⟨z1, z2⟩ := tx_right' ht
    rw [z1]
    refine iteN z2 ?_
    refine ⟨_, _, s2 _ _ h1, rfl, ?_⟩
    refine ⟨a, f, m, Δ, c, l, rfl, hD.same s2, ?_⟩
    rcases pw with ⟨rfl, rz⟩ | ⟨ne, q⟩
    · exact .inl ⟨rfl, fun C H3 hc s3 => rz C H3 hc (s2.trans s3)⟩
    refine .inr ⟨ne, fun H3 kp3 hD3 => ?_⟩
    obtain ⟨_, C, dx3, kf3, km3, hc3, h13, h23, h33, t13, t23⟩ := id hD3
    obtain rfl := hc3.one T.a_Disk
    refine ⟨_, _, _, h13, rfl, ?_⟩
    refine ⟨⟨_, h23⟩, ?_⟩
    refine ⟨kf3, Sum.inr n, h23, rfl, ?_⟩
    rw [t13.2, show (if n ∈ Δ.names then some ((fun j => V.str (Δ.txt j)) n) else none).getD (V.str "") = V.str (Δ.tx n) by unfold Ds.tx; by_cases z : n ∈ Δ.names <;> simp [z]]
    have lt : (Δ.tx n).length ≤ 30 * k := by
      unfold Ds.tx
      split
      · exact hk.tx n (by assumption)
      · exact Nat.zero_le _
    refine ⟨sz (by omega), ?_⟩
    refine ⟨_, _, _, h13, rfl, ?_⟩
    refine ⟨kf3, Sum.inr n, h23, rfl, szlt (by rw [t13.len]; have := hk.len; omega), fun H4 w4 => ?_⟩
    have h14 := w4.keep (ne_obj h13 h23 (by simp)) h13
    have h34 := w4.keep (fun z => nfm z.symm) h33
    refine ⟨_, _, _, h14, rfl, ?_⟩
    refine ⟨⟨_, h34⟩, ?_⟩
    refine ⟨km3, Sum.inr n, h34, rfl, ?_⟩
    rw [t23.2, show (if n ∈ Δ.names then some ((fun j => V.int (Δ.sy j : Nat)) n) else none).getD (V.int 0) = V.int (Δ.mt n : Nat) by unfold Ds.mt; by_cases z : n ∈ Δ.names <;> simp [z]]
    refine ⟨_, _, _, h14, rfl, ?_⟩
    refine ⟨km3, Sum.inr n, h34, rfl, szlt (by rw [t23.len]; have := hk.len; omega), fun H5 w5 => ?_⟩
    refine q H5 ((Kp.same s2).trans ((kp3.sub (by simp)).trans (Kp.wr (Kp.wr Kp.refl (by simp) w4) (by simp) w5))) ?_
    refine ⟨nfm, _, _, _, _, hc, w5.keep (ne_obj h14 h34 (by simp)) h14, w5.keep nfm w4.here, w5.here, ?_, ?_⟩
    · exact (t13.put n (.str (Δ.tx n ++ t))).ext fun j => by
        show (if j = n then V.str _ else V.str _) = V.str (if j = n then _ else _)
        by_cases z : j = n <;> simp [z]
    · exact (t23.put n (.int (Δ.mt n : Nat))).ext fun j => by
        show (if j = n then V.int _ else V.int _) = V.int (((if j = n then _ else _ : Nat)) : Int)
        by_cases z : j = n <;> simp [z]

/-! ### Disk_check_file(self, name), level 3 -/
abbrev s_Disk_check_file : Stmt := (clsB (top 19)).getD 12 (.Pass ⟨0, 0, 0, 0⟩)
abbrev N_Disk_check_file : List Str := ["self", "name"]
theorem sc_Disk_check_file : FnScope N_Disk_check_file ["self", "name"] (defScope s_Disk_check_file) := ⟨rfl, rfl, rfl, by decide +kernel, rfl, by decide +kernel, by decide +kernel⟩
theorem ok_Disk_check_file (T : Txt K mg e_PowerCut e_InvalidName e_InvalidText e_NoFile e_InvalidKeeps e_InvalidCount e_QueueError e_Disk) (R_InvalidName : Er P w K mg base 1 "InvalidName" "given" e_InvalidName) (R_NoFile : Er P w K mg base 1 "NoFile" "name" e_NoFile) (C_is_file_name : Ct P w K mg base CX0 1 "is_file_name" ["value"] (sp_is_file_name K)) (D : Dm K e_Disk "check_file" "Disk.check_file" s_Disk_check_file ["self", "name"]) : Mt P w K mg base (L2.CX P w) 3 e_Disk "check_file" ["self", "name"] (sp_Disk_check_file K) := by
  refine mx2 D sc_Disk_check_file fun f cdv A outer s H a_self a_name Q E hr h => ⟨_, (pss_cons (ps_if (pt_not (pt_trK K (pe_cl C_is_file_name (hr.mono (by decide)) pass0 (pa_cons (pz 1) pa_nil)))) 
      (pss_one (ps_rz rfl (takes_of rfl rfl rfl rfl) R_InvalidName (hr.mono (by decide)) (pa_cons (pz 1) pa_nil))) pss_nil)
    (pss_one (ps_if (pt_cmpZ (o_ninZ (hu_of hr)) (pz 1) (pe_fdC T.k_Disk T.f_Disk_files (pz 0)) (by rfl)) 
      (pss_one (ps_rz rfl (takes_of rfl rfl rfl rfl) R_NoFile (hr.mono (by decide)) (pa_cons (pz 1) pa_nil))) pss_nil))), ?_⟩
  obtain ⟨a, f, m, Δ, c, lf, rfl, hD, h⟩ := h
  obtain ⟨nfm, C, dx, kf, km, hc, h1, h2, h3, t1, t2⟩ := id hD
  obtain rfl := hc.one T.a_Disk
  rcases h with ⟨⟨d, hd, ho, hb⟩, rz⟩ | ⟨n, rfl, hn, hi, rz⟩ | ⟨n, rfl, hn, hi, q⟩
  · refine ⟨d, hd, ho, fun H2 s2 => ?_⟩
    rw [hb]
    refine fun d H3 n3 => ?_
    exact rz.go T.a_InvalidName s2 n3
  · refine ⟨.str n, vd_str n, nm_ok2 hn, fun H2 s2 => ?_⟩
    rw [show nmD (.str n) = true from hn]
    refine ⟨_, _, _, s2 _ _ h1, rfl, ?_⟩
    refine ⟨kf, Sum.inr n, s2 _ _ h2, rfl, ?_⟩
    rw [t1.no hi]
    refine fun d H3 n3 => ?_
    exact rz.go T.a_NoFile s2 n3
  · refine ⟨.str n, vd_str n, nm_ok2 hn, fun H2 s2 => ?_⟩
    rw [show nmD (.str n) = true from hn]
    refine ⟨_, _, _, s2 _ _ h1, rfl, ?_⟩
    refine ⟨kf, Sum.inr n, s2 _ _ h2, rfl, ?_⟩
    rw [t1.at hi]
    exact q H2 s2

/-! ### Disk_sync(self, name), level 4 -/
abbrev s_Disk_sync : Stmt := (clsB (top 19)).getD 2 (.Pass ⟨0, 0, 0, 0⟩)
abbrev N_Disk_sync : List Str := ["self", "name"]
theorem sc_Disk_sync : FnScope N_Disk_sync ["self", "name"] (defScope s_Disk_sync) := ⟨rfl, rfl, rfl, by decide +kernel, rfl, by decide +kernel, by decide +kernel⟩
theorem ok_Disk_sync (T : Txt K mg e_PowerCut e_InvalidName e_InvalidText e_NoFile e_InvalidKeeps e_InvalidCount e_QueueError e_Disk) (M_Disk_check_file : Mt P w K mg base (L2.CX P w) 3 e_Disk "check_file" ["self", "name"] (sp_Disk_check_file K)) (M_Disk_use_power : Mt P w K mg base (L2.CX P w) 3 e_Disk "use_power" ["self"] (sp_Disk_use_power K)) (D : Dm K e_Disk "sync" "Disk.sync" s_Disk_sync ["self", "name"]) : Mt P w K mg base (L2.CX P w) 4 e_Disk "sync" ["self", "name"] (sp_Disk_sync K) := by
  refine mx2 D sc_Disk_sync fun f cdv A outer s H a_self a_name Q E hr h => ⟨_, (pss_cons (ps_expr (pe_mtA M_Disk_check_file (hr.mono (by decide)) (passAt (takes_of rfl rfl rfl rfl)) (pz 0) (pa_cons (pz 1) pa_nil)))
    (pss_cons (ps_expr (pe_mtA0 M_Disk_use_power (hr.mono (by decide)) (passAt (takes_of rfl rfl rfl rfl)) (pz 0)))
    (pss_one (ps_asg (pe_callB (k_len K) (by rfl) T.n_len bt_len (pa_cons (pe_dg (hu_of hr) (pe_fdC T.k_Disk T.f_Disk_files (pz 0)) (pz 1) (fun _ _ => rfl)) pa_nil)) (pg_sub (pe_fdC T.k_Disk T.f_Disk_marks (pz 0)) (pz 1) (s_dict (hu_of hr))))))), ?_⟩
  obtain ⟨a, f, m, Δ, c, l, k, rfl, hD, hk, k1, h⟩ := h
  obtain ⟨nfm, C, dx, kf, km, hc, h1, h2, h3, t1, t2⟩ := id hD
  obtain rfl := hc.one T.a_Disk
  refine ⟨_, _, h1, rfl, ?_⟩
  refine ⟨a, f, m, Δ, c, lfV l, rfl, hD, ?_⟩
  rcases h with h | h | ⟨n, rfl, hn, hi, pw⟩
  · exact .inl h
  · exact .inr (.inl h)
  · refine .inr (.inr ⟨n, rfl, hn, hi, fun H2 s2 => ?_⟩)
    refine ⟨_, _, s2 _ _ h1, rfl, ?_⟩
    refine ⟨a, f, m, Δ, c, l, rfl, hD.same s2, ?_⟩
    rcases pw with ⟨rfl, rz⟩ | ⟨ne, q⟩
    · exact .inl ⟨rfl, fun C H3 hc s3 => rz C H3 hc (s2.trans s3)⟩
    refine .inr ⟨ne, fun H3 kp3 hD3 => ?_⟩
    obtain ⟨_, C, dx3, kf3, km3, hc3, h13, h23, h33, t13, t23⟩ := id hD3
    obtain rfl := hc3.one T.a_Disk
    refine ⟨_, _, _, h13, rfl, ?_⟩
    refine ⟨⟨_, h23⟩, ?_⟩
    refine ⟨kf3, Sum.inr n, _, h23, rfl, t13.at hi, ?_⟩
    have lt := hk.tx n hi
    refine ⟨sz (by omega), ?_⟩
    refine ⟨_, _, _, h13, rfl, ?_⟩
    refine ⟨km3, Sum.inr n, h33, rfl, szlt (by rw [t23.len]; have := hk.len; omega), fun H4 w4 => ?_⟩
    refine q H4 ((Kp.same s2).trans ((kp3.sub (by simp)).trans (Kp.wr Kp.refl (by simp) w4))) ?_
    have t1' := (t13.ext (g' := fun j => .str (if j = n then Δ.txt n else Δ.txt j)) fun j => by by_cases z : j = n <;> simp [z])
    refine ⟨nfm, _, _, _, _, hc, w4.keep (ne_obj h13 h33 (by simp)) h13, w4.keep nfm h23, w4.here, ?_, ?_⟩
    · show Tb kf3 (if n ∈ Δ.names then Δ.names else Δ.names ++ [n]) _
      rw [if_pos hi]
      exact t1'
    · exact (t23.put n (.int ((Δ.txt n).length : Nat))).ext fun j => by
        show (if j = n then V.int _ else V.int _) = V.int (((if j = n then _ else _ : Nat)) : Int)
        by_cases z : j = n <;> simp [z]

/-! ### Disk_drop(self, name), level 4 -/
abbrev s_Disk_drop : Stmt := (clsB (top 19)).getD 3 (.Pass ⟨0, 0, 0, 0⟩)
abbrev N_Disk_drop : List Str := ["self", "name"]
theorem sc_Disk_drop : FnScope N_Disk_drop ["self", "name"] (defScope s_Disk_drop) := ⟨rfl, rfl, rfl, by decide +kernel, rfl, by decide +kernel, by decide +kernel⟩
theorem ok_Disk_drop (T : Txt K mg e_PowerCut e_InvalidName e_InvalidText e_NoFile e_InvalidKeeps e_InvalidCount e_QueueError e_Disk) (M_Disk_check_file : Mt P w K mg base (L2.CX P w) 3 e_Disk "check_file" ["self", "name"] (sp_Disk_check_file K)) (M_Disk_use_power : Mt P w K mg base (L2.CX P w) 3 e_Disk "use_power" ["self"] (sp_Disk_use_power K)) (D : Dm K e_Disk "drop" "Disk.drop" s_Disk_drop ["self", "name"]) : Mt P w K mg base (L2.CX P w) 4 e_Disk "drop" ["self", "name"] (sp_Disk_drop K) := by
  refine mx2 D sc_Disk_drop fun f cdv A outer s H a_self a_name Q E hr h => ⟨_, (pss_cons (ps_expr (pe_mtA M_Disk_check_file (hr.mono (by decide)) (passAt (takes_of rfl rfl rfl rfl)) (pz 0) (pa_cons (pz 1) pa_nil)))
    (pss_cons (ps_expr (pe_mtA0 M_Disk_use_power (hr.mono (by decide)) (passAt (takes_of rfl rfl rfl rfl)) (pz 0)))
    (pss_cons (ps_ddel (pe_fdC T.k_Disk T.f_Disk_files (pz 0)) (pz 1))
    (pss_one (ps_ddel (pe_fdC T.k_Disk T.f_Disk_marks (pz 0)) (pz 1)))))), ?_⟩
  obtain ⟨a, f, m, Δ, c, l, rfl, hD, h⟩ := h
  obtain ⟨nfm, C, dx, kf, km, hc, h1, h2, h3, t1, t2⟩ := id hD
  obtain rfl := hc.one T.a_Disk
  refine ⟨_, _, h1, rfl, ?_⟩
  refine ⟨a, f, m, Δ, c, lfV l, rfl, hD, ?_⟩
  rcases h with h | h | ⟨n, rfl, hn, hi, pw⟩
  · exact .inl h
  · exact .inr (.inl h)
  · refine .inr (.inr ⟨n, rfl, hn, hi, fun H2 s2 => ?_⟩)
    refine ⟨_, _, s2 _ _ h1, rfl, ?_⟩
    refine ⟨a, f, m, Δ, c, l, rfl, hD.same s2, ?_⟩
    rcases pw with ⟨rfl, rz⟩ | ⟨ne, q⟩
    · exact .inl ⟨rfl, fun C H3 hc s3 => rz C H3 hc (s2.trans s3)⟩
    refine .inr ⟨ne, fun H3 kp3 hD3 => ?_⟩
    obtain ⟨_, C, dx3, kf3, km3, hc3, h13, h23, h33, t13, t23⟩ := id hD3
    obtain rfl := hc3.one T.a_Disk
    refine ⟨_, _, _, h13, rfl, ?_⟩
    refine ⟨f, kf3, Sum.inr n, rfl, h23, rfl, by rw [t13.at hi]; rfl, ?_⟩
    have w4 : Wr H3 f (.dK (dropK kf3 (Sum.inr n))) (upd H3 f (.dK (dropK kf3 (Sum.inr n)))) := wr
    generalize upd H3 f (.dK (dropK kf3 (Sum.inr n))) = H4 at w4
    have h14 := w4.keep (ne_obj h13 h23 (by simp)) h13
    have h34 := w4.keep (fun z => nfm z.symm) h33
    refine ⟨_, _, _, h14, rfl, ?_⟩
    refine ⟨m, km3, Sum.inr n, rfl, h34, rfl, by rw [t23.at hi]; rfl, ?_⟩
    have w5 : Wr H4 m (.dK (dropK km3 (Sum.inr n))) (upd H4 m (.dK (dropK km3 (Sum.inr n)))) := wr
    generalize upd H4 m (.dK (dropK km3 (Sum.inr n))) = H5 at w5
    refine q H5 ((Kp.same s2).trans ((kp3.sub (by simp)).trans (Kp.wr (Kp.wr Kp.refl (by simp) w4) (by simp) w5))) ?_
    exact ⟨nfm, _, _, _, _, hc, w5.keep (ne_obj h14 h34 (by simp)) h14, w5.keep nfm w4.here, w5.here, t13.drop n, t23.drop n⟩

/-! ### Disk_read(self, name), level 4 -/
abbrev s_Disk_read : Stmt := (clsB (top 19)).getD 6 (.Pass ⟨0, 0, 0, 0⟩)
abbrev N_Disk_read : List Str := ["self", "name"]
theorem sc_Disk_read : FnScope N_Disk_read ["self", "name"] (defScope s_Disk_read) := ⟨rfl, rfl, rfl, by decide +kernel, rfl, by decide +kernel, by decide +kernel⟩
theorem ok_Disk_read (T : Txt K mg e_PowerCut e_InvalidName e_InvalidText e_NoFile e_InvalidKeeps e_InvalidCount e_QueueError e_Disk) (M_Disk_check_file : Mt P w K mg base (L2.CX P w) 3 e_Disk "check_file" ["self", "name"] (sp_Disk_check_file K)) (D : Dm K e_Disk "read" "Disk.read" s_Disk_read ["self", "name"]) : Mt P w K mg base (L2.CX P w) 4 e_Disk "read" ["self", "name"] (sp_Disk_read K) := by
  refine mx2 D sc_Disk_read fun f cdv A outer s H a_self a_name Q E hr h => ⟨_, (pss_cons (ps_expr (pe_mtA M_Disk_check_file (hr.mono (by decide)) (passAt (takes_of rfl rfl rfl rfl)) (pz 0) (pa_cons (pz 1) pa_nil)))
    (pss_one (ps_ret (pe_dg (hu_of hr) (pe_fdC T.k_Disk T.f_Disk_files (pz 0)) (pz 1) (fun _ _ => rfl))))), ?_⟩
  obtain ⟨a, f, m, Δ, c, lf, rfl, hD, h⟩ := h
  obtain ⟨nfm, C, dx, kf, km, hc, h1, h2, h3, t1, t2⟩ := id hD
  obtain rfl := hc.one T.a_Disk
  refine ⟨_, _, h1, rfl, ?_⟩
  refine ⟨a, f, m, Δ, c, lf, rfl, hD, ?_⟩
  rcases h with h | h | ⟨n, rfl, hn, hi, q⟩
  · exact .inl h
  · exact .inr (.inl h)
  · refine .inr (.inr ⟨n, rfl, hn, hi, fun H2 s2 => ?_⟩)
    refine ⟨_, _, _, s2 _ _ h1, rfl, ?_⟩
    refine ⟨⟨_, s2 _ _ h2⟩, ?_⟩
    refine ⟨kf, Sum.inr n, _, s2 _ _ h2, rfl, t1.at hi, q H2 s2⟩

/-! ### is_integer(value), level 1 -/
abbrev s_is_integer : Stmt := top 10
abbrev N_is_integer : List Str := ["value"]
theorem sc_is_integer : FnScope N_is_integer ["value"] (defScope s_is_integer) := ⟨rfl, rfl, rfl, by decide +kernel, rfl, by decide +kernel, by decide +kernel⟩
theorem ok_is_integer (T : Txt K mg e_PowerCut e_InvalidName e_InvalidText e_NoFile e_InvalidKeeps e_InvalidCount e_QueueError e_Disk) (D : Df K mg "is_integer" s_is_integer ["value"]) : Ct P w K mg base CX0 1 "is_integer" ["value"] (sp_is_integer K) := by
  refine ct1 D sc_is_integer fun f cdv A outer s H a_value Q E hr h => ⟨_, (pss_one (ps_ret (pe_andZ (pe_callB (k_isi K) (by rfl) T.n_isinstance bt_isinstance (pa_cons (pz 0) (pa_cons (pe_bltn (v := .ty "int") (by rfl) T.n_int bt_int rfl) pa_nil))) (pe_one (pe_notZ (pe_callB (k_isi K) (by rfl) T.n_isinstance bt_isinstance (pa_cons (pz 0) (pa_cons (pe_bltn (v := .ty "bool") (by rfl) T.n_bool bt_bool rfl) pa_nil)))))))), ?_⟩
  obtain ⟨d, hd, q⟩ := h
  refine ⟨by decide, kindD d, hd.kind, ?_⟩
  cases d with
  | bool b =>
    refine ⟨by decide, _, hd.kind, ?_⟩
    exact q
  | int i =>
    refine ⟨by decide, _, hd.kind, ?_⟩
    exact q
  | _ => exact q

/-! ### is_count(value), level 2 -/
abbrev s_is_count : Stmt := top 11
abbrev N_is_count : List Str := ["value"]
theorem sc_is_count : FnScope N_is_count ["value"] (defScope s_is_count) := ⟨rfl, rfl, rfl, by decide +kernel, rfl, by decide +kernel, by decide +kernel⟩
theorem ok_is_count (C_is_integer : Ct P w K mg base CX0 1 "is_integer" ["value"] (sp_is_integer K)) (D : Df K mg "is_count" s_is_count ["value"]) : Ct P w K mg base CX0 2 "is_count" ["value"] (sp_is_count K) := by
  refine ct1 D sc_is_count fun f cdv A outer s H a_value Q E hr h => ⟨_, (pss_one (ps_ret (pe_andZ (pe_cl C_is_integer (hr.mono (by decide)) pass0 (pa_cons (pz 0) pa_nil)) (pe_one (pe_cmpR o_ge (pz 0) pe_int (nomark _)))))), ?_⟩
  obtain ⟨d, hd, q⟩ := h
  refine ⟨d, hd, ?_⟩
  cases d with
  | int i =>
    obtain rfl := hd.int
    exact q
  | _ => exact q

/-! ### is_list(value), level 1 -/
abbrev s_is_list : Stmt := top 9
abbrev N_is_list : List Str := ["value"]
theorem sc_is_list : FnScope N_is_list ["value"] (defScope s_is_list) := ⟨rfl, rfl, rfl, by decide +kernel, rfl, by decide +kernel, by decide +kernel⟩
theorem ok_is_list (T : Txt K mg e_PowerCut e_InvalidName e_InvalidText e_NoFile e_InvalidKeeps e_InvalidCount e_QueueError e_Disk) (D : Df K mg "is_list" s_is_list ["value"]) : Ct P w K mg base CX0 1 "is_list" ["value"] (sp_is_list K) := by
  refine ct1 D sc_is_list fun f cdv A outer s H a_value Q E hr h => ⟨_, (pss_one (ps_ret (pe_callB (k_isi K) (by rfl) T.n_isinstance bt_isinstance (pa_cons (pz 0) (pa_cons (pe_tz (pa_cons (pe_bltn (v := .ty "list") (by rfl) T.n_list bt_list rfl) (pa_cons (pe_bltn (v := .ty "tuple") (by rfl) T.n_tuple bt_tuple rfl) pa_nil))) pa_nil))))), ?_⟩
  obtain ⟨k, hk, q⟩ := h
  refine ⟨by show 2 ≤ sizeLine; decide, fun p H2 n2 => ?_⟩
  exact ⟨"list", "tuple", k, n2.here, by decide, by decide, hk.same n2.same, q H2 n2.same⟩

/-! ### are_keeps(value), level 3 -/
abbrev s_are_keeps : Stmt := top 17
abbrev N_are_keeps : List Str := ["value", "keep"]
theorem sc_are_keeps : FnScope N_are_keeps ["value"] (defScope s_are_keeps) := ⟨rfl, rfl, rfl, by decide +kernel, rfl, by decide +kernel, by decide +kernel⟩
theorem ok_are_keeps (T : Txt K mg e_PowerCut e_InvalidName e_InvalidText e_NoFile e_InvalidKeeps e_InvalidCount e_QueueError e_Disk) (C_is_count : Ct P w K mg base CX0 2 "is_count" ["value"] (sp_is_count K)) (C_is_list : Ct P w K mg base CX0 1 "is_list" ["value"] (sp_is_list K)) (D : Df K mg "are_keeps" s_are_keeps ["value"]) : Ct P w K mg base CX0 3 "are_keeps" ["value"] (sp_are_keeps K) := by
  refine ct1 D sc_are_keeps fun f cdv A outer s H a_value Q E hr h => ⟨_, (pss_one (ps_ret (pe_andZ (pe_cl C_is_list (hr.mono (by decide)) pass0 (pa_cons (pz 0) pa_nil)) (pe_one (pe_callB (k_all K rfl) (by rfl) T.n_all bt_all (pa_cons (pe_lcz (own := [("keep", 1)]) (by rfl) sc_are_keeps.nd (pi_or (pi_lzK K (pz 0)) (pi_tzK K (pz 0))) (blkOk_by (own := [("keep", 1)]) (N := N_are_keeps) (sc := defScope s_are_keeps) (by decide +kernel)) (fun _ _ _ _ _ => (pg_name (i := 1) sc_are_keeps.nd rfl (Or.inl rfl))) (fun _ _ _ _ _ => pts_nil) (fun _ _ _ _ _ => (pe_cl C_is_count (hr.mono (by decide)) pass0 (pa_cons (pz 1) pa_nil)))) pa_nil)))))), ?_⟩
  obtain ⟨d, hd, hlen, q⟩ := h
  refine ⟨_, hd.kind, fun H2 s2 => ?_⟩
  have hd2 := hd.same s2
  cases d with
  | list ds =>
    obtain ⟨g, hz⟩ := hd2
    obtain ⟨p, xs, rfl, hp, hx⟩ : ∃ p xs, a_value = .ref p ∧ H2 p = some (.lst xs) ∧ DzAll g H2 xs ds := by
      cases hz with
      | lst h _ a => exact ⟨_, _, rfl, h, a⟩
    have hl := DzAll.len hx
    have l1 := hlen ds (.inl rfl)
    rw [show (isK (kindD (PyData.list ds)) "list" || isK (kindD (PyData.list ds)) "tuple") = true from rfl]
    refine .inl ⟨⟨_, SqL.of hp⟩, ?_⟩
    refine fun D hD => lc_w (wk_list xs) (by omega) (fun i acc H3 => Same H2 H3 ∧ acc = ((ds.take i).map fun d => V.bl (cntD d))) (fun H3 n3 => ⟨n3.same, rfl⟩) (fun i acc H3 z => SqL.of (z.1 _ _ hp))
      (fun i acc H3 p => by rw [p.2, List.length_map, List.length_take]; omega) ?_ ?_
    · rintro i x acc H3 hx' hD3 ⟨s3, rfl⟩
      obtain ⟨d, hd', hdz⟩ := dz_get hx hx'
      refine ⟨rfl, ?_⟩
      refine ⟨d, ⟨g, Dz.same s3 hdz⟩, hD3, fun H5 w5 => ⟨s3.wr hD w5, ?_⟩⟩
      rw [List.take_add_one, hd']
      simp
    · rintro acc H3 _ hD3 ⟨s3, rfl⟩
      rw [hl, List.take_length] at hD3
      refine ⟨ds.map cntD, .inl (.inl (by rw [hD3, List.map_map]; rfl)), ?_⟩
      show Q (.bl ((ds.map cntD).all id)) H3
      rw [List.all_map]
      exact q _ (s2.trans s3)
  | tuple ds =>
    obtain ⟨g, hz⟩ := hd2
    obtain ⟨p, xs, rfl, hp, hx⟩ : ∃ p xs, a_value = .ref p ∧ H2 p = some (.tup xs) ∧ DzAll g H2 xs ds := by
      cases hz with
      | tup h a => exact ⟨_, _, rfl, h, a⟩
    have hl := DzAll.len hx
    have l1 := hlen ds (.inr rfl)
    rw [show (isK (kindD (PyData.tuple ds)) "list" || isK (kindD (PyData.tuple ds)) "tuple") = true from rfl]
    refine .inr ⟨⟨_, SqT.of hp⟩, ?_⟩
    refine fun D hD => lc_w (wk_tup xs) (by omega) (fun i acc H3 => Same H2 H3 ∧ acc = ((ds.take i).map fun d => V.bl (cntD d))) (fun H3 n3 => ⟨n3.same, rfl⟩) (fun i acc H3 z => SqT.of (z.1 _ _ hp))
      (fun i acc H3 p => by rw [p.2, List.length_map, List.length_take]; omega) ?_ ?_
    · rintro i x acc H3 hx' hD3 ⟨s3, rfl⟩
      obtain ⟨d, hd', hdz⟩ := dz_get hx hx'
      refine ⟨rfl, ?_⟩
      refine ⟨d, ⟨g, Dz.same s3 hdz⟩, hD3, fun H5 w5 => ⟨s3.wr hD w5, ?_⟩⟩
      rw [List.take_add_one, hd']
      simp
    · rintro acc H3 _ hD3 ⟨s3, rfl⟩
      rw [hl, List.take_length] at hD3
      refine ⟨ds.map cntD, .inl (.inl (by rw [hD3, List.map_map]; rfl)), ?_⟩
      show Q (.bl ((ds.map cntD).all id)) H3
      rw [List.all_map]
      exact q _ (s2.trans s3)
  | _ => exact q H2 s2

/-! ### signs_kept(signs, mark, place, keeps), level 1 -/
abbrev s_signs_kept : Stmt := top 18
abbrev N_signs_kept : List Str := ["signs", "mark", "place", "keeps"]
theorem sc_signs_kept : FnScope N_signs_kept ["signs", "mark", "place", "keeps"] (defScope s_signs_kept) := ⟨rfl, rfl, rfl, by decide +kernel, rfl, by decide +kernel, by decide +kernel⟩
theorem ok_signs_kept (T : Txt K mg e_PowerCut e_InvalidName e_InvalidText e_NoFile e_InvalidKeeps e_InvalidCount e_QueueError e_Disk) (D : Df K mg "signs_kept" s_signs_kept ["signs", "mark", "place", "keeps"]) : Ct P w K mg base CX0 1 "signs_kept" ["signs", "mark", "place", "keeps"] (sp_signs_kept K) := by
  refine ct4 D sc_signs_kept fun f cdv A outer s H a_signs a_mark a_place a_keeps Q E hr h => ⟨_, (pss_cons (ps_if (pt_cmpZ (k_eq K hr.units) (pe_callB (k_len K) (by rfl) T.n_len bt_len (pa_cons (pz 3) pa_nil)) pe_int (nomark _)) 
      (pss_one (ps_ret (pz 1))) pss_nil)
    (pss_one (ps_ret (pe_op (k_add K) (pz 1) (pe_op o_mod (pe_callTy c_int (by rfl) T.n_int bt_int (pa_cons (pe_ix (k_ix K) (pz 3) (pe_op o_mod (pz 2) (pe_callB (k_len K) (by rfl) T.n_len bt_len (pa_cons (pz 3) pa_nil))) (fun _ _ => rfl)) pa_nil)) (pe_op (k_add K) (pe_op o_sub (pz 0) (pz 1)) pe_int)))))), ?_⟩
  obtain ⟨s0, m0, i, p, ks, rfl, rfl, rfl, rfl, hk, hm, q⟩ := h
  refine .inl ⟨_, hk.sq, ?_⟩
  rw [List.length_map]
  refine ite2 (fun h0 => ?_) (fun h0 => ?_)
  · have h0' := vInt h0
    rw [if_pos (by omega)] at q
    exact q
  · have h0' := vIntN h0
    rw [if_neg (by omega)] at q
    refine .inl ⟨_, hk.sq, ?_⟩
    rw [List.length_map]
    refine ⟨by show (0 : Int) < _; omega, ?_⟩
    refine ⟨_, _, hk.sq, ks_at (by omega), ?_⟩
    refine ⟨by show (0 : Int) < _; omega, ?_⟩
    exact q

/-! ### Disk_names(self), level 1 -/
abbrev s_Disk_names : Stmt := (clsB (top 19)).getD 7 (.Pass ⟨0, 0, 0, 0⟩)
abbrev N_Disk_names : List Str := ["self"]
theorem sc_Disk_names : FnScope N_Disk_names ["self"] (defScope s_Disk_names) := ⟨rfl, rfl, rfl, by decide +kernel, rfl, by decide +kernel, by decide +kernel⟩
theorem ok_Disk_names (T : Txt K mg e_PowerCut e_InvalidName e_InvalidText e_NoFile e_InvalidKeeps e_InvalidCount e_QueueError e_Disk) (D : Dm K e_Disk "names" "Disk.names" s_Disk_names ["self"]) : Mt P w K mg base CX0 1 e_Disk "names" ["self"] (sp_Disk_names K) := by
  refine mt1 D sc_Disk_names fun f cdv A outer s H a_self Q E hr h => ⟨_, (pss_one (ps_ret (pe_callB (k_sortS K) (by rfl) T.n_sorted bt_sorted (pa_cons (pe_callTy (c_listD rfl) (by rfl) T.n_list bt_list (pa_cons (pe_fdC T.k_Disk T.f_Disk_files (pz 0)) pa_nil)) pa_nil)))), ?_⟩
  obtain ⟨a, f, m, Δ, c, lf, rfl, hD, hl, q⟩ := h
  obtain ⟨nfm, C, dx, kf, km, hc, h1, h2, h3, t1, t2⟩ := id hD
  obtain rfl := hc.one T.a_Disk
  refine ⟨_, _, _, h1, rfl, ?_⟩
  refine ⟨_, h2, fun p H2 n2 => ?_⟩
  refine ⟨Δ.names, SqL.of (by rw [n2.here, t1.mem]), hl, fun ys p' H3 pm so n3 => ?_⟩
  exact q ys p' H3 pm so (n2.same.trans n3.same) (n2.same.free n3.fresh) n3.here

/-! ### Disk_fall(self, keeps), level 4 -/
abbrev s_Disk_fall : Stmt := (clsB (top 19)).getD 4 (.Pass ⟨0, 0, 0, 0⟩)
abbrev N_Disk_fall : List Str := ["self", "keeps", "files", "marks", "place", "name", "text", "kept"]
theorem sc_Disk_fall : FnScope N_Disk_fall ["self", "keeps"] (defScope s_Disk_fall) := ⟨rfl, rfl, rfl, by decide +kernel, rfl, by decide +kernel, by decide +kernel⟩
theorem ok_Disk_fall (T : Txt K mg e_PowerCut e_InvalidName e_InvalidText e_NoFile e_InvalidKeeps e_InvalidCount e_QueueError e_Disk) (R_InvalidKeeps : Er P w K mg base 1 "InvalidKeeps" "given" e_InvalidKeeps) (C_are_keeps : Ct P w K mg base CX0 3 "are_keeps" ["value"] (sp_are_keeps K)) (C_signs_kept : Ct P w K mg base CX0 1 "signs_kept" ["signs", "mark", "place", "keeps"] (sp_signs_kept K)) (M_Disk_names : Mt P w K mg base CX0 1 e_Disk "names" ["self"] (sp_Disk_names K)) (D : Dm K e_Disk "fall" "Disk.fall" s_Disk_fall ["self", "keeps"]) : Mt P w K mg base (L2.CX P w) 4 e_Disk "fall" ["self", "keeps"] (sp_Disk_fall K) := by
  refine mx2 D sc_Disk_fall fun f cdv A outer s H a_self a_keeps Q E hr h => ⟨_, (pss_cons (ps_if (pt_not (pt_trK K (pe_cl C_are_keeps (hr.mono (by decide)) pass0 (pa_cons (pz 1) pa_nil)))) 
      (pss_one (ps_rz rfl (takes_of rfl rfl rfl rfl) R_InvalidKeeps (hr.mono (by decide)) (pa_cons (pz 1) pa_nil))) pss_nil)
    (pss_cons (ps_parZ (i := 2) (j := 3) (by rfl) sc_Disk_fall.nd rfl rfl (by decide) rfl rfl (pa_cons pe_dnewK (pa_cons pe_dnewK pa_nil)) (by rfl))
    (pss_cons (ps_for (passes_of rfl) rfl (pi_enL K (by rfl) T.n_enumerate (pa_cons (pe_mtA0 M_Disk_names (hr.mono (by decide)) at0 (pz 0)) pa_nil)) (pg_tzK K (by rfl) (pgs_cz (pg_name (i := 4) sc_Disk_fall.nd rfl (Or.inl rfl)) (pgs_cz (pg_name (i := 5) sc_Disk_fall.nd rfl (Or.inl rfl)) pgs_nz))) 
      (pss_cons (ps_set (i := 6) sc_Disk_fall.nd rfl (Or.inl rfl) (pe_dg (hu_of hr) (pe_fdC T.k_Disk T.f_Disk_files (pz 0)) (pz 5) (fun _ _ => rfl)))
      (pss_cons (ps_set (i := 7) sc_Disk_fall.nd rfl (Or.inl rfl) (pe_cl C_signs_kept (hr.mono (by decide)) pass0 (pa_cons (pe_callB (k_len K) (by rfl) T.n_len bt_len (pa_cons (pz 6) pa_nil)) (pa_cons (pe_dg (hu_of hr) (pe_fdC T.k_Disk T.f_Disk_marks (pz 0)) (pz 5) (fun _ _ => rfl)) (pa_cons (pz 4) (pa_cons (pz 1) pa_nil))))))
      (pss_one (ps_if (pt_cmpZ o_gtS (pz 7) pe_int (nomark _)) 
        (pss_cons (ps_asg (pe_slice (k_sl K) (pz 6) po_none (po_z (pz 7))) (pg_sub (pz 2) (pz 5) (s_dict (hu_of hr))))
        (pss_one (ps_asg (pz 7) (pg_sub (pz 3) (pz 5) (s_dict (hu_of hr)))))) pss_nil)))))
    (pss_cons (ps_fdC T.k_Disk T.f_Disk_files (pz 0) (pz 2))
    (pss_cons (ps_fdC T.k_Disk T.f_Disk_marks (pz 0) (pz 3))
    (pss_cons (ps_fdC T.k_Disk T.f_Disk_left (pz 0) pe_non)
    (pss_one (ps_faC T.k_Disk T.f_Disk_calls (pz 0) pe_int ip_add)))))))), ?_⟩
  obtain ⟨a, f, m, Δ, c, lf, k, rfl, hD, hk, sm, k1, h⟩ := h
  obtain ⟨nfm, C, dx, kf, km, hc, h1, h2, h3, t1, t2⟩ := id hD
  obtain rfl := hc.one T.a_Disk
  rcases h with ⟨d, vd, hl, hb, rz⟩ | ⟨p, ks, rfl, hks, q⟩
  · refine ⟨d, vd, hl, fun H2 s2 => ?_⟩
    rw [hb]
    refine fun d H3 n3 => ?_
    exact rz.go T.a_InvalidKeeps s2 n3
  · obtain ⟨d, vd, hb, hl⟩ := hks.vd
    refine ⟨d, vd, hl, fun H2 s2 => ?_⟩
    rw [hb]
    walk_at "past"
    refine fun f2 hf2 => ?_
    have n3 := nw (o := .dK []) hf2
    generalize upd H2 f2 (.dK []) = H3 at n3 ⊢
    refine fun m2 hm2 => ?_
    have n4 := nw (o := .dK []) hm2
    generalize upd H3 m2 (.dK []) = H4 at n4 ⊢
    have s04 := (s2.trans n3.same).trans n4.same
    refine ⟨_, _, s04 _ _ h1, rfl, ?_⟩
    refine ⟨a, f, m, Δ, c, lf, rfl, hD.same s04, by have := hk.len; omega, fun ys pn H5 pm so s5 fr hpn => ?_⟩
    have s05 := s04.trans s5
    have ff2 : H5 f2 = some (.dK []) := s5 _ _ (n4.keep n3.here)
    have mm2 : H5 m2 = some (.dK []) := s5 _ _ n4.here
    have f0 : H f2 = none := s2.free hf2
    have m0 : H m2 = none := (s2.trans n3.same).free hm2
    have nfm2 : f2 ≠ m2 := ne_of_none n3.here hm2
    refine ⟨⟨_, SqL.of hpn⟩, ?_⟩
    refine for_eL (items := ys.map V.str) (fun i σ H' => (∃ kf2 km2, Same H H' ∧ H' pn = some (.lst (ys.map V.str)) ∧ H' f2 = some (.dK kf2) ∧ H' m2 = some (.dK km2) ∧ i ≤ ys.length ∧ Tb kf2 (falN Δ ks ys i).names (fun j => .str ((falN Δ ks ys i).txt j)) ∧ Tb km2 (falN Δ ks ys i).names (fun j => .int ((falN Δ ks ys i).sy j : Nat))) ∧ ∃ v4 v5 v6 v7 : Option V, σ = [some (.ref a), some (.ref p), some (.ref f2), some (.ref m2), v4, v5, v6, v7])
      ⟨⟨[], [], s05, hpn, ff2, mm2, Nat.zero_le _, Tb.nil, Tb.nil⟩, none, none, none, none, rfl⟩ (fun i σ H' z => by
        obtain ⟨⟨_, _, _, z, _⟩, _⟩ := z
        exact SqL.of z) ?_ ?_
    · rintro i x σ H6 Tp H7 hx ⟨⟨kf2, km2, s6, hpn6, hf6, hm6, hi, tb1, tb2⟩, v4, v5, v6, v7, rfl⟩ n7
      obtain ⟨n, hn, rfl⟩ : ∃ n, ys[i]? = some n ∧ x = .str n := by
        rw [List.getElem?_map] at hx
        cases e : ys[i]? with
        | none => rw [e] at hx; cases hx
        | some n => rw [e] at hx; exact ⟨n, rfl, (Option.some.inj hx).symm⟩
      have hlt : i < ys.length := (List.getElem?_eq_some_iff.mp hn).1
      have hin : n ∈ Δ.names := pm.mem_iff.mp (List.mem_of_getElem? hn)
      have gd : ys.getD i "" = n := by rw [List.getD_eq_getElem?_getD, hn]; rfl
      have s07 := s6.trans n7.same
      refine ⟨_, SqT.of n7.here, rfl, ?_⟩
      refine ⟨_, _, _, s07 _ _ h1, rfl, ?_⟩
      refine ⟨⟨_, s07 _ _ h2⟩, ?_⟩
      refine ⟨kf, Sum.inr n, _, s07 _ _ h2, rfl, t1.at hin, ?_⟩
      have lt := hk.tx n hin
      refine ⟨sz (by omega), ?_⟩
      refine ⟨_, _, _, s07 _ _ h1, rfl, ?_⟩
      refine ⟨⟨_, s07 _ _ h3⟩, ?_⟩
      refine ⟨km, Sum.inr n, _, s07 _ _ h3, rfl, t2.at hin, ?_⟩
      refine ⟨_, _, i, p, ks, rfl, rfl, rfl, rfl, hks.same s07, sm n hin, ?_⟩
      obtain ⟨b1, b2⟩ := kpI_bounds (ks := ks) (i := i) (sm n hin)
      have ek : (if ks.length = 0 then ((Δ.sy n : Nat) : Int) else (Δ.sy n : Nat) + ks.getD (i % ks.length) 0 % (((Δ.txt n).length : Int) - (Δ.sy n : Nat) + 1)) = kpI Δ ks i n := rfl
      rw [ek]
      have hf7 := n7.keep hf6
      have hm7 := n7.keep hm6
      refine ite2 (fun hpos => ?_) (fun hpos => ?_)
      · have hp' : 0 < kpI Δ ks i n := dT hpos
        refine ⟨sz (by omega), ?_⟩
        have l1 : kf2.length ≤ 1000 := by
          rw [tb1.len]
          have := falN_len (D := Δ) (ks := ks) (ys := ys) i
          have := pm.length_eq
          have := hk.len
          omega
        have l2 : km2.length ≤ 1000 := by rw [tb2.len, ← tb1.len]; exact l1
        refine ⟨kf2, Sum.inr n, hf7, rfl, szlt (by omega), fun H8 w8 => ?_⟩
        refine ⟨km2, Sum.inr n, w8.keep nfm2.symm hm7, rfl, szlt (by omega), fun H9 w9 => ?_⟩
        have e9 : falN Δ ks ys (i + 1) = (falN Δ ks ys i).put n (cutS (Δ.txt n) none (some (kpI Δ ks i n))) (kpI Δ ks i n).toNat := by
          show stp Δ ks (falN Δ ks ys i) i (ys.getD i "") = _
          rw [gd]
          exact if_pos hp'
        refine ⟨⟨_, _, (s07.wr f0 w8).wr m0 w9, w9.keep (ne_obj (n7.keep hpn6) hm7 (by simp)) (w8.keep (ne_obj (n7.keep hpn6) hf7 (by simp)) (n7.keep hpn6)), w9.keep nfm2 w8.here, w9.here, hlt, ?_, ?_⟩, _, _, _, _, rfl⟩
        · rw [e9]
          exact (tb1.put n (.str _)).ext fun j => by
            show (if j = n then V.str _ else V.str _) = V.str (if j = n then _ else _)
            by_cases z : j = n <;> simp [z]
        · rw [e9]
          exact (tb2.put n (.int (kpI Δ ks i n))).ext fun j => by
            show (if j = n then V.int _ else V.int _) = V.int (((if j = n then _ else _ : Nat)) : Int)
            by_cases z : j = n
            · rw [if_pos z, if_pos z]
              congr 1
              omega
            · rw [if_neg z, if_neg z]
      · have hp' : ¬ 0 < kpI Δ ks i n := dF hpos
        have e9 : falN Δ ks ys (i + 1) = falN Δ ks ys i := by
          show stp Δ ks (falN Δ ks ys i) i (ys.getD i "") = _
          rw [gd]
          exact if_neg hp'
        refine ⟨⟨_, _, s07, n7.keep hpn6, hf7, hm7, hlt, ?_, ?_⟩, _, _, _, _, rfl⟩
        · rw [e9]; exact tb1
        · rw [e9]; exact tb2
    · rintro σ H6 ⟨⟨kf2, km2, s6, hpn6, hf6, hm6, hi, tb1, tb2⟩, v4, v5, v6, v7, rfl⟩
      rw [List.length_map] at tb1 tb2
      have naf : a ≠ f2 := ne_of_none h1 f0
      have nam : a ≠ m2 := ne_of_none h1 m0
      refine ⟨_, _, s6 _ _ h1, by show 4 < 1000; decide, fun H7 w7 => ?_⟩
      refine ⟨_, _, w7.here, by show 4 < 1000; decide, fun H8 w8 => ?_⟩
      refine ⟨_, _, w8.here, by show 4 < 1000; decide, fun H9 w9 => ?_⟩
      refine ⟨_, _, _, w9.here, rfl, ?_⟩
      refine ⟨_, _, rfl, rfl, _, _, w9.here, by show 4 < 1000; decide, fun H10 w10 => ?_⟩
      refine q ys f2 m2 H10 pm so f0 m0 (Kp.wr (Kp.wr (Kp.wr (Kp.wr (Kp.same s6) (by simp) w7) (by simp) w8) (by simp) w9) (by simp) w10) ?_
      exact ⟨nfm2, _, _, _, _, hc, w10.here, w10.keep naf.symm (w9.keep naf.symm (w8.keep naf.symm (w7.keep naf.symm hf6))), w10.keep nam.symm (w9.keep nam.symm (w8.keep nam.symm (w7.keep nam.symm hm6))), tb1, tb2⟩

/-! ### Disk_arm(self, ops), level 3 -/
abbrev s_Disk_arm : Stmt := (clsB (top 19)).getD 5 (.Pass ⟨0, 0, 0, 0⟩)
abbrev N_Disk_arm : List Str := ["self", "ops"]
theorem sc_Disk_arm : FnScope N_Disk_arm ["self", "ops"] (defScope s_Disk_arm) := ⟨rfl, rfl, rfl, by decide +kernel, rfl, by decide +kernel, by decide +kernel⟩
theorem ok_Disk_arm (T : Txt K mg e_PowerCut e_InvalidName e_InvalidText e_NoFile e_InvalidKeeps e_InvalidCount e_QueueError e_Disk) (R_InvalidCount : Er P w K mg base 1 "InvalidCount" "given" e_InvalidCount) (C_is_count : Ct P w K mg base CX0 2 "is_count" ["value"] (sp_is_count K)) (D : Dm K e_Disk "arm" "Disk.arm" s_Disk_arm ["self", "ops"]) : Mt P w K mg base (L2.CX P w) 3 e_Disk "arm" ["self", "ops"] (sp_Disk_arm K) := by
  refine mx2 D sc_Disk_arm fun f cdv A outer s H a_self a_ops Q E hr h => ⟨_, (pss_cons (ps_if (PW.pt (pw_and (pt_cmpZ o_isn (pz 1) pe_non (nomark _)) (pw_and1 (pt_not (pt_trK K (pe_cl C_is_count (hr.mono (by decide)) pass0 (pa_cons (pz 1) pa_nil))))))) 
      (pss_one (ps_rz rfl (takes_of rfl rfl rfl rfl) R_InvalidCount (hr.mono (by decide)) (pa_cons (pz 1) pa_nil))) pss_nil)
    (pss_one (ps_fdC T.k_Disk T.f_Disk_left (pz 0) (pz 1)))), ?_⟩
  obtain ⟨a, f, m, Δ, c, lf, rfl, hD, h⟩ := h
  obtain ⟨nfm, C, dx, kf, km, hc, h1, h2, h3, t1, t2⟩ := id hD
  obtain rfl := hc.one T.a_Disk
  rcases h with ⟨d, vd, hb, rz⟩ | ⟨l, rfl, q⟩
  · have ne : a_ops ≠ .non := fun z => by
      subst z
      obtain ⟨g, hz⟩ := vd
      cases hz
      cases hb
    refine iteY (c := true ^^ decide (a_ops = .non)) (by rw [decide_eq_false ne]; rfl) ?_
    refine ⟨d, vd, ?_⟩
    have hb2 : cntD d = false := by
      cases d with
      | none => cases hb
      | _ => exact hb
    rw [hb2]
    refine fun d' H3 n3 => ?_
    exact rz.go T.a_InvalidCount (Same.refl H) n3
  · have fin : ∀ H4, Wr H a (.ins C dx (putF "left" (lfV l) (flds f m c lf))) H4 → Q .non H4 := fun H4 w4 => q H4 (Kp.wr Kp.refl (List.mem_singleton.mpr rfl) w4) ⟨nfm, C, dx, kf, km, hc, w4.here, w4.keep (ne_obj h2 h1 (by simp)) h2, w4.keep (ne_obj h3 h1 (by simp)) h3, t1, t2⟩
    cases l with
    | none => exact ⟨_, _, h1, by show 4 < 1000; decide, fin⟩
    | some n =>
      refine ⟨.int (n : Nat), ⟨true, .int _⟩, ?_⟩
      rw [show cntD (.int (n : Nat)) = true from decide_eq_true (Int.natCast_nonneg n)]
      walk_at "past"
      exact ⟨_, _, h1, by show 4 < 1000; decide, fin⟩

/-! ### _law_told(_law_disk, _law_word, _law_first, _law_second), level 5 -/
abbrev s__law_told : Stmt := top 30
abbrev N__law_told : List Str := ["_law_disk", "_law_word", "_law_first", "_law_second", "e"]
theorem sc__law_told : FnScope N__law_told ["_law_disk", "_law_word", "_law_first", "_law_second"] (defScope s__law_told) := ⟨rfl, rfl, rfl, by decide +kernel, rfl, by decide +kernel, by decide +kernel⟩
theorem ok__law_told (T : Txt K mg e_PowerCut e_InvalidName e_InvalidText e_NoFile e_InvalidKeeps e_InvalidCount e_QueueError e_Disk) (M_Disk_write : Mt P w K mg base (L2.CX P w) 4 e_Disk "write" ["self", "name", "text"] (sp_Disk_write K)) (M_Disk_sync : Mt P w K mg base (L2.CX P w) 4 e_Disk "sync" ["self", "name"] (sp_Disk_sync K)) (M_Disk_drop : Mt P w K mg base (L2.CX P w) 4 e_Disk "drop" ["self", "name"] (sp_Disk_drop K)) (M_Disk_read : Mt P w K mg base (L2.CX P w) 4 e_Disk "read" ["self", "name"] (sp_Disk_read K)) (M_Disk_fall : Mt P w K mg base (L2.CX P w) 4 e_Disk "fall" ["self", "keeps"] (sp_Disk_fall K)) (MK_Disk_arm_ops : MtK P w K mg base (L2.CX P w) 3 e_Disk "arm" ["self", "ops"] ["ops"] perm_0 (sp_Disk_arm K)) (D : Df K mg "_law_told" s__law_told ["_law_disk", "_law_word", "_law_first", "_law_second"]) : Ct P w K mg base CX0 5 "_law_told" ["_law_disk", "_law_word", "_law_first", "_law_second"] (sp__law_told K) := by
  refine ct4 D sc__law_told fun f cdv A outer s H a_disk a_word a_first a_second Q E hr h => ⟨_, (pss_one (ps_tryC rfl rfl sc__law_told.nd takes0 (fun W pn xe tk ps => 
        (pss_cons (ps_if (pt_cmpZ (k_eq K hr.units) (pz 1) pe_str (nomark _)) 
          (pss_one (ps_ret (pe_lz (pa_cons pe_str (pa_cons (pe_mtA M_Disk_write (hr.mono (by decide)) (passAt tk) (pz 0) (pa_cons (pz 2) (pa_cons (pz 3) pa_nil))) pa_nil))))) pss_nil)
        (pss_cons (ps_if (pt_cmpZ (k_eq K hr.units) (pz 1) pe_str (nomark _)) 
          (pss_one (ps_ret (pe_lz (pa_cons pe_str (pa_cons (pe_mtA M_Disk_sync (hr.mono (by decide)) (passAt tk) (pz 0) (pa_cons (pz 2) pa_nil)) pa_nil))))) pss_nil)
        (pss_cons (ps_if (pt_cmpZ (k_eq K hr.units) (pz 1) pe_str (nomark _)) 
          (pss_one (ps_ret (pe_lz (pa_cons pe_str (pa_cons (pe_mtA M_Disk_drop (hr.mono (by decide)) (passAt tk) (pz 0) (pa_cons (pz 2) pa_nil)) pa_nil))))) pss_nil)
        (pss_cons (ps_if (pt_cmpZ (k_eq K hr.units) (pz 1) pe_str (nomark _)) 
          (pss_one (ps_ret (pe_lz (pa_cons pe_str (pa_cons (pe_mtA M_Disk_read (hr.mono (by decide)) (passAt tk) (pz 0) (pa_cons (pz 2) pa_nil)) pa_nil))))) pss_nil)
        (pss_cons (ps_if (pt_cmpZ (k_eq K hr.units) (pz 1) pe_str (nomark _)) 
          (pss_one (ps_ret (pe_lz (pa_cons pe_str (pa_cons (pe_mtK MK_Disk_arm_ops (hr.mono (by decide)) (passAt tk) (pz 0) (pk_cons (pz 2) pk_nil)) pa_nil))))) pss_nil)
        (pss_one (ps_ret (pe_lz (pa_cons pe_str (pa_cons (pe_mtA M_Disk_fall (hr.mono (by decide)) (passAt tk) (pz 0) (pa_cons (pz 2) pa_nil)) pa_nil))))))))))) (.cons (i := 4) ⟨rfl, by decide, .inl T.g_InvalidName⟩ rfl rfl (fun a oe cls d pn hz hf => 
        (pss_one (ps_ret (pe_lz (pa_cons pe_str (pa_cons (pe_xf T.s_InvalidName.xf T.n_InvalidName hz hf (pz 4)) pa_nil)))))) (.cons (i := 4) ⟨rfl, by decide, .inl T.g_InvalidText⟩ rfl rfl (fun a oe cls d pn hz hf => 
        (pss_one (ps_ret (pe_lz (pa_cons pe_str (pa_cons (pe_xf T.s_InvalidText.xf T.n_InvalidText hz hf (pz 4)) pa_nil)))))) (.cons (i := 4) ⟨rfl, by decide, .inl T.g_InvalidCount⟩ rfl rfl (fun a oe cls d pn hz hf => 
        (pss_one (ps_ret (pe_lz (pa_cons pe_str (pa_cons (pe_xf T.s_InvalidCount.xf T.n_InvalidCount hz hf (pz 4)) pa_nil)))))) (.cons (i := 4) ⟨rfl, by decide, .inl T.g_InvalidKeeps⟩ rfl rfl (fun a oe cls d pn hz hf => 
        (pss_one (ps_ret (pe_lz (pa_cons pe_str (pa_cons (pe_xf T.s_InvalidKeeps.xf T.n_InvalidKeeps hz hf (pz 4)) pa_nil)))))) (.cons (i := 4) ⟨rfl, by decide, .inl T.g_NoFile⟩ rfl rfl (fun a oe cls d pn hz hf => 
        (pss_one (ps_ret (pe_lz (pa_cons pe_str (pa_cons (pe_xf T.s_NoFile.xf T.n_NoFile hz hf (pz 4)) pa_nil)))))) (.bare (i := 1000) ⟨rfl, by decide, .inl T.g_PowerCut⟩ (Nat.le_of_ble_eq_true rfl) (fun a oe cls d pn hz hf => 
        (pss_one (ps_ret (pe_lz (pa_cons pe_str (pa_cons pe_non pa_nil)))))) .nil)))))))), ?_⟩
  obtain ⟨a, f, m, Δ, c, l, k, r, ws, rfl, rfl, hD, ok, k1, j, q⟩ := h
  obtain ⟨nfm, C, dx, kf, km, hc, h1, h2, h3, t1, t2⟩ := id hD
  obtain rfl := hc.one T.a_Disk
  have fr3 : ∀ {H2 : Hp} {D2 : Ds} {c2 : Int} {lf2 : V} {x : Addr}, Kp [a, f, m] H H2 → DiskAt K H2 a f m D2 c2 lf2 → H2 x = none → H x = none := fun {H2 D2 c2 lf2 x} kp hD2 e => by
    obtain ⟨_, _, _, _, _, _, g1, g2, g3, _⟩ := hD2
    cases e1 : H x with
    | none => rfl
    | some u =>
      by_cases z1 : x = a
      · rw [z1, g1] at e; cases e
      by_cases z2 : x = f
      · rw [z2, g2] at e; cases e
      by_cases z3 : x = m
      · rw [z3, g3] at e; cases e
      rw [kp.at (by simp [z1, z2, z3]) e1] at e
      cases e
  cases j with
  | @write n t gn gt =>
    refine ⟨_, _, h1, rfl, ?_⟩
    refine ⟨a, f, m, Δ, c, l, k, rfl, hD, ok.ok, by omega, .inr (.inr ⟨n, t, rfl, rfl, good_nm n (pool_good gn), (text_mk t gt).1, by have := (text_mk t gt).2; omega, ?_⟩)⟩
    by_cases e0 : l = some 0
    · refine .inl ⟨e0, fun CE H2 hcE s2 => ?_⟩
      obtain rfl := hcE.one T.a_PowerCut
      refine ⟨false, T.s_InvalidName.exm T.x_PowerCut_InvalidName, (fun z => by cases z), fun _ => ?_⟩
      refine ⟨false, T.s_InvalidText.exm T.x_PowerCut_InvalidText, (fun z => by cases z), fun _ => ?_⟩
      refine ⟨false, T.s_InvalidCount.exm T.x_PowerCut_InvalidCount, (fun z => by cases z), fun _ => ?_⟩
      refine ⟨false, T.s_InvalidKeeps.exm T.x_PowerCut_InvalidKeeps, (fun z => by cases z), fun _ => ?_⟩
      refine ⟨false, T.s_NoFile.exm T.x_PowerCut_NoFile, (fun z => by cases z), fun _ => ?_⟩
      refine ⟨true, T.s_PowerCut.exm T.x_PowerCut_PowerCut, fun _ ax nax => ?_, fun z => by cases z⟩
      refine ⟨by show 2 ≤ sizeLine; decide, fun p H3 n3 => ?_⟩
      exact q p "cut" .non f m Δ c l H3 (.cut e0 (by simp)) (Kp.same (s2.trans n3.same)) (.inl ⟨rfl, rfl⟩) (hD.same (s2.trans n3.same)) (s2.free n3.fresh) n3.here
    · refine .inr ⟨e0, fun H2 kp2 hD2 => ?_⟩
      refine ⟨by show 2 ≤ sizeLine; decide, fun p H3 n3 => ?_⟩
      exact q p "told" .non f m _ (c + 1) (dec l) H3 (.write rfl e0 gn gt) (kp2.nw n3) (.inl ⟨rfl, rfl⟩) (hD2.same n3.same) (fr3 kp2 hD2 n3.fresh) n3.here
  | @text n y gn bt =>
    obtain ⟨d, dz, d1, d2, _, _⟩ := bt
    refine ⟨_, _, h1, rfl, ?_⟩
    refine ⟨a, f, m, Δ, c, l, k, rfl, hD, ok.ok, by omega, .inr (.inl ⟨n, rfl, good_nm n gn, ⟨d, ⟨false, dz⟩, d1, d2⟩, fun CE dE H2 hcE s2 hdE => ?_⟩)⟩
    obtain rfl := hcE.one T.a_InvalidText
    refine ⟨false, T.s_InvalidName.exm T.x_InvalidText_InvalidName, (fun z => by cases z), fun _ => ?_⟩
    refine ⟨true, T.s_InvalidText.exm T.x_InvalidText_InvalidText, fun _ ax nax => ?_, fun z => by cases z⟩
    refine ⟨rfl, rfl, dE, _, _, rfl, hdE, rfl, ?_⟩
    refine ⟨by show 2 ≤ sizeLine; decide, fun p H3 n3 => ?_⟩
    exact q p "text" a_second f m Δ c l H3 .wrong (Kp.same (s2.trans n3.same)) (.inl ⟨rfl, rfl⟩) (hD.same (s2.trans n3.same)) (s2.free n3.fresh) n3.here
  | @file w n hw gn hin =>
    rcases hw with rfl | rfl | rfl
    · refine ⟨_, _, h1, rfl, ?_⟩
      refine ⟨a, f, m, Δ, c, l, k, rfl, hD, ok.ok, by omega, .inr (.inr ⟨n, rfl, good_nm n gn, hin, ?_⟩)⟩
      by_cases e0 : l = some 0
      · refine .inl ⟨e0, fun CE H2 hcE s2 => ?_⟩
        obtain rfl := hcE.one T.a_PowerCut
        refine ⟨false, T.s_InvalidName.exm T.x_PowerCut_InvalidName, (fun z => by cases z), fun _ => ?_⟩
        refine ⟨false, T.s_InvalidText.exm T.x_PowerCut_InvalidText, (fun z => by cases z), fun _ => ?_⟩
        refine ⟨false, T.s_InvalidCount.exm T.x_PowerCut_InvalidCount, (fun z => by cases z), fun _ => ?_⟩
        refine ⟨false, T.s_InvalidKeeps.exm T.x_PowerCut_InvalidKeeps, (fun z => by cases z), fun _ => ?_⟩
        refine ⟨false, T.s_NoFile.exm T.x_PowerCut_NoFile, (fun z => by cases z), fun _ => ?_⟩
        refine ⟨true, T.s_PowerCut.exm T.x_PowerCut_PowerCut, fun _ ax nax => ?_, fun z => by cases z⟩
        refine ⟨by show 2 ≤ sizeLine; decide, fun p H3 n3 => ?_⟩
        exact q p "cut" .non f m Δ c l H3 (.cut e0 (by simp)) (Kp.same (s2.trans n3.same)) (.inl ⟨rfl, rfl⟩) (hD.same (s2.trans n3.same)) (s2.free n3.fresh) n3.here
      · refine .inr ⟨e0, fun H2 kp2 hD2 => ?_⟩
        refine ⟨by show 2 ≤ sizeLine; decide, fun p H3 n3 => ?_⟩
        exact q p "told" .non f m _ (c + 1) (dec l) H3 (.sync rfl e0 hin) (kp2.nw n3) (.inl ⟨rfl, rfl⟩) (hD2.same n3.same) (fr3 kp2 hD2 n3.fresh) n3.here
    · refine ⟨_, _, h1, rfl, ?_⟩
      refine ⟨a, f, m, Δ, c, l, rfl, hD, .inr (.inr ⟨n, rfl, good_nm n gn, hin, ?_⟩)⟩
      by_cases e0 : l = some 0
      · refine .inl ⟨e0, fun CE H2 hcE s2 => ?_⟩
        obtain rfl := hcE.one T.a_PowerCut
        refine ⟨false, T.s_InvalidName.exm T.x_PowerCut_InvalidName, (fun z => by cases z), fun _ => ?_⟩
        refine ⟨false, T.s_InvalidText.exm T.x_PowerCut_InvalidText, (fun z => by cases z), fun _ => ?_⟩
        refine ⟨false, T.s_InvalidCount.exm T.x_PowerCut_InvalidCount, (fun z => by cases z), fun _ => ?_⟩
        refine ⟨false, T.s_InvalidKeeps.exm T.x_PowerCut_InvalidKeeps, (fun z => by cases z), fun _ => ?_⟩
        refine ⟨false, T.s_NoFile.exm T.x_PowerCut_NoFile, (fun z => by cases z), fun _ => ?_⟩
        refine ⟨true, T.s_PowerCut.exm T.x_PowerCut_PowerCut, fun _ ax nax => ?_, fun z => by cases z⟩
        refine ⟨by show 2 ≤ sizeLine; decide, fun p H3 n3 => ?_⟩
        exact q p "cut" .non f m Δ c l H3 (.cut e0 (by simp)) (Kp.same (s2.trans n3.same)) (.inl ⟨rfl, rfl⟩) (hD.same (s2.trans n3.same)) (s2.free n3.fresh) n3.here
      · refine .inr ⟨e0, fun H2 kp2 hD2 => ?_⟩
        refine ⟨by show 2 ≤ sizeLine; decide, fun p H3 n3 => ?_⟩
        exact q p "told" .non f m _ (c + 1) (dec l) H3 (.drop rfl e0 hin) (kp2.nw n3) (.inl ⟨rfl, rfl⟩) (hD2.same n3.same) (fr3 kp2 hD2 n3.fresh) n3.here
    · refine ⟨_, _, h1, rfl, ?_⟩
      refine ⟨a, f, m, Δ, c, lfV l, rfl, hD, .inr (.inr ⟨n, rfl, good_nm n gn, hin, fun H2 s2 => ?_⟩)⟩
      refine ⟨by show 2 ≤ sizeLine; decide, fun p H3 n3 => ?_⟩
      exact q p "told" _ f m Δ c l H3 (.read rfl hin) (Kp.same (s2.trans n3.same)) (.inl ⟨rfl, rfl⟩) (hD.same (s2.trans n3.same)) (s2.free n3.fresh) n3.here
  | @gone w n hw gn hni =>
    rcases hw with rfl | rfl | rfl
    · refine ⟨_, _, h1, rfl, ?_⟩
      refine ⟨a, f, m, Δ, c, l, k, rfl, hD, ok.ok, by omega, .inr (.inl ⟨n, rfl, good_nm n gn, hni, fun CE dE H2 hcE s2 hdE => ?_⟩)⟩
      obtain rfl := hcE.one T.a_NoFile
      refine ⟨false, T.s_InvalidName.exm T.x_NoFile_InvalidName, (fun z => by cases z), fun _ => ?_⟩
      refine ⟨false, T.s_InvalidText.exm T.x_NoFile_InvalidText, (fun z => by cases z), fun _ => ?_⟩
      refine ⟨false, T.s_InvalidCount.exm T.x_NoFile_InvalidCount, (fun z => by cases z), fun _ => ?_⟩
      refine ⟨false, T.s_InvalidKeeps.exm T.x_NoFile_InvalidKeeps, (fun z => by cases z), fun _ => ?_⟩
      refine ⟨true, T.s_NoFile.exm T.x_NoFile_NoFile, fun _ ax nax => ?_, fun z => by cases z⟩
      refine ⟨rfl, rfl, dE, _, _, rfl, hdE, rfl, ?_⟩
      refine ⟨by show 2 ≤ sizeLine; decide, fun p H3 n3 => ?_⟩
      exact q p "none" (.str n) f m Δ c l H3 .wrong (Kp.same (s2.trans n3.same)) (.inl ⟨rfl, rfl⟩) (hD.same (s2.trans n3.same)) (s2.free n3.fresh) n3.here
    · refine ⟨_, _, h1, rfl, ?_⟩
      refine ⟨a, f, m, Δ, c, l, rfl, hD, .inr (.inl ⟨n, rfl, good_nm n gn, hni, fun CE dE H2 hcE s2 hdE => ?_⟩)⟩
      obtain rfl := hcE.one T.a_NoFile
      refine ⟨false, T.s_InvalidName.exm T.x_NoFile_InvalidName, (fun z => by cases z), fun _ => ?_⟩
      refine ⟨false, T.s_InvalidText.exm T.x_NoFile_InvalidText, (fun z => by cases z), fun _ => ?_⟩
      refine ⟨false, T.s_InvalidCount.exm T.x_NoFile_InvalidCount, (fun z => by cases z), fun _ => ?_⟩
      refine ⟨false, T.s_InvalidKeeps.exm T.x_NoFile_InvalidKeeps, (fun z => by cases z), fun _ => ?_⟩
      refine ⟨true, T.s_NoFile.exm T.x_NoFile_NoFile, fun _ ax nax => ?_, fun z => by cases z⟩
      refine ⟨rfl, rfl, dE, _, _, rfl, hdE, rfl, ?_⟩
      refine ⟨by show 2 ≤ sizeLine; decide, fun p H3 n3 => ?_⟩
      exact q p "none" (.str n) f m Δ c l H3 .wrong (Kp.same (s2.trans n3.same)) (.inl ⟨rfl, rfl⟩) (hD.same (s2.trans n3.same)) (s2.free n3.fresh) n3.here
    · refine ⟨_, _, h1, rfl, ?_⟩
      refine ⟨a, f, m, Δ, c, lfV l, rfl, hD, .inr (.inl ⟨n, rfl, good_nm n gn, hni, fun CE dE H2 hcE s2 hdE => ?_⟩)⟩
      obtain rfl := hcE.one T.a_NoFile
      refine ⟨false, T.s_InvalidName.exm T.x_NoFile_InvalidName, (fun z => by cases z), fun _ => ?_⟩
      refine ⟨false, T.s_InvalidText.exm T.x_NoFile_InvalidText, (fun z => by cases z), fun _ => ?_⟩
      refine ⟨false, T.s_InvalidCount.exm T.x_NoFile_InvalidCount, (fun z => by cases z), fun _ => ?_⟩
      refine ⟨false, T.s_InvalidKeeps.exm T.x_NoFile_InvalidKeeps, (fun z => by cases z), fun _ => ?_⟩
      refine ⟨true, T.s_NoFile.exm T.x_NoFile_NoFile, fun _ ax nax => ?_, fun z => by cases z⟩
      refine ⟨rfl, rfl, dE, _, _, rfl, hdE, rfl, ?_⟩
      refine ⟨by show 2 ≤ sizeLine; decide, fun p H3 n3 => ?_⟩
      exact q p "none" (.str n) f m Δ c l H3 .wrong (Kp.same (s2.trans n3.same)) (.inl ⟨rfl, rfl⟩) (hD.same (s2.trans n3.same)) (s2.free n3.fresh) n3.here
  | @name w x y hw bn =>
    obtain ⟨d, dz, d1, d2, _, _⟩ := bn
    have bad : BadN H a_first := ⟨d, ⟨false, dz⟩, d1, d2⟩
    rcases hw with rfl | rfl | rfl | rfl
    · refine ⟨_, _, h1, rfl, ?_⟩
      refine ⟨a, f, m, Δ, c, l, k, rfl, hD, ok.ok, by omega, .inl ⟨bad, fun CE dE H2 hcE s2 hdE => ?_⟩⟩
      obtain rfl := hcE.one T.a_InvalidName
      refine ⟨true, T.s_InvalidName.exm T.x_InvalidName_InvalidName, fun _ ax nax => ?_, fun z => by cases z⟩
      refine ⟨rfl, rfl, dE, _, _, rfl, hdE, rfl, ?_⟩
      refine ⟨by show 2 ≤ sizeLine; decide, fun p H3 n3 => ?_⟩
      exact q p "name" a_first f m Δ c l H3 .wrong (Kp.same (s2.trans n3.same)) (.inl ⟨rfl, rfl⟩) (hD.same (s2.trans n3.same)) (s2.free n3.fresh) n3.here
    · refine ⟨_, _, h1, rfl, ?_⟩
      refine ⟨a, f, m, Δ, c, l, k, rfl, hD, ok.ok, by omega, .inl ⟨bad, fun CE dE H2 hcE s2 hdE => ?_⟩⟩
      obtain rfl := hcE.one T.a_InvalidName
      refine ⟨true, T.s_InvalidName.exm T.x_InvalidName_InvalidName, fun _ ax nax => ?_, fun z => by cases z⟩
      refine ⟨rfl, rfl, dE, _, _, rfl, hdE, rfl, ?_⟩
      refine ⟨by show 2 ≤ sizeLine; decide, fun p H3 n3 => ?_⟩
      exact q p "name" a_first f m Δ c l H3 .wrong (Kp.same (s2.trans n3.same)) (.inl ⟨rfl, rfl⟩) (hD.same (s2.trans n3.same)) (s2.free n3.fresh) n3.here
    · refine ⟨_, _, h1, rfl, ?_⟩
      refine ⟨a, f, m, Δ, c, l, rfl, hD, .inl ⟨bad, fun CE dE H2 hcE s2 hdE => ?_⟩⟩
      obtain rfl := hcE.one T.a_InvalidName
      refine ⟨true, T.s_InvalidName.exm T.x_InvalidName_InvalidName, fun _ ax nax => ?_, fun z => by cases z⟩
      refine ⟨rfl, rfl, dE, _, _, rfl, hdE, rfl, ?_⟩
      refine ⟨by show 2 ≤ sizeLine; decide, fun p H3 n3 => ?_⟩
      exact q p "name" a_first f m Δ c l H3 .wrong (Kp.same (s2.trans n3.same)) (.inl ⟨rfl, rfl⟩) (hD.same (s2.trans n3.same)) (s2.free n3.fresh) n3.here
    · refine ⟨_, _, h1, rfl, ?_⟩
      refine ⟨a, f, m, Δ, c, lfV l, rfl, hD, .inl ⟨bad, fun CE dE H2 hcE s2 hdE => ?_⟩⟩
      obtain rfl := hcE.one T.a_InvalidName
      refine ⟨true, T.s_InvalidName.exm T.x_InvalidName_InvalidName, fun _ ax nax => ?_, fun z => by cases z⟩
      refine ⟨rfl, rfl, dE, _, _, rfl, hdE, rfl, ?_⟩
      refine ⟨by show 2 ≤ sizeLine; decide, fun p H3 n3 => ?_⟩
      exact q p "name" a_first f m Δ c l H3 .wrong (Kp.same (s2.trans n3.same)) (.inl ⟨rfl, rfl⟩) (hD.same (s2.trans n3.same)) (s2.free n3.fresh) n3.here
  | @arm l' =>
    refine ⟨_, _, h1, rfl, ?_⟩
    refine ⟨a, f, m, Δ, c, lfV l, rfl, hD, .inr ⟨l', rfl, fun H2 kp2 hD2 => ?_⟩⟩
    refine ⟨by show 2 ≤ sizeLine; decide, fun p H3 n3 => ?_⟩
    have kp2' : Kp [a, f, m] H H2 := kp2.sub (by simp)
    exact q p "told" .non f m Δ c l' H3 (.arm rfl rfl) (kp2'.nw n3) (.inl ⟨rfl, rfl⟩) (hD2.same n3.same) (fr3 kp2' hD2 n3.fresh) n3.here
  | @count x bc =>
    obtain ⟨d, dz, hb, _, _⟩ := bc
    refine ⟨_, _, h1, rfl, ?_⟩
    refine ⟨a, f, m, Δ, c, lfV l, rfl, hD, .inl ⟨d, ⟨false, dz⟩, hb, fun CE dE H2 hcE s2 hdE => ?_⟩⟩
    obtain rfl := hcE.one T.a_InvalidCount
    refine ⟨false, T.s_InvalidName.exm T.x_InvalidCount_InvalidName, (fun z => by cases z), fun _ => ?_⟩
    refine ⟨false, T.s_InvalidText.exm T.x_InvalidCount_InvalidText, (fun z => by cases z), fun _ => ?_⟩
    refine ⟨true, T.s_InvalidCount.exm T.x_InvalidCount_InvalidCount, fun _ ax nax => ?_, fun z => by cases z⟩
    refine ⟨rfl, rfl, dE, _, _, rfl, hdE, rfl, ?_⟩
    refine ⟨by show 2 ≤ sizeLine; decide, fun p H3 n3 => ?_⟩
    exact q p "count" a_first f m Δ c l H3 .wrong (Kp.same (s2.trans n3.same)) (.inl ⟨rfl, rfl⟩) (hD.same (s2.trans n3.same)) (s2.free n3.fresh) n3.here
  | @fall p ks hk h4 =>
    obtain ⟨_, _, k2, k6⟩ := kp4 ks h4
    refine ⟨_, _, h1, rfl, ?_⟩
    refine ⟨a, f, m, Δ, c, lfV l, k, rfl, hD, ok.ok, ok.sm, by omega, .inr ⟨p, ks, rfl, ⟨.inl hk, fun x hx => by have := k6 x hx; omega, by omega⟩, fun ys f2 m2 H2 pm so ff fm kp2 hD2 => ?_⟩⟩
    refine ⟨by show 2 ≤ sizeLine; decide, fun p3 H3 n3 => ?_⟩
    have fp : H p3 = none := by
      cases e1 : H p3 with
      | none => rfl
      | some u =>
        have e := n3.fresh
        obtain ⟨_, _, _, _, _, _, g1, _⟩ := hD2
        by_cases z1 : p3 = a
        · rw [z1, g1] at e; cases e
        · rw [kp2.at (by simp [z1]) e1] at e; cases e
    exact q p3 "told" .non f2 m2 _ (c + 1) none H3 (.fall rfl hk pm so) ((kp2.sub (by simp)).nw n3) (.inr ⟨ff, fm⟩) (hD2.same n3.same) fp n3.here
  | @keeps x bk =>
    obtain ⟨d, dz, hb, hl, _, _⟩ := bk
    refine ⟨_, _, h1, rfl, ?_⟩
    refine ⟨a, f, m, Δ, c, lfV l, k, rfl, hD, ok.ok, ok.sm, by omega, .inl ⟨d, ⟨false, dz⟩, hl, hb, fun CE dE H2 hcE s2 hdE => ?_⟩⟩
    obtain rfl := hcE.one T.a_InvalidKeeps
    refine ⟨false, T.s_InvalidName.exm T.x_InvalidKeeps_InvalidName, (fun z => by cases z), fun _ => ?_⟩
    refine ⟨false, T.s_InvalidText.exm T.x_InvalidKeeps_InvalidText, (fun z => by cases z), fun _ => ?_⟩
    refine ⟨false, T.s_InvalidCount.exm T.x_InvalidKeeps_InvalidCount, (fun z => by cases z), fun _ => ?_⟩
    refine ⟨true, T.s_InvalidKeeps.exm T.x_InvalidKeeps_InvalidKeeps, fun _ ax nax => ?_, fun z => by cases z⟩
    refine ⟨rfl, rfl, dE, _, _, rfl, hdE, rfl, ?_⟩
    refine ⟨by show 2 ≤ sizeLine; decide, fun p H3 n3 => ?_⟩
    exact q p "keeps" a_first f m Δ c l H3 .wrong (Kp.same (s2.trans n3.same)) (.inl ⟨rfl, rfl⟩) (hD.same (s2.trans n3.same)) (s2.free n3.fresh) n3.here

/-! ### _law_twin(_law_own_here), level 1 -/
abbrev s__law_twin : Stmt := top 25
abbrev N__law_twin : List Str := ["_law_own_here", "_law_files", "_law_name"]
theorem sc__law_twin : FnScope N__law_twin ["_law_own_here"] (defScope s__law_twin) := ⟨rfl, rfl, rfl, by decide +kernel, rfl, by decide +kernel, by decide +kernel⟩
theorem ok__law_twin (T : Txt K mg e_PowerCut e_InvalidName e_InvalidText e_NoFile e_InvalidKeeps e_InvalidCount e_QueueError e_Disk) (D : Df K mg "_law_twin" s__law_twin ["_law_own_here"]) : Ct P w K mg base CX0 1 "_law_twin" ["_law_own_here"] (sp__law_twin K) := by
  refine ct1 D sc__law_twin fun f cdv A outer s H a_own_here Q E hr h => ⟨_, (pss_cons (ps_set (i := 1) sc__law_twin.nd rfl (Or.inl rfl) (pe_callTy (k_dict K rfl) (by rfl) T.n_dict bt_dict (pa_cons (pe_lz pa_nil) pa_nil)))
    (pss_cons (ps_lock (ps_for PassesOwn.never rfl (pi_kz (pe_dg (hu_of hr) (pz 0) pe_str (fun _ _ => rfl))) (pg_name (i := 2) sc__law_twin.nd rfl (Or.inl rfl)) 
      (pss_one (ps_asg (pe_callTy (k_list K) (by rfl) T.n_list bt_list (pa_cons (pe_dgR (hu_of hr) (pe_dg (hu_of hr) (pz 0) pe_str (fun _ _ => rfl)) (pz 2) (fun _ _ => rfl)) pa_nil)) (pg_sub (pz 1) (pz 2) (s_dict (hu_of hr)))))))
    (pss_one (ps_ret (pe_disz (pps_cons pe_str (pz 1) (pps_cons pe_str (pe_dg (hu_of hr) (pz 0) pe_str (fun _ _ => rfl)) (pps_cons pe_str (pe_dg (hu_of hr) (pz 0) pe_str (fun _ _ => rfl)) pps_nil))) rfl rfl (by decide) (by decide)))))), ?_⟩
  obtain ⟨o, L, Δ, c, l, k, rfl, hO, dok, nd, k1, q⟩ := h
  obtain ⟨ho, hL, noL⟩ := id hO
  obtain ⟨kvs, adr, hd, tb, hp⟩ := id hL
  have al : ∀ j ∈ Δ.names, adr j ≠ L := fun j hj => ne_obj (hp j hj) hd (by simp)
  refine ⟨by show 0 ≤ sizeLine; decide, fun e0 H1 n1 => ?_⟩
  refine .inl ⟨[], [], SqL.of n1.here, .nil, fun F H2 n2 => ?_⟩
  have s2 := n1.same.trans n2.same
  have fF : H F = none := n1.same.free n2.fresh
  have nFL : F ≠ L := (ne_of_none hd fF).symm
  refine ⟨L, .dK kvs, s2 _ _ hd, True.intro, fun od => ?_⟩
  have w3 : Wr H2 L (.frz od (.dK kvs)) (upd H2 L (.frz od (.dK kvs))) := wr
  generalize upd H2 L (.frz od (.dK kvs)) = H3 at w3 ⊢
  have t3 : But L H H3 := fun x u n e => w3.keep n (s2 _ _ e)
  refine ⟨⟨_, t3.at noL ho⟩, ?_⟩
  refine ⟨_, Sum.inr "files", _, t3.at noL ho, rfl, own_f, ?_⟩
  refine ⟨od, kvs, w3.here, ?_⟩
  refine for_k (fun i σ H' => (∃ kv2 ad2, H' L = some (.frz od (.dK kvs)) ∧ But L H H' ∧ H' F = some (.dK kv2) ∧ Tb kv2 (Δ.names.take i) (fun j => .ref (ad2 j)) ∧ ∀ j ∈ Δ.names.take i, H' (ad2 j) = some (.lst [.str (Δ.txt j), .int (Δ.sy j : Nat)])) ∧ ∃ v2 : Option V, σ = [some (.ref o), some (.ref F), v2])
    ⟨⟨[], fun _ => L, w3.here, t3, w3.keep nFL n2.here, Tb.nil, fun j hj => by cases hj⟩, none, rfl⟩ (fun i σ H' z => by
      obtain ⟨⟨_, _, z, _⟩, _⟩ := z
      exact z) ?_ ?_
  · rintro i key v σ H4 hk ⟨⟨kv2, ad2, hfz, t4, hF, tb2, hp2⟩, v2, rfl⟩
    have hkn : (Δ.names.map (Sum.inr : Str → Key))[i]? = some key := by
      rw [← tb.1, List.getElem?_map, hk]
      rfl
    rw [List.getElem?_map] at hkn
    obtain ⟨n, hn, rfl⟩ : ∃ n, Δ.names[i]? = some n ∧ key = Sum.inr n := by
      cases e : Δ.names[i]? with
      | none => rw [e] at hkn; cases hkn
      | some n => rw [e] at hkn; exact ⟨n, rfl, (Option.some.inj hkn).symm⟩
    have hin := List.mem_of_getElem? hn
    have hlt := (List.getElem?_eq_some_iff.mp hn).1
    have no : n ∉ Δ.names.take i := by
      intro z
      obtain ⟨j, hj, e⟩ := List.getElem_of_mem z
      rw [List.length_take] at hj
      rw [List.getElem_take] at e
      have en := (List.getElem?_eq_some_iff.mp hn).2
      exact (List.pairwise_iff_getElem.mp nd) j i (by omega) hlt (by omega) (e.trans en.symm)
    have tk : Δ.names.take (i + 1) = Δ.names.take i ++ [n] := by rw [List.take_add_one, hn]; rfl
    refine ⟨⟨_, t4.at noL ho⟩, ?_⟩
    refine ⟨_, Sum.inr "files", _, t4.at noL ho, rfl, own_f, ?_⟩
    refine ⟨⟨kvs, .inr ⟨od, hfz⟩⟩, ?_⟩
    refine ⟨kvs, Sum.inr n, _, .inr ⟨od, hfz⟩, rfl, tb.at hin, ?_⟩
    refine ⟨_, .inl (SqL.of (t4.at (al n hin) (hp n hin))), fun p H5 n5 => ?_⟩
    refine ⟨kv2, Sum.inr n, n5.keep hF, rfl, szlt (by rw [tb2.len, List.length_take]; have := dok.len; omega), fun H6 w6 => ?_⟩
    have npF : p ≠ F := (ne_of_none hF n5.fresh).symm
    refine ⟨⟨_, fun j => if j = n then p else ad2 j, w6.keep nFL.symm (n5.keep hfz), fun x u e1 e2 => w6.keep (fun z => by rw [z, fF] at e2; cases e2) (n5.keep (t4.at e1 e2)), w6.here, ?_, fun j hj => ?_⟩, _, rfl⟩
    · have := tb2.put n (.ref p)
      rw [if_neg no] at this
      rw [tk]
      exact this.ext fun j => by by_cases z : j = n <;> simp [z]
    · rw [tk, List.mem_append, List.mem_singleton] at hj
      show H6 (if j = n then p else ad2 j) = _
      by_cases z : j = n
      · subst z
        rw [if_pos rfl]
        exact w6.keep npF n5.here
      · rw [if_neg z]
        have hj := hj.elim id fun e => (z e).elim
        have := n5.keep (hp2 j hj)
        exact w6.keep (ne_obj this (n5.keep hF) (by simp)) this
  · rintro σ H4 ⟨⟨kv2, ad2, hfz, t4, hF, tb2, hp2⟩, v2, rfl⟩
    refine ⟨hfz, ?_⟩
    have w5 : Wr H4 L (.dK kvs) (upd H4 L (.dK kvs)) := wr
    generalize upd H4 L (.dK kvs) = H5 at w5 ⊢
    have s5 : Same H H5 := fun x u e => by
      by_cases z : x = L
      · rw [z] at e ⊢
        rw [hd] at e
        cases e
        exact w5.here
      · exact w5.keep z (t4.at z e)
    have kl : kvs.length = Δ.names.length := tb.len
    rw [kl, List.take_length] at tb2 hp2
    refine fun p H6 n6 => ?_
    have ho6 := n6.keep (s5 _ _ ho)
    refine ⟨⟨_, ho6⟩, ?_⟩
    refine ⟨_, Sum.inr "ops", _, ho6, rfl, own_o, ?_⟩
    refine ⟨⟨_, ho6⟩, ?_⟩
    refine ⟨_, Sum.inr "left", _, ho6, rfl, own_l, ?_⟩
    refine ⟨n6.here, ownK F c l, rfl, by show 3 ≤ 15; decide, fun H7 w7 => ?_⟩
    have hF5 := w5.keep nFL hF
    have npF : F ≠ p := ne_of_none hF5 n6.fresh
    have fp : H p = none := s5.free n6.fresh
    refine q p F H7 fp fF ((s5.trans n6.same).wr fp w7) ⟨w7.here, ⟨kv2, ad2, w7.keep npF (n6.keep hF5), tb2, fun j hj => ?_⟩, npF.symm⟩
    have e5 := w5.keep (fun z => by have e := hp2 j hj; rw [z, hfz] at e; cases e) (hp2 j hj)
    exact w7.keep (ne_of_none e5 n6.fresh) (n6.keep e5)

/-! ### Disk_ops(self), level 1 -/
abbrev s_Disk_ops : Stmt := (clsB (top 19)).getD 9 (.Pass ⟨0, 0, 0, 0⟩)
abbrev N_Disk_ops : List Str := ["self"]
theorem sc_Disk_ops : FnScope N_Disk_ops ["self"] (defScope s_Disk_ops) := ⟨rfl, rfl, rfl, by decide +kernel, rfl, by decide +kernel, by decide +kernel⟩
theorem ok_Disk_ops (T : Txt K mg e_PowerCut e_InvalidName e_InvalidText e_NoFile e_InvalidKeeps e_InvalidCount e_QueueError e_Disk) (D : Dm K e_Disk "ops" "Disk.ops" s_Disk_ops ["self"]) : Mt P w K mg base CX0 1 e_Disk "ops" ["self"] (sp_Disk_ops K) := by
  refine mt1 D sc_Disk_ops fun f cdv A outer s H a_self Q E hr h => ⟨_, (pss_one (ps_ret (pe_fdC T.k_Disk T.f_Disk_calls (pz 0)))), ?_⟩
  obtain ⟨a, f, m, Δ, c, lf, rfl, hD, q⟩ := h
  obtain ⟨nfm, C, dx, kf, km, hc, h1, h2, h3, t1, t2⟩ := id hD
  obtain rfl := hc.one T.a_Disk
  exact ⟨_, _, _, h1, rfl, q⟩

/-! ### Disk_synced(self, name), level 4 -/
abbrev s_Disk_synced : Stmt := (clsB (top 19)).getD 8 (.Pass ⟨0, 0, 0, 0⟩)
abbrev N_Disk_synced : List Str := ["self", "name"]
theorem sc_Disk_synced : FnScope N_Disk_synced ["self", "name"] (defScope s_Disk_synced) := ⟨rfl, rfl, rfl, by decide +kernel, rfl, by decide +kernel, by decide +kernel⟩
theorem ok_Disk_synced (T : Txt K mg e_PowerCut e_InvalidName e_InvalidText e_NoFile e_InvalidKeeps e_InvalidCount e_QueueError e_Disk) (M_Disk_check_file : Mt P w K mg base (L2.CX P w) 3 e_Disk "check_file" ["self", "name"] (sp_Disk_check_file K)) (D : Dm K e_Disk "synced" "Disk.synced" s_Disk_synced ["self", "name"]) : Mt P w K mg base (L2.CX P w) 4 e_Disk "synced" ["self", "name"] (sp_Disk_synced K) := by
  refine mx2 D sc_Disk_synced fun f cdv A outer s H a_self a_name Q E hr h => ⟨_, (pss_cons (ps_expr (pe_mtA M_Disk_check_file (hr.mono (by decide)) (passAt (takes_of rfl rfl rfl rfl)) (pz 0) (pa_cons (pz 1) pa_nil)))
    (pss_one (ps_ret (pe_dg (hu_of hr) (pe_fdC T.k_Disk T.f_Disk_marks (pz 0)) (pz 1) (fun _ _ => rfl))))), ?_⟩
  obtain ⟨a, f, m, Δ, c, lf, rfl, hD, h⟩ := h
  obtain ⟨nfm, C, dx, kf, km, hc, h1, h2, h3, t1, t2⟩ := id hD
  obtain rfl := hc.one T.a_Disk
  refine ⟨_, _, h1, rfl, ?_⟩
  refine ⟨a, f, m, Δ, c, lf, rfl, hD, ?_⟩
  rcases h with h | h | ⟨n, rfl, hn, hi, q⟩
  · exact .inl h
  · exact .inr (.inl h)
  · refine .inr (.inr ⟨n, rfl, hn, hi, fun H2 s2 => ?_⟩)
    refine ⟨_, _, _, s2 _ _ h1, rfl, ?_⟩
    refine ⟨⟨_, s2 _ _ h3⟩, ?_⟩
    refine ⟨km, Sum.inr n, _, s2 _ _ h3, rfl, t2.at hi, q H2 s2⟩

/-! ### _law_alike(_law_disk, _law_own_here), level 5 -/
abbrev s__law_alike : Stmt := top 31
abbrev N__law_alike : List Str := ["_law_disk", "_law_own_here", "_law_names", "_law_told_here", "_law_name"]
theorem sc__law_alike : FnScope N__law_alike ["_law_disk", "_law_own_here"] (defScope s__law_alike) := ⟨rfl, rfl, rfl, by decide +kernel, rfl, by decide +kernel, by decide +kernel⟩
theorem ok__law_alike (T : Txt K mg e_PowerCut e_InvalidName e_InvalidText e_NoFile e_InvalidKeeps e_InvalidCount e_QueueError e_Disk) (M_Disk_ops : Mt P w K mg base CX0 1 e_Disk "ops" ["self"] (sp_Disk_ops K)) (M_Disk_names : Mt P w K mg base CX0 1 e_Disk "names" ["self"] (sp_Disk_names K)) (M_Disk_synced : Mt P w K mg base (L2.CX P w) 4 e_Disk "synced" ["self", "name"] (sp_Disk_synced K)) (M_Disk_read : Mt P w K mg base (L2.CX P w) 4 e_Disk "read" ["self", "name"] (sp_Disk_read K)) (D : Df K mg "_law_alike" s__law_alike ["_law_disk", "_law_own_here"]) : Cg P w K mg base CX0 5 "_law_alike" ["_law_disk", "_law_own_here"] (sp__law_alike K) := by
  refine cg2 D sc__law_alike fun f cdv A outer s H a_disk a_own_here Q E hr h => ⟨_, (pss_cons (ps_set (i := 2) sc__law_alike.nd rfl (Or.inl rfl) (pe_callB (k_sortS K) (by rfl) T.n_sorted bt_sorted (pa_cons (pe_callTy (c_listD rfl) (by rfl) T.n_list bt_list (pa_cons (pe_dg (hu_of hr.room) (pz 1) pe_str (fun _ _ => rfl)) pa_nil)) pa_nil)))
    (pss_cons (ps_if (PW.pt (pw_or (pt_cmpZ (k_ne K hr.room.units) (pe_mtA0 M_Disk_names (hr.room.mono (by decide)) at0 (pz 0)) (pz 2) (nomark _)) (pw_or1 (pt_cmpZ (k_ne K hr.room.units) (pe_callB (c_repr hr) (by rfl) T.n_repr bt_repr (pa_cons (pe_mtA0 M_Disk_ops (hr.room.mono (by decide)) at0 (pz 0)) pa_nil)) (pe_callB (c_repr hr) (by rfl) T.n_repr bt_repr (pa_cons (pe_dg (hu_of hr.room) (pz 1) pe_str (fun _ _ => rfl)) pa_nil)) (nomark _))))) 
      (pss_one (ps_ret pe_bl)) pss_nil)
    (pss_cons (ps_setLcz (i := 3) (own := [("_law_name", 4)]) (by rfl) sc__law_alike.nd rfl rfl (sw_true rfl rfl rfl (by decide +kernel)) (pi_lzK K (pz 2)) (blkOk_by (own := [("_law_name", 4)]) (N := N__law_alike) (sc := defScope s__law_alike) (by decide +kernel)) (fun _ _ _ _ _ => (pg_name (i := 4) sc__law_alike.nd rfl (Or.inl rfl))) (fun _ _ _ _ _ => pts_nil) (fun _ _ _ _ _ => (pe_lz (pa_cons (pe_mtA M_Disk_read (hr.room.mono (by decide)) atL (pz 0) (pa_cons (pz 4) pa_nil)) (pa_cons (pe_mtA M_Disk_synced (hr.room.mono (by decide)) atL (pz 0) (pa_cons (pz 4) pa_nil)) pa_nil)))))
    (pss_one (ps_ret (pe_cmpR (k_eq K hr.room.units) (pe_callB (c_repr hr) (by rfl) T.n_repr bt_repr (pa_cons (pz 3) pa_nil)) (pe_callB (c_repr hr) (by rfl) T.n_repr bt_repr (pa_cons (pe_lcz (own := [("_law_name", 4)]) (by rfl) sc__law_alike.nd (pi_lzK K (pz 2)) (blkOk_by (own := [("_law_name", 4)]) (N := N__law_alike) (sc := defScope s__law_alike) (by decide +kernel)) (fun _ _ _ _ _ => (pg_name (i := 4) sc__law_alike.nd rfl (Or.inl rfl))) (fun _ _ _ _ _ => pts_nil) (fun _ _ _ _ _ => (pe_dg (hu_of hr.room) (pe_dg (hu_of hr.room) (pz 1) pe_str (fun _ _ => rfl)) (pz 4) (fun _ _ => rfl)))) pa_nil)) (nomark _))))))), ?_⟩
  obtain ⟨a, f, m, Δ, c, l, o, L, k, rfl, rfl, hD, hO, ok, k1, c0, c1, q⟩ := h
  obtain ⟨ho, hL, noL⟩ := id hO
  obtain ⟨kvs, adr, hd, tb, hp⟩ := id hL
  obtain ⟨nfm, C, dx, kf, km, hc, h1, h2, h3, t1, t2⟩ := id hD
  obtain rfl := hc.one T.a_Disk
  have nl : Δ.names.length < 64 := by have := ok.ok.len; omega
  refine ⟨⟨_, ho⟩, ?_⟩
  refine ⟨_, Sum.inr "files", _, ho, rfl, own_f, ?_⟩
  refine ⟨kvs, hd, fun p1 H1 n1 => ?_⟩
  refine ⟨Δ.names, SqL.of (by rw [n1.here, tb.mem]), nl, fun ys pn H2 pm so n2 => ?_⟩
  have s2 := n1.same.trans n2.same
  refine ⟨_, _, s2 _ _ h1, rfl, ?_⟩
  refine ⟨a, f, m, Δ, c, lfV l, rfl, hD.same s2, nl, fun ys2 p3 H3 pm2 so2 s3 fr3 hp3 => ?_⟩
  have e2 : ys2 = ys := sorted_one (pm2.trans pm.symm) so2 so
  rw [e2] at hp3
  clear e2 pm2 so2
  have ynm : ∀ j ∈ ys, nmS j = true := fun j hj => ok.ok.nm j (pm.mem_iff.mp hj)
  have s03 := s2.trans s3
  have hpn := s3 _ _ n2.here
  obtain ⟨d, e, he1, he2, e3, e4, e5⟩ := eq_names (K := K) ynm (SqL.of hp3) (SqL.of hpn)
  refine ⟨d, e, he1, he2, e3, e4, ?_⟩
  rw [e5]
  refine zB_bl ?_
  dsimp only
  rw [if_neg (show ¬ (true ^^ true) = true by decide)]
  refine ⟨_, _, s03 _ _ h1, rfl, ?_⟩
  refine ⟨a, f, m, Δ, c, lfV l, rfl, hD.same s03, ?_⟩
  have sc := sw_int c0 (by omega)
  refine ⟨true, .int c, .int c, fun _ => rfl, sc.sh, Nat.le_trans sc.dp (by decide), sz (Nat.le_trans sc.ln (by decide)), ?_⟩
  refine ⟨⟨_, s03 _ _ ho⟩, ?_⟩
  refine ⟨_, Sum.inr "ops", _, s03 _ _ ho, rfl, own_o, ?_⟩
  refine ⟨true, .int c, .int c, fun _ => rfl, sc.sh, Nat.le_trans sc.dp (by decide), sz (Nat.le_trans sc.ln (by decide)), ?_⟩
  refine iteN (nself _) ?_
  have yl : ys.length ≤ 50 := by rw [pm.length_eq]; have := ok.ok.len; omega
  have swI : ∀ n ∈ Δ.names, Sw 0 30000 (.int (Δ.sy n : Nat)) := fun n hn => sw_int (by omega) (by have := ok.ok.sy n hn; omega)
  have swT : ∀ n ∈ Δ.names, Sw 0 30000 (.str (Δ.txt n)) := fun n hn => sw_str (by have := ok.ok.tx n hn; omega) (ok.ok.ch n hn)
  have swO : ∀ n ∈ Δ.names, Sw 1 60008 (.list [.str (Δ.txt n), .int (Δ.sy n : Nat)]) := fun n hn => Sw.list (k := 0) (B := 30000) (m := 2) (fun z hz => by
    simp only [List.mem_cons, List.not_mem_nil, or_false] at hz
    rcases hz with rfl | rfl
    · exact swT n hn
    · exact swI n hn) (by simp)
  have swA : Sw 2 3100000 (.list (ys.map (two Δ))) := (Sw.list (k := 1) (B := 60008) (m := 50) (ds := ys.map (two Δ)) (fun z hz => by
    obtain ⟨n, hn, rfl⟩ := List.mem_map.mp hz
    exact swO n (pm.mem_iff.mp hn)) (by rw [List.length_map]; exact yl)).mono (by decide) (by decide)
  have noD : (PyData.list (ys.map (two Δ))).hasDict = false := by
    have e : (PyData.list (ys.map (two Δ))).hasDict = PyData.hasDictAll (ys.map (two Δ)) := by simp only [PyData.hasDict]
    rw [e]
    exact two_noD ys
  refine ⟨⟨_, SqL.of hpn⟩, fun D hD' => lc_w (wk_list (ys.map V.str)) (by rw [List.length_map]; omega) (fun i acc H' => Same H3 H' ∧ TwoAll H' Δ D acc (ys.take i)) (fun H' n' => ⟨n'.same, .nil⟩) (fun i acc H' z => SqL.of (z.1 _ _ hpn))
    (fun i acc H' z => by rw [z.2.len, List.length_take]; omega) ?_ ?_⟩
  · rintro i x acc H' hx hDa ⟨s', dz'⟩
    obtain ⟨n, hn, rfl⟩ : ∃ n, ys[i]? = some n ∧ x = .str n := by
      rw [List.getElem?_map] at hx
      cases e : ys[i]? with
      | none => rw [e] at hx; cases hx
      | some n => rw [e] at hx; exact ⟨n, rfl, (Option.some.inj hx).symm⟩
    have hin : n ∈ Δ.names := pm.mem_iff.mp (List.mem_of_getElem? hn)
    have s4 := s03.trans s'
    refine ⟨rfl, ?_⟩
    refine ⟨_, _, s4 _ _ h1, rfl, ?_⟩
    refine ⟨a, f, m, Δ, c, lfV l, rfl, hD.same s4, .inr (.inr ⟨n, rfl, ok.ok.nm n hin, hin, fun H5 s5 => ?_⟩)⟩
    refine ⟨_, _, (s4.trans s5) _ _ h1, rfl, ?_⟩
    refine ⟨a, f, m, Δ, c, lfV l, rfl, hD.same (s4.trans s5), .inr (.inr ⟨n, rfl, ok.ok.nm n hin, hin, fun H6 s6 => ?_⟩)⟩
    refine ⟨by show 2 ≤ sizeLine; decide, fun pz H7 n7 => ?_⟩
    have s57 := (s5.trans s6).trans n7.same
    refine ⟨s57 _ _ hDa, fun H8 w8 => ?_⟩
    have s38 : Same H3 H8 := (s'.trans s57).wr hD' w8
    have npD : pz ≠ D := (ne_of_none ((s5.trans s6) _ _ hDa) n7.fresh).symm
    refine ⟨s38, ?_⟩
    rw [show ys.take (i + 1) = ys.take i ++ [n] by rw [List.take_add_one, hn]; rfl]
    exact (dz'.mono fun x u e n => w8.keep e (s57 _ _ n)).app npD (w8.keep npD n7.here)
  · rintro acc H4 _ hDa ⟨s4, dz4⟩
    rw [List.length_map, List.take_length] at dz4
    refine ⟨false, _, .lst hDa (fun z => by cases z) dz4.dz, (fun z => by rw [noD] at z; cases z), swA.sh, Nat.le_trans swA.dp (by decide), sz (Nat.le_trans swA.ln (by decide)), ?_⟩
    have s04 := s03.trans s4
    refine ⟨⟨_, SqL.of (s4 _ _ hpn)⟩, fun D2 hD2 => lc_w (wk_list (ys.map V.str)) (by rw [List.length_map]; omega) (fun i acc H' => Same H4 H' ∧ acc = (ys.take i).map fun n => V.ref (adr n)) (fun H' n' => ⟨n'.same, rfl⟩) (fun i acc H' z => SqL.of ((s4.trans z.1) _ _ hpn))
      (fun i acc H' z => by rw [z.2, List.length_map, List.length_take]; omega) ?_ ?_⟩
    · rintro i x acc2 H' hx hDa2 ⟨s', rfl⟩
      obtain ⟨n, hn, rfl⟩ : ∃ n, ys[i]? = some n ∧ x = .str n := by
        rw [List.getElem?_map] at hx
        cases e : ys[i]? with
        | none => rw [e] at hx; cases hx
        | some n => rw [e] at hx; exact ⟨n, rfl, (Option.some.inj hx).symm⟩
      have hin : n ∈ Δ.names := pm.mem_iff.mp (List.mem_of_getElem? hn)
      have s5 := s04.trans s'
      refine ⟨rfl, ?_⟩
      refine ⟨⟨_, s5 _ _ ho⟩, ?_⟩
      refine ⟨_, Sum.inr "files", _, s5 _ _ ho, rfl, own_f, ?_⟩
      refine ⟨⟨_, s5 _ _ hd⟩, ?_⟩
      refine ⟨kvs, Sum.inr n, _, s5 _ _ hd, rfl, tb.at hin, ?_⟩
      refine ⟨hDa2, fun H6 w6 => ⟨s'.wr hD2 w6, ?_⟩⟩
      rw [List.take_add_one, hn]
      simp
    · rintro acc2 H5 _ hDa2 ⟨s5, rfl⟩
      rw [List.length_map, List.take_length] at hDa2
      have s05 := s04.trans s5
      have dzB : DzAll false H5 (ys.map fun n => V.ref (adr n)) (ys.map (two Δ)) := by
        have gen : ∀ zs : List Str, (∀ n ∈ zs, n ∈ Δ.names) → DzAll false H5 (zs.map fun n => V.ref (adr n)) (zs.map (two Δ)) := by
          intro zs
          induction zs with
          | nil => intro _; exact .nil
          | cons z r ih =>
            intro hz
            refine .cons ?_ (ih fun n hn => hz n (List.mem_cons_of_mem _ hn))
            exact dzTwo (s05 _ _ (hp z (hz z List.mem_cons_self))) (.str _) (.int _)
        exact gen ys fun n hn => pm.mem_iff.mp hn
      refine ⟨false, _, .lst hDa2 (fun z => by cases z) dzB, (fun z => by rw [noD] at z; cases z), swA.sh, Nat.le_trans swA.dp (by decide), sz (Nat.le_trans swA.ln (by decide)), ?_⟩
      show Q (.bl (false ^^ decide (V.str _ = V.str _))) H5
      rw [eself]
      exact q H5 s05

/-! ### Disk___init__(self), level 1 -/
abbrev s_Disk___init__ : Stmt := (clsB (top 19)).getD 0 (.Pass ⟨0, 0, 0, 0⟩)
abbrev N_Disk___init__ : List Str := ["self"]
theorem sc_Disk___init__ : FnScope N_Disk___init__ ["self"] (defScope s_Disk___init__) := ⟨rfl, rfl, rfl, by decide +kernel, rfl, by decide +kernel, by decide +kernel⟩
theorem ok_Disk___init__ (T : Txt K mg e_PowerCut e_InvalidName e_InvalidText e_NoFile e_InvalidKeeps e_InvalidCount e_QueueError e_Disk) {fI : Addr} {fd : FuncData} (F : Fun K "__init__" "Disk.__init__" s_Disk___init__ fI fd) : FnOk P w K mg base CX0 1 fI fd ["self"] (sp_Disk___init__ K) := by
  refine ini1 F sc_Disk___init__ fun cdv A outer s H a_self Q E hr h => ⟨_, (pss_cons (ps_fdC T.k_Disk T.f_Disk_files (pz 0) pe_dnewK)
    (pss_cons (ps_fdC T.k_Disk T.f_Disk_marks (pz 0) pe_dnewK)
    (pss_cons (ps_fdC T.k_Disk T.f_Disk_calls (pz 0) pe_int)
    (pss_one (ps_fdC T.k_Disk T.f_Disk_left (pz 0) pe_non))))), ?_⟩
  obtain ⟨a, C, dx, rfl, hc, h1, q⟩ := h
  obtain rfl := hc.one T.a_Disk
  refine fun f hf => ?_
  have n1 := nw (o := .dK []) hf
  generalize upd H f (.dK []) = H1 at n1
  refine ⟨_, _, n1.keep h1, by decide, fun H2 w2 => ?_⟩
  refine fun m hm => ?_
  have n3 := nw (o := .dK []) hm
  generalize upd H2 m (.dK []) = H3 at n3
  refine ⟨_, _, n3.keep w2.here, by show 1 < 1000; decide, fun H4 w4 => ?_⟩
  refine ⟨_, _, w4.here, by show 2 < 1000; decide, fun H5 w5 => ?_⟩
  refine ⟨_, _, w5.here, by show 3 < 1000; decide, fun H6 w6 => ?_⟩
  have nfa : f ≠ a := fun z => by rw [z, h1] at hf; cases hf
  have nma : m ≠ a := fun z => by rw [z, w2.here] at hm; cases hm
  have f2 := w2.keep nfa n1.here
  have nfm : f ≠ m := fun z => by rw [← z, f2] at hm; cases hm
  have hm1 : H m = none := by
    cases e : H m with
    | none => rfl
    | some o => rw [w2.keep nma (n1.keep e)] at hm; cases hm
  refine q f m H6 hf hm1 (Kp.wr (Kp.wr (Kp.wr ((Kp.wr (Kp.same n1.same) (by simp) w2).nw n3) (by simp) w4) (by simp) w5) (by simp) w6) ?_
  exact ⟨nfm, _, _, _, _, hc, w6.here, w6.keep nfa (w5.keep nfa (w4.keep nfa (n3.keep f2))), w6.keep nma (w5.keep nma (w4.keep nma n3.here)), Tb.nil, Tb.nil⟩

/-! ### _law_otherwise(_law_own_here), level 5 -/
abbrev s__law_otherwise : Stmt := top 32
abbrev N__law_otherwise : List Str := ["_law_own_here", "_law_disk", "_law_name", "_law_text", "_law_mark", "_law_sign"]
theorem sc__law_otherwise : FnScope N__law_otherwise ["_law_own_here"] (defScope s__law_otherwise) := ⟨rfl, rfl, rfl, by decide +kernel, rfl, by decide +kernel, by decide +kernel⟩
theorem ok__law_otherwise (T : Txt K mg e_PowerCut e_InvalidName e_InvalidText e_NoFile e_InvalidKeeps e_InvalidCount e_QueueError e_Disk) (M_Disk_write : Mt P w K mg base (L2.CX P w) 4 e_Disk "write" ["self", "name", "text"] (sp_Disk_write K)) (M_Disk_sync : Mt P w K mg base (L2.CX P w) 4 e_Disk "sync" ["self", "name"] (sp_Disk_sync K)) (M_Disk_drop : Mt P w K mg base (L2.CX P w) 4 e_Disk "drop" ["self", "name"] (sp_Disk_drop K)) (N_Disk : Kn P w K mg base 1 "Disk" e_Disk (sp_Disk___init__ K)) (D : Df K mg "_law_otherwise" s__law_otherwise ["_law_own_here"]) : Ct P w K mg base CX0 5 "_law_otherwise" ["_law_own_here"] (sp__law_otherwise K) := by
  refine ct1 D sc__law_otherwise fun f cdv A outer s H a_own_here Q E hr h => ⟨_, (pss_cons (ps_set (i := 1) sc__law_otherwise.nd rfl (Or.inl rfl) (pe_new0 N_Disk (hr.mono (by decide))))
    (pss_cons (ps_for PassesOwn.never rfl (pi_revz K (by rfl) T.n_reversed (pe_callB (k_sortS K) (by rfl) T.n_sorted bt_sorted (pa_cons (pe_callTy (c_listD rfl) (by rfl) T.n_list bt_list (pa_cons (pe_dg (hu_of hr) (pz 0) pe_str (fun _ _ => rfl)) pa_nil)) pa_nil))) (pg_name (i := 2) sc__law_otherwise.nd rfl (Or.inl rfl)) 
      (pss_cons (ps_asg (pe_dg (hu_of hr) (pe_dg (hu_of hr) (pz 0) pe_str (fun _ _ => rfl)) (pz 2) (fun _ _ => rfl)) (pg_lzK K (by rfl) (pgs_cz (pg_name (i := 3) sc__law_otherwise.nd rfl (Or.inl rfl)) (pgs_cz (pg_name (i := 4) sc__law_otherwise.nd rfl (Or.inl rfl)) pgs_nz))))
      (pss_cons (ps_if (pt_cmpZ o_gtS (pz 4) pe_int (nomark _)) 
        (pss_cons (ps_expr (pe_mtA M_Disk_write (hr.mono (by decide)) atL (pz 1) (pa_cons (pz 2) (pa_cons (pe_slice (k_sl K) (pz 3) po_none (po_z (pz 4))) pa_nil))))
        (pss_one (ps_expr (pe_mtA M_Disk_sync (hr.mono (by decide)) atL (pz 1) (pa_cons (pz 2) pa_nil))))) pss_nil)
      (pss_one (ps_for PassesOwn.never rfl (pi_sz (pe_slice (k_sl K) (pz 3) (po_z (pz 4)) po_none)) (pg_name (i := 5) sc__law_otherwise.nd rfl (Or.inl rfl)) 
        (pss_one (ps_expr (pe_mtA M_Disk_write (hr.mono (by decide)) atL (pz 1) (pa_cons (pz 2) (pa_cons (pz 5) pa_nil))))))))))
    (pss_cons (ps_expr (pe_mtA M_Disk_write (hr.mono (by decide)) atL (pz 1) (pa_cons pe_str (pa_cons pe_str pa_nil))))
    (pss_cons (ps_expr (pe_mtA M_Disk_drop (hr.mono (by decide)) atL (pz 1) (pa_cons pe_str pa_nil)))
    (pss_one (ps_ret (pz 1))))))), ?_⟩
  obtain ⟨o, L, Δ, c, l, k, rfl, hO, ok, k1, q⟩ := h
  obtain ⟨ho, hL, noL⟩ := id hO
  obtain ⟨kvs, adr, hd, tb, hp⟩ := id hL
  have nl : Δ.names.length < 64 := by have := ok.ok.len; omega
  refine fun a0 x0 ha0 hx0 hn0 => ?_
  have n0 := nw (o := .own a0) hx0
  have ha0' : (upd H x0 (.own a0)) a0 = none := by rw [upd_ne hn0.symm]; exact ha0
  have n0' := nw (o := .ins e_Disk x0 []) ha0'
  generalize upd (upd H x0 (.own a0)) a0 (.ins e_Disk x0 []) = H3 at n0' ⊢
  have s3 := n0.same.trans n0'.same
  refine ⟨a0, e_Disk, x0, rfl, T.a_Disk, n0'.here, fun f0 m0 H4 ff0 fm0 kp4' hD0 => ⟨rfl, ?_⟩⟩
  have s4 : Same H H4 := fun p u e => kp4'.at (by rw [List.mem_singleton]; exact ne_of_none e ha0) (s3 p u e)
  have ff : H f0 = none := s3.free ff0
  have fm : H m0 = none := s3.free fm0
  refine ⟨⟨_, s4 _ _ ho⟩, ?_⟩
  refine ⟨_, Sum.inr "files", _, s4 _ _ ho, rfl, own_f, ?_⟩
  refine ⟨kvs, s4 _ _ hd, fun p1 H5 n5 => ?_⟩
  refine ⟨Δ.names, SqL.of (by rw [n5.here, tb.mem]), nl, fun ys pk H6 pm so n6 => ?_⟩
  have s46 := n5.same.trans n6.same
  have hD6 : DiskAt K H6 a0 f0 m0 empty 0 .non := hD0.same s46
  have keepS : ∀ {H' : Hp}, Kp [a0, f0, m0] H6 H' → Same H H' := fun {H'} kp p u e => kp.at (by simp [ne_of_none e ha0, ne_of_none e ff, ne_of_none e fm]) ((s4.trans s46) p u e)
  have hpk : ∀ {H' : Hp}, Kp [a0, f0, m0] H6 H' → H' pk = some (.lst (ys.map V.str)) := fun {H'} kp => kp.at (fun z => hD6.nolist pk z _ n6.here) n6.here
  have yl : ys.length ≤ 50 := by rw [pm.length_eq]; have := ok.ok.len; omega
  have rin : ∀ z ∈ ys.reverse, z ∈ Δ.names := fun z hz => pm.mem_iff.mp (List.mem_reverse.mp hz)
  have rnd : ys.reverse.Nodup := List.pairwise_reverse.mpr ((pm.nodup_iff.mpr ok.nd).imp fun h e => h e.symm)
  refine ⟨_, SqL.of n6.here, ?_⟩
  refine RT.for_Itv (fun i σ H' => (∃ E c', Kp [a0, f0, m0] H6 H' ∧ DiskAt K H' a0 f0 m0 E c' .non ∧ Oto Δ (ys.reverse.take i) E) ∧ ∃ v2 v3 v4 v5 : Option V, σ = [some (.ref o), some (.ref a0), v2, v3, v4, v5])
    ⟨⟨empty, 0, Kp.refl, hD6, rfl, fun z hz => by cases hz⟩, none, none, none, none, rfl⟩ (fun i σ H' z => by
      obtain ⟨⟨_, _, kp, _⟩, _⟩ := z
      exact SqL.of (hpk kp)) ?_ ?_
  · rintro i x σ H7 hi hx ⟨⟨E, c', kp7, hE, oto⟩, v2, v3, v4, v5, rfl⟩
    rw [List.length_map] at hi
    obtain ⟨n, hn, rfl⟩ : ∃ n, ys.reverse[i]? = some n ∧ x = .str n := by
      rw [List.length_map, List.getElem?_map] at hx
      rw [List.getElem?_reverse hi]
      cases e : ys[ys.length - 1 - i]? with
      | none => rw [e] at hx; cases hx
      | some n => rw [e] at hx; exact ⟨n, rfl, (Option.some.inj hx).symm⟩
    have hnr := List.mem_of_getElem? hn
    have hin := rin n hnr
    have hlt := (List.getElem?_eq_some_iff.mp hn).1
    have no : n ∉ ys.reverse.take i := by
      intro z
      obtain ⟨j, hj, e⟩ := List.getElem_of_mem z
      rw [List.length_take] at hj
      rw [List.getElem_take] at e
      have en := (List.getElem?_eq_some_iff.mp hn).2
      exact (List.pairwise_iff_getElem.mp rnd) j i (by omega) hlt (by omega) (e.trans en.symm)
    have tk : ys.reverse.take (i + 1) = ys.reverse.take i ++ [n] := by rw [List.take_add_one, hn]; rfl
    have dn : ∀ z ∈ ys.reverse.take i, z ∈ Δ.names := fun z hz => rin z (List.mem_of_mem_take hz)
    have dl : (ys.reverse.take i).length ≤ 50 := by rw [List.length_take, List.length_reverse]; omega
    rw [tk]
    generalize ys.reverse.take i = done at oto no dn dl ⊢
    have lt := ok.ok.tx n hin
    have sml := ok.sm n hin
    obtain ⟨m1, m2⟩ := mk_of (ok.mkt n hin)
    have nm := ok.ok.nm n hin
    have s7 := keepS kp7
    refine ⟨⟨_, s7 _ _ ho⟩, ?_⟩
    refine ⟨_, Sum.inr "files", _, s7 _ _ ho, rfl, own_f, ?_⟩
    refine ⟨⟨_, s7 _ _ hd⟩, ?_⟩
    refine ⟨kvs, Sum.inr n, _, s7 _ _ hd, rfl, tb.at hin, ?_⟩
    refine ⟨_, SqL.of (s7 _ _ (hp n hin)), rfl, ?_⟩
    obtain ⟨_, C, dx, kf, km, hcl, g1, _⟩ := id hE
    obtain rfl := hcl.one T.a_Disk
    have e1 : cutS (Δ.txt n) none (some ((Δ.sy n : Nat) : Int)) = S ((Δ.txt n).cps.toList.take (Δ.sy n)) := by
      conv => lhs; rw [S_cps (Δ.txt n)]
      rw [cut_n]
    have e2 : cutS (Δ.txt n) (some ((Δ.sy n : Nat) : Int)) none = S ((Δ.txt n).cps.toList.drop (Δ.sy n)) := by
      conv => lhs; rw [S_cps (Δ.txt n)]
      rw [cut_from]
    refine ite2 (fun h0 => ?_) (fun h0 => ?_)
    case' refine_1 =>
      have h0' : 0 < Δ.sy n := by have := dT h0; omega
      refine ⟨_, _, g1, rfl, ?_⟩
      refine ⟨sz (by omega), ?_⟩
      rw [e1]
      refine ⟨a0, f0, m0, E, c', none, 100, rfl, hE, oto_dok ok.ok k1 dn dl oto, by omega, .inr (.inr ⟨n, _, rfl, rfl, nm, mk_S (fun x hx => m2 x (List.mem_of_mem_take hx)) (by rw [List.length_take, len_cps]; omega), by rw [length_S, List.length_take, len_cps]; omega, .inr ⟨by simp, fun H8 kp8 hD8 => ?_⟩⟩)⟩
      obtain ⟨_, C8, dx8, _, _, hcl8, g8, _⟩ := id hD8
      obtain rfl := hcl8.one T.a_Disk
      refine ⟨_, _, g8, rfl, ?_⟩
      have oti1 := oti_sync no oto h0' sml
      have dk1 : Dok 100 (E.put n (E.tx n ++ S ((Δ.txt n).cps.toList.take (Δ.sy n))) (E.mt n)) := by
        obtain ⟨x1, x2, x3⟩ := oti_tx no (oti_0 (n := n) oto)
        refine dok_of ok.ok k1 ?_ fun z hz => ?_
        · show (if n ∈ E.names then E.names else E.names ++ [n]).length ≤ _
          rw [x3, List.length_append]
          show done.length + 1 ≤ 51
          omega
        · have hz : z ∈ (if n ∈ E.names then E.names else E.names ++ [n]) := hz
          rw [x3, List.mem_append, List.mem_singleton] at hz
          show _ ∧ (if z = n then E.mt n else E.sy z) ≤ _ ∧ (if z = n then _ else E.txt z).length ≤ _ ∧ ∀ x ∈ (if z = n then _ else E.txt z).cps.toList, _
          by_cases zn : z = n
          · subst zn
            rw [if_pos rfl, if_pos rfl, x1, x2, app_S]
            refine ⟨hin, by omega, by rw [length_S, List.length_append, List.length_take, List.length_take, len_cps]; omega, fun x hx => ?_⟩
            rw [cps_S, List.mem_append] at hx
            exact hx.elim (fun h => List.mem_of_mem_take h) fun h => List.mem_of_mem_take h
          · rw [if_neg zn, if_neg zn]
            have hz := hz.elim id fun e => (zn e).elim
            have i := dn z hz
            obtain ⟨a, b⟩ := oto.old z hz
            rw [a, b]
            have := ok.ok.tx z i
            have := ok.ok.sy z i
            exact ⟨i, by omega, by omega, fun x hx => hx⟩
      refine ⟨a0, f0, m0, _, c' + 1, none, 100, rfl, hD8, dk1, by omega, .inr (.inr ⟨n, rfl, nm, put_mem.mpr (.inl rfl), .inr ⟨by simp, fun H9 kp9 hD9 => ?_⟩⟩)⟩
      have kp9 := (kp7.trans kp8).trans kp9
      obtain ⟨E9, hE9⟩ : ∃ E9, E9 = ((E.put n (E.tx n ++ S ((Δ.txt n).cps.toList.take (Δ.sy n))) (E.mt n)).put n ((E.put n (E.tx n ++ S ((Δ.txt n).cps.toList.take (Δ.sy n))) (E.mt n)).txt n) ((E.put n (E.tx n ++ S ((Δ.txt n).cps.toList.take (Δ.sy n))) (E.mt n)).txt n).length) := ⟨_, rfl⟩
      rw [← hE9] at oti1 hD9
      obtain ⟨c9, hc9⟩ : ∃ c9 : Int, c9 = c' + 1 + 1 := ⟨_, rfl⟩
      have hD9 : DiskAt K H9 a0 f0 m0 E9 c9 .non := by rw [hc9]; exact hD9
      clear hE9 hc9 hD8 kp8 dk1 g8
    case' refine_2 =>
      have h0' : Δ.sy n = 0 := by have := dF h0; omega
      obtain ⟨H9, rfl⟩ : ∃ H9, H9 = H7 := ⟨_, rfl⟩
      obtain ⟨E9, rfl⟩ : ∃ E9, E9 = E := ⟨_, rfl⟩
      obtain ⟨c9, rfl⟩ : ∃ c9, c9 = c' := ⟨_, rfl⟩
      have oti1 : Oti Δ done n (Δ.sy n) 0 E9 := by rw [h0']; exact oti_0 oto
      have kp9 := kp7
      have hD9 := hE
    all_goals
      clear h0 h0' oto
      refine ⟨sz (by omega), ?_⟩
      rw [e2]
      refine for_w (wk_str _) (fun j σ H' => (∃ E c', Kp [a0, f0, m0] H6 H' ∧ DiskAt K H' a0 f0 m0 E c' .non ∧ Oti Δ done n (Δ.sy n) j E) ∧ ∃ v5 : Option V, σ = [some (.ref o), some (.ref a0), some (.str n), some (.str (Δ.txt n)), some (.int (Δ.sy n : Nat)), v5])
        ⟨⟨E9, c9, kp9, hD9, oti1⟩, _, rfl⟩ (fun _ _ _ _ => trivial) ?_ ?_
      · rintro j x σ G hx ⟨⟨F, cF, kpF, hF, otiF⟩, v5', rfl⟩
        obtain ⟨ch, hc, rfl⟩ := signsV_at hx
        rw [cps_S, List.getElem?_drop] at hc
        have chm : ch ∈ (Δ.txt n).cps.toList := List.mem_of_getElem? hc
        obtain ⟨_, CF, dxF, _, _, hclF, gF, _⟩ := id hF
        obtain rfl := hclF.one T.a_Disk
        refine ⟨_, _, gF, rfl, ?_⟩
        refine ⟨a0, f0, m0, F, cF, none, 100, rfl, hF, oti_dok ok.ok k1 dn dl hin (by omega) no otiF, by omega, .inr (.inr ⟨n, S [ch], rfl, rfl, nm, mk_S (fun x hx => by rw [List.mem_singleton.mp hx]; exact m2 ch chm) (by show 1 ≤ 1; decide), by rw [length_S]; show 1 ≤ 3000; decide, .inr ⟨by simp, fun H8 kp8 hD8 => ?_⟩⟩)⟩
        exact ⟨⟨_, _, kpF.trans kp8, hD8, oti_step no otiF hc⟩, _, rfl⟩
      · rintro σ G ⟨⟨F, cF, kpF, hF, otiF⟩, v5', rfl⟩
        rw [signsV_len, length_S, List.length_drop, len_cps] at otiF
        exact ⟨⟨F, cF, kpF, hF, oti_end otiF (by omega) m1⟩, _, _, _, _, rfl⟩
  · rintro σ H7 ⟨⟨E, c', kp7, hE, oto⟩, v2, v3, v4, v5, rfl⟩
    rw [List.length_map, show ys.reverse.take ys.length = ys.reverse by rw [← List.length_reverse, List.take_length]] at oto
    have rl : ys.reverse.length ≤ 50 := by rw [List.length_reverse]; exact yl
    have nz : ("zz" : Str) ∉ E.names := by rw [oto.names]; exact fun z => zz_pool (ok.pl _ (rin _ z))
    obtain ⟨_, C, dx, kf, km, hcl, g1, _⟩ := id hE
    obtain rfl := hcl.one T.a_Disk
    refine ⟨_, _, g1, rfl, ?_⟩
    refine ⟨a0, f0, m0, E, c', none, 100, rfl, hE, oto_dok ok.ok k1 rin rl oto, by omega, .inr (.inr ⟨"zz", "x", rfl, rfl, good_nm "zz" (by decide), (text_mk "x" (by decide)).1, by decide, .inr ⟨by simp, fun H8 kp8 hD8 => ?_⟩⟩)⟩
    obtain ⟨_, C8, dx8, _, _, hcl8, g8, _⟩ := id hD8
    obtain rfl := hcl8.one T.a_Disk
    refine ⟨_, _, g8, rfl, ?_⟩
    refine ⟨a0, f0, m0, _, _, none, rfl, hD8, .inr (.inr ⟨"zz", rfl, good_nm "zz" (by decide), put_mem.mpr (.inl rfl), .inr ⟨by simp, fun H9 kp9 hD9 => ?_⟩⟩)⟩
    have en : ((E.put "zz" (E.tx "zz" ++ "x") (E.mt "zz")).drop "zz").names = ys.reverse := by
      show ((if ("zz" : Str) ∈ E.names then E.names else E.names ++ [("zz" : Str)]).filter fun j : Str => decide (j ≠ "zz")) = _
      rw [if_neg nz, List.filter_append, show (E.names.filter fun j : Str => decide (j ≠ "zz")) = E.names from List.filter_eq_self.mpr (fun a ha => decide_eq_true (p := a ≠ "zz") fun z => nz (by rw [← z]; exact ha)), oto.names]
      show ys.reverse ++ ([("zz" : Str)].filter fun j : Str => decide (j ≠ "zz")) = _
      rw [show ([("zz" : Str)].filter fun j : Str => decide (j ≠ "zz")) = [] by decide, List.append_nil]
    refine q a0 f0 m0 _ _ H9 ha0 ff fm (keepS ((kp7.trans kp8).trans kp9)) hD9 (by rw [en]; exact ys.reverse_perm.trans pm) fun n hn => ?_
    have hr : n ∈ ys.reverse := List.mem_reverse.mpr (pm.mem_iff.mpr hn)
    have nz2 : n ≠ "zz" := fun z => zz_pool (z ▸ ok.pl n hn)
    show (if n = "zz" then _ else E.txt n) = _ ∧ (if n = "zz" then _ else E.sy n) = _
    rw [if_neg nz2, if_neg nz2]
    exact oto.old n hr

/-! ### Disk___eq__(self, other), level 1 -/
abbrev s_Disk___eq__ : Stmt := (clsB (top 19)).getD 11 (.Pass ⟨0, 0, 0, 0⟩)
abbrev N_Disk___eq__ : List Str := ["self", "other"]
theorem sc_Disk___eq__ : FnScope N_Disk___eq__ ["self", "other"] (defScope s_Disk___eq__) := ⟨rfl, rfl, rfl, by decide +kernel, rfl, by decide +kernel, by decide +kernel⟩
theorem ok_Disk___eq__ (T : Txt K mg e_PowerCut e_InvalidName e_InvalidText e_NoFile e_InvalidKeeps e_InvalidCount e_QueueError e_Disk) (D : Dm K e_Disk "__eq__" "Disk.__eq__" s_Disk___eq__ ["self", "other"]) : Mt P w K mg base CX0 1 e_Disk "__eq__" ["self", "other"] (sp_Disk___eq__ K) := by
  refine mt2 D sc_Disk___eq__ fun f cdv A outer s H a_self a_other Q E hr h => ⟨_, (pss_one (ps_ret (pe_andZ (pe_callB (k_isO K T.i_Disk) (by rfl) T.n_isinstance bt_isinstance (pa_cons (pz 1) (pa_cons (pe_glob (v := .ref e_Disk) (by rfl) T.g_Disk rfl) pa_nil))) (pe_andZ (pe_cmpR (k_eqDD K hr.units) (pe_fdC T.k_Disk T.f_Disk_files (pz 0)) (pe_fdC T.k_Disk T.f_Disk_files (pz 1)) (nomark _)) (pe_one (pe_cmpR (k_eqDD K hr.units) (pe_fdC T.k_Disk T.f_Disk_marks (pz 0)) (pe_fdC T.k_Disk T.f_Disk_marks (pz 1)) (nomark _))))))), ?_⟩
  obtain ⟨a, f, m, Δ, c, lf, rfl, hD, nd, h⟩ := h
  obtain ⟨nfm, C, dx, kf, km, hc, h1, h2, h3, t1, t2⟩ := id hD
  obtain rfl := hc.one T.a_Disk
  rcases h with ⟨t, hk, q⟩ | ⟨a2, f2, m2, Δ2, c2, lf2, rfl, hD2, q⟩
  · refine ⟨rfl, .inl ⟨t, hk, ?_⟩⟩
    exact q
  · obtain ⟨_, C2, dx2, kf2, km2, hc2, g1, g2, g3, u1, u2⟩ := id hD2
    obtain rfl := hc2.one T.a_Disk
    refine ⟨rfl, .inr ⟨a2, _, _, rfl, g1, ?_⟩⟩
    refine ⟨_, _, _, h1, rfl, ?_⟩
    refine ⟨_, _, _, g1, rfl, ?_⟩
    have e1 : (kf.length == kf2.length) = decide (Δ.names.length = Δ2.names.length) := by rw [t1.len, u1.len]; rfl
    have e2 : (km.length == km2.length) = decide (Δ.names.length = Δ2.names.length) := by rw [t2.len, u2.len]; rfl
    refine ⟨kf, kf2, _, h2, g2, fun _ => hits_tb (K := K) (H := H) (E := EqB K H) u1 (fun n => decide (Δ.txt n = Δ2.txt n)) (fun n _ => .inl ⟨rfl, rfl, eqS _ _⟩) t1.1 (tb_items t1 nd), ?_⟩
    rw [e1]
    cases z1 : (decide (Δ.names.length = Δ2.names.length) && (Δ.names.all fun n => decide (n ∈ Δ2.names) && decide (Δ.txt n = Δ2.txt n))) with
    | false =>
      have e : sameD Δ Δ2 = false := by
        unfold sameD
        rw [z1]
        rfl
      rw [e] at q
      exact q
    | true =>
      refine ⟨_, _, _, h1, rfl, ?_⟩
      refine ⟨_, _, _, g1, rfl, ?_⟩
      refine ⟨km, km2, _, h3, g3, fun _ => hits_tb (K := K) (H := H) (E := EqB K H) u2 (fun n => decide (Δ.sy n = Δ2.sy n)) (fun n _ => .inl ⟨rfl, rfl, ?_⟩) t2.1 (tb_items t2 nd), ?_⟩
      · rw [Bool.eq_iff_iff, decide_eq_true_iff]
        show _ ↔ (((Δ.sy n : Nat) : Int) == ((Δ2.sy n : Nat) : Int)) = true
        rw [beq_iff_eq]
        omega
      rw [e2]
      have e : sameD Δ Δ2 = (decide (Δ.names.length = Δ2.names.length) && (Δ.names.all fun n => decide (n ∈ Δ2.names) && decide (Δ.sy n = Δ2.sy n))) := by
        unfold sameD
        rw [z1, Bool.true_and]
        rw [Bool.and_eq_true] at z1
        rw [z1.1, Bool.true_and]
      rw [e] at q
      exact q

/-! ### _law_equal_right(_law_disks, _law_owns), level 6 -/
abbrev s__law_equal_right : Stmt := top 33
abbrev N__law_equal_right : List Str := ["_law_disks", "_law_owns", "_law_others", "_law_one", "_law_two", "_law_due_here", "_law_odd", "_law_own_here"]
theorem sc__law_equal_right : FnScope N__law_equal_right ["_law_disks", "_law_owns"] (defScope s__law_equal_right) := ⟨rfl, rfl, rfl, by decide +kernel, rfl, by decide +kernel, by decide +kernel⟩
theorem ok__law_equal_right (T : Txt K mg e_PowerCut e_InvalidName e_InvalidText e_NoFile e_InvalidKeeps e_InvalidCount e_QueueError e_Disk) (C__law_otherwise : Ct P w K mg base CX0 5 "_law_otherwise" ["_law_own_here"] (sp__law_otherwise K)) (OE_Disk : OwnE P w K mg base 1 e_Disk (sp_Disk___eq__ K)) (D : Df K mg "_law_equal_right" s__law_equal_right ["_law_disks", "_law_owns"]) : Cg P w K mg base CX0 6 "_law_equal_right" ["_law_disks", "_law_owns"] (sp__law_equal_right K) := by
  refine cg2 D sc__law_equal_right fun f cdv A outer s H a_disks a_owns Q E hr h => ⟨_, (pss_cons (ps_setLcz (i := 2) (own := [("_law_own_here", 7)]) (by rfl) sc__law_equal_right.nd rfl rfl (sw_true rfl rfl rfl (by decide +kernel)) (pi_lzK K (pz 1)) (blkOk_by (own := [("_law_own_here", 7)]) (N := N__law_equal_right) (sc := defScope s__law_equal_right) (by decide +kernel)) (fun _ _ _ _ _ => (pg_name (i := 7) sc__law_equal_right.nd rfl (Or.inl rfl))) (fun _ _ _ _ _ => pts_nil) (fun _ _ _ _ _ => (pe_cl C__law_otherwise (hr.room.mono (by decide)) pass0 (pa_cons (pz 7) pa_nil))))
    (pss_cons (ps_for PassesOwn.never rfl (pi_rngZ (by rfl) T.n_range (pa_cons pe_int pa_nil)) (pg_name (i := 3) sc__law_equal_right.nd rfl (Or.inl rfl)) 
      (pss_one (ps_for PassesOwn.never rfl (pi_rngZ (by rfl) T.n_range (pa_cons pe_int pa_nil)) (pg_name (i := 4) sc__law_equal_right.nd rfl (Or.inl rfl)) 
        (pss_cons (ps_set (i := 5) sc__law_equal_right.nd rfl (Or.inl rfl) (pe_cmpR (k_eqDD K hr.room.units) (pe_dg (hu_of hr.room) (pe_ix (k_ix K) (pz 1) (pz 3) (fun _ _ => rfl)) pe_str (fun _ _ => rfl)) (pe_dg (hu_of hr.room) (pe_ix (k_ix K) (pz 1) (pz 4) (fun _ _ => rfl)) pe_str (fun _ _ => rfl)) (nomark _)))
        (pss_one (ps_if (PW.pt (pw_or (pt_cmpZ (k_ne K hr.room.units) (pe_callB (c_repr hr) (by rfl) T.n_repr bt_repr (pa_cons (pe_cmpR (k_ownEq K OE_Disk (hr.room.mono (by decide))) (pe_ix (k_ix K) (pz 0) (pz 3) (fun _ _ => rfl)) (pe_ix (k_ix K) (pz 0) (pz 4) (fun _ _ => rfl)) (nomark _)) pa_nil)) (pe_callB (c_repr hr) (by rfl) T.n_repr bt_repr (pa_cons (pz 5) pa_nil)) (nomark _)) (pw_or1 (pt_cmpZ (k_ne K hr.room.units) (pe_callB (c_repr hr) (by rfl) T.n_repr bt_repr (pa_cons (pe_cmpR (k_ownEq K OE_Disk (hr.room.mono (by decide))) (pe_ix (k_ix K) (pz 2) (pz 3) (fun _ _ => rfl)) (pe_ix (k_ix K) (pz 0) (pz 4) (fun _ _ => rfl)) (nomark _)) pa_nil)) (pe_callB (c_repr hr) (by rfl) T.n_repr bt_repr (pa_cons (pz 5) pa_nil)) (nomark _))))) 
          (pss_one (ps_ret pe_bl)) pss_nil))))))
    (pss_cons (ps_set (i := 6) sc__law_equal_right.nd rfl (Or.inl rfl) (pe_lz (pa_cons pe_non (pa_cons pe_int (pa_cons pe_str (pa_cons (pe_lz pa_nil) (pa_cons (pe_callTy (k_dict K rfl) (by rfl) T.n_dict bt_dict (pa_cons (pe_lz pa_nil) pa_nil)) (pa_cons (pe_dg (hu_of hr.room) (pe_ix (k_ix K) (pz 1) pe_int (fun _ _ => rfl)) pe_str (fun _ _ => rfl)) pa_nil))))))))
    (pss_one (ps_ret (pe_cmpR (k_eq K hr.room.units) (pe_lcz (own := [("_law_one", 3)]) (by rfl) sc__law_equal_right.nd (pi_lzK K (pz 6)) (blkOk_by (own := [("_law_one", 3)]) (N := N__law_equal_right) (sc := defScope s__law_equal_right) (by decide +kernel)) (fun _ _ _ _ _ => (pg_name (i := 3) sc__law_equal_right.nd rfl (Or.inl rfl))) (fun _ _ _ _ _ => (pts_one (PW.pt (pw_or (pt_cmpZ (k_ownEq K OE_Disk (hr.room.mono (by decide))) (pe_ix (k_ix K) (pz 0) pe_int (fun _ _ => rfl)) (pz 3) (nomark _)) (pw_or1 (pt_not (pt_cmpZ (k_ownNe K OE_Disk (hr.room.mono (by decide))) (pe_ix (k_ix K) (pz 0) pe_int (fun _ _ => rfl)) (pz 3) (nomark _)))))))) (fun _ _ _ _ _ => (pz 3))) (pe_lz pa_nil) (nomark _))))))), ?_⟩
  obtain ⟨d, o, s, k, rfl, rfl, hd, ho, sd, k1, q⟩ := h
  refine ⟨⟨_, SqL.of ho⟩, fun D hD => lc_w (wk_list (three fun i => (s i).o)) (by show 3 ≤ 1000000; decide) (fun i acc H' => Same H H' ∧ ∃ g : Nat → Addr, acc = (List.range i).map (fun j => V.ref (g j)) ∧ ∀ j < i, OthAt K H' (g j) (s j).D) (fun H' n' => ⟨n'.same, fun _ => d, rfl, fun j hj => by omega⟩) (fun i acc H' z => SqL.of (z.1 _ _ ho))
    (fun i acc H' z => by obtain ⟨_, g, e, _⟩ := z; rw [e, List.length_map, List.length_range]; omega) ?_ ?_⟩
  · rintro i x acc H' hx hDa ⟨s', g, rfl, og⟩
    obtain ⟨hi, rfl⟩ := three_get (g := fun i => (s i).o) hx
    obtain ⟨hDk, hO, ok, _⟩ := (sd i hi).same s'
    refine ⟨rfl, ?_⟩
    refine ⟨(s i).o, (s i).L, (s i).D, (s i).c, (s i).l, k, rfl, hO, ok, k1, fun a2 f2 m2 D2 c2 H2 fa ff fm s2 hD2 pm ag => ?_⟩
    refine ⟨s2 _ _ hDa, fun H5 w5 => ⟨(s'.trans s2).wr hD w5, fun j => if j = i then a2 else g j, ?_, fun j hj => ?_⟩⟩
    · rw [List.range_succ, List.map_append]
      congr 1
      · refine List.map_congr_left fun j hj => ?_
        have := List.mem_range.mp hj
        show _ = V.ref (if j = i then a2 else g j)
        rw [if_neg (by omega)]
      · show [V.ref a2] = [V.ref (if i = i then a2 else g i)]
        rw [if_pos rfl]
    · have kD : Kp [D] H2 H5 := Kp.wr Kp.refl (by simp) w5
      show OthAt K H5 (if j = i then a2 else g j) (s j).D
      by_cases z : j = i
      · subst z
        rw [if_pos rfl]
        exact ⟨f2, m2, D2, c2, hD2.list (s2 _ _ hDa) kD, pm, ag⟩
      · rw [if_neg z]
        obtain ⟨f3, m3, E3, c3, h3, r3⟩ := og j (by omega)
        exact ⟨f3, m3, E3, c3, (h3.same s2).list (s2 _ _ hDa) kD, r3⟩
  · rintro acc H4 _ hDa ⟨s4, g, rfl, og⟩
    have hDa : H4 D = some (.lst (three g)) := hDa
    have og : ∀ j < 3, OthAt K H4 (g j) (s j).D := og
    refine ⟨by decide, by decide, for_w (wk_rng 0 _) (fun i σ H' => Same H4 H' ∧ ∃ v3 v4 v5 v6 : Option V, σ = [some (.ref d), some (.ref o), some (.ref D), v3, v4, v5, v6, none]) ⟨Same.refl _, _, _, _, _, rfl⟩ (fun _ _ _ _ => trivial) ?_ ?_⟩
    · rintro i x σ H5 hx ⟨s5, v3, v4, v5, v6, rfl⟩
      obtain ⟨hi, rfl⟩ := rngV_at hx
      have hi : i < 3 := hi
      refine ⟨by decide, by decide, for_w (wk_rng 0 _) (fun j σ H' => Same H4 H' ∧ ∃ v4 v5 v6 : Option V, σ = [some (.ref d), some (.ref o), some (.ref D), some (.int (0 + (i : Nat))), v4, v5, v6, none]) ⟨s5, _, _, _, rfl⟩ (fun _ _ _ _ => trivial) ?_ ?_⟩
      · rintro j x σ H6 hx ⟨s6, v4, v5, v6, rfl⟩
        obtain ⟨hj, rfl⟩ := rngV_at hx
        have hj : j < 3 := hj
        have s06 := s4.trans s6
        obtain ⟨d1, o1, ok1, _⟩ := (sd i hi).same s06
        obtain ⟨d2, o2, ok2, _⟩ := (sd j hj).same s06
        refine ⟨_, _, .inl (SqL.of (s06 _ _ ho)), three_at (g := fun i => (s i).o) hi, ?_⟩
        refine ⟨⟨_, o1.1⟩, ?_⟩
        refine ⟨_, Sum.inr "files", _, o1.1, rfl, own_f, ?_⟩
        refine ⟨_, _, .inl (SqL.of (s06 _ _ ho)), three_at (g := fun i => (s i).o) hj, ?_⟩
        refine ⟨⟨_, o2.1⟩, ?_⟩
        refine ⟨_, Sum.inr "files", _, o2.1, rfl, own_f, ?_⟩
        obtain ⟨ks, ls, r, e1, e2, hits, er⟩ := files_eq (K := K) o1.2.1 o2.2.1 ok1.nd ok1.mkt ok2.mkt
        refine ⟨ks, ls, r, e1, e2, fun _ => hits, ?_⟩
        rw [er]
        obtain ⟨bv, hbv⟩ : ∃ bv, sameD (s i).D (s j).D = bv := ⟨_, rfl⟩
        rw [hbv]
        obtain ⟨z1, z2, z3⟩ := shB bv
        obtain ⟨_, C, dx, _, _, hc, g1, _⟩ := id d1
        obtain rfl := hc.one T.a_Disk
        obtain ⟨_, C2, dx2, _, _, hc2, g2, _⟩ := id d2
        obtain rfl := hc2.one T.a_Disk
        refine ⟨_, _, .inl (SqL.of (s06 _ _ hd)), three_at (g := fun i => (s i).a) hi, ?_⟩
        refine ⟨_, _, .inl (SqL.of (s06 _ _ hd)), three_at (g := fun i => (s i).a) hj, ?_⟩
        refine ⟨⟨_, _, g1⟩, .inr ⟨_, _, _, rfl, g2⟩, ?_⟩
        refine ⟨(s i).a, (s i).f, (s i).m, (s i).D, (s i).c, _, rfl, d1, ok1.nd, .inr ⟨(s j).a, (s j).f, (s j).m, (s j).D, (s j).c, _, rfl, d2, ?_⟩⟩
        rw [hbv]
        refine ⟨bv, rfl, ?_⟩
        rw [Bool.false_xor]
        refine ⟨false, .bool bv, .bl bv, (fun z => by cases z), z1, z2, z3, ?_⟩
        refine ⟨false, .bool bv, .bl bv, (fun z => by cases z), z1, z2, z3, ?_⟩
        refine iteN (nself _) ?_
        obtain ⟨f3, m3, E3, c3, d3, pm3, ag3⟩ := og i hi
        have d3 := d3.same s6
        obtain ⟨_, C3, dx3, _, _, hc3, g3, _⟩ := id d3
        obtain rfl := hc3.one T.a_Disk
        have hE : sameD E3 (s j).D = bv := (same_of pm3 ag3).trans hbv
        refine ⟨_, _, .inl (SqL.of (s6 _ _ hDa)), three_at hi, ?_⟩
        refine ⟨_, _, .inl (SqL.of (s06 _ _ hd)), three_at (g := fun i => (s i).a) hj, ?_⟩
        refine ⟨⟨_, _, g3⟩, .inr ⟨_, _, _, rfl, g2⟩, ?_⟩
        refine ⟨g i, f3, m3, E3, c3, _, rfl, d3, pm3.nodup_iff.mpr ok1.nd, .inr ⟨(s j).a, (s j).f, (s j).m, (s j).D, (s j).c, _, rfl, d2, ?_⟩⟩
        rw [hE]
        refine ⟨bv, rfl, ?_⟩
        rw [Bool.false_xor]
        refine ⟨false, .bool bv, .bl bv, (fun z => by cases z), z1, z2, z3, ?_⟩
        refine ⟨false, .bool bv, .bl bv, (fun z => by cases z), z1, z2, z3, ?_⟩
        refine iteN (nself _) ?_
        exact ⟨s6, _, _, _, rfl⟩
      · rintro σ H6 ⟨s6, v4, v5, v6, rfl⟩
        exact ⟨s6, _, _, _, _, rfl⟩
    · rintro σ H5 ⟨s5, v3, v4, v5, v6, rfl⟩
      have s05 := s4.trans s5
      obtain ⟨d0, o0, ok0, _⟩ := (sd 0 (by decide)).same s05
      refine ⟨by show 0 ≤ sizeLine; decide, fun p1 H6 n6 => ?_⟩
      refine ⟨by show 0 ≤ sizeLine; decide, fun p2 H7 n7 => ?_⟩
      refine .inl ⟨[], [], SqL.of n7.here, .nil, fun p3 H8 n8 => ?_⟩
      have s58 := (n6.same.trans n7.same).trans n8.same
      have s08 := s05.trans s58
      refine ⟨_, _, .inl (SqL.of (s08 _ _ ho)), rfl, ?_⟩
      refine ⟨⟨_, s58 _ _ o0.1⟩, ?_⟩
      refine ⟨_, Sum.inr "files", _, s58 _ _ o0.1, rfl, own_f, ?_⟩
      refine ⟨by show 6 ≤ sizeLine; decide, fun p4 H9 n9 => ?_⟩
      have s09 := s08.trans n9.same
      obtain ⟨kvs, hkv⟩ := o0.2.1.dk
      have s59 := s58.trans n9.same
      refine ⟨⟨_, SqL.of n9.here⟩, fun D2 hD2 => lc_w (wk_list [V.non, .int 0, .str "a", .ref p1, .ref p3, .ref (s 0).L]) (by show 6 ≤ 1000000; decide) (fun i acc H' => Same H9 H' ∧ acc = []) (fun H' n' => ⟨n'.same, rfl⟩) (fun i acc H' z => SqL.of (z.1 _ _ n9.here))
        (fun i acc H' z => by rw [z.2]; exact Nat.zero_le _) ?_ ?_⟩
      · rintro i x acc H' hx hDa2 ⟨s', rfl⟩
        have kind : ∃ t, KindV K H' x t := by
          have hm := List.mem_of_getElem? hx
          simp only [List.mem_cons, List.not_mem_nil, or_false] at hm
          rcases hm with rfl | rfl | rfl | rfl | rfl | rfl
          · exact ⟨_, rfl⟩
          · exact ⟨_, rfl⟩
          · exact ⟨_, rfl⟩
          · exact ⟨_, .inl ⟨rfl, _, SqL.of (s' _ _ (n9.keep (n8.keep (n7.keep n6.here))))⟩⟩
          · exact ⟨_, .inr (.inr ⟨rfl, .inl ⟨_, s' _ _ (n9.keep n8.here)⟩⟩)⟩
          · exact ⟨_, .inr (.inr ⟨rfl, .inl ⟨_, s' _ _ (s59 _ _ hkv)⟩⟩)⟩
        obtain ⟨t, hk⟩ := kind
        have d0' := (d0.same s59).same s'
        obtain ⟨_, C, dx, _, _, hc, g1, _⟩ := id d0'
        obtain rfl := hc.one T.a_Disk
        refine ⟨rfl, ?_⟩
        refine ⟨_, _, .inl (SqL.of ((s09.trans s') _ _ hd)), rfl, ?_⟩
        refine ⟨⟨_, _, g1⟩, .inl ⟨t, hk⟩, ?_⟩
        refine ⟨(s 0).a, (s 0).f, (s 0).m, (s 0).D, (s 0).c, _, rfl, d0', ok0.nd, .inl ⟨t, hk, ?_⟩⟩
        refine ⟨false, rfl, ?_⟩
        refine ⟨_, _, .inl (SqL.of ((s09.trans s') _ _ hd)), rfl, ?_⟩
        refine ⟨⟨_, _, g1⟩, .inl ⟨t, hk⟩, ?_⟩
        refine ⟨(s 0).a, (s 0).f, (s 0).m, (s 0).D, (s 0).c, _, rfl, d0', ok0.nd, .inl ⟨t, hk, ?_⟩⟩
        refine ⟨false, rfl, ?_⟩
        exact ⟨hDa2, s', rfl⟩
      · rintro acc H10 _ hDa2 ⟨s10, rfl⟩
        refine ⟨by show 0 ≤ sizeLine; decide, fun p5 H11 n11 => ?_⟩
        refine ⟨.list [], .list [], .lst (SqL.of (n11.keep hDa2)) .nil, .lst (SqL.of n11.here) .nil, rfl, rfl, ?_⟩
        exact q H11 ((s09.trans s10).trans n11.same)

/-! ### Disk_copy(self), level 3 -/
abbrev s_Disk_copy : Stmt := (clsB (top 19)).getD 10 (.Pass ⟨0, 0, 0, 0⟩)
abbrev N_Disk_copy : List Str := ["self", "other"]
theorem sc_Disk_copy : FnScope N_Disk_copy ["self"] (defScope s_Disk_copy) := ⟨rfl, rfl, rfl, by decide +kernel, rfl, by decide +kernel, by decide +kernel⟩
theorem ok_Disk_copy (T : Txt K mg e_PowerCut e_InvalidName e_InvalidText e_NoFile e_InvalidKeeps e_InvalidCount e_QueueError e_Disk) (N_Disk : Kn P w K mg base 1 "Disk" e_Disk (sp_Disk___init__ K)) (D : Dm K e_Disk "copy" "Disk.copy" s_Disk_copy ["self"]) : Mt P w K mg base CX0 3 e_Disk "copy" ["self"] (sp_Disk_copy K) := by
  refine mt1 D sc_Disk_copy fun f cdv A outer s H a_self Q E hr h => ⟨_, (pss_cons (ps_set (i := 1) sc_Disk_copy.nd rfl (Or.inl rfl) (pe_new0 N_Disk (hr.mono (by decide))))
    (pss_cons (ps_fdC T.k_Disk T.f_Disk_files (pz 1) (pe_callTy (k_dict K rfl) (by rfl) T.n_dict bt_dict (pa_cons (pe_fdC T.k_Disk T.f_Disk_files (pz 0)) pa_nil)))
    (pss_cons (ps_fdC T.k_Disk T.f_Disk_marks (pz 1) (pe_callTy (k_dict K rfl) (by rfl) T.n_dict bt_dict (pa_cons (pe_fdC T.k_Disk T.f_Disk_marks (pz 0)) pa_nil)))
    (pss_cons (ps_fdC T.k_Disk T.f_Disk_calls (pz 1) (pe_fdC T.k_Disk T.f_Disk_calls (pz 0)))
    (pss_cons (ps_fdC T.k_Disk T.f_Disk_left (pz 1) (pe_fdC T.k_Disk T.f_Disk_left (pz 0)))
    (pss_one (ps_ret (pz 1)))))))), ?_⟩
  obtain ⟨a, f, m, Δ, c, lf, rfl, hD, q⟩ := h
  obtain ⟨nfm, C, dx, kf, km, hc, h1, h2, h3, t1, t2⟩ := id hD
  obtain rfl := hc.one T.a_Disk
  refine fun a0 x0 ha0 hx0 hn0 => ?_
  have n0 := nw (o := .own a0) hx0
  have ha0' : (upd H x0 (.own a0)) a0 = none := by rw [upd_ne hn0.symm]; exact ha0
  have n0' := nw (o := .ins C x0 []) ha0'
  generalize upd (upd H x0 (.own a0)) a0 (.ins C x0 []) = H3 at n0' ⊢
  have s3 := n0.same.trans n0'.same
  refine ⟨a0, C, x0, rfl, T.a_Disk, n0'.here, fun f0 m0 H4 ff0 fm0 kp4 hD0 => ⟨rfl, ?_⟩⟩
  have s4 : Same H H4 := fun p o e => kp4.at (by rw [List.mem_singleton]; exact ne_of_none e ha0) (s3 p o e)
  obtain ⟨_, C0, dx0, _, _, hc0, g1, _⟩ := id hD0
  obtain rfl := hc0.one T.a_Disk
  refine ⟨_, _, _, s4 _ _ h1, rfl, ?_⟩
  refine .inr ⟨kf, s4 _ _ h2, fun p1 H5 n5 => ?_⟩
  refine ⟨_, _, n5.keep g1, by show 4 < 1000; decide, fun H6 w6 => ?_⟩
  have s6 : Same H H6 := (s4.trans n5.same).wr ha0 w6
  refine ⟨_, _, _, s6 _ _ h1, rfl, ?_⟩
  refine .inr ⟨km, s6 _ _ h3, fun p2 H7 n7 => ?_⟩
  refine ⟨_, _, n7.keep w6.here, by show 4 < 1000; decide, fun H8 w8 => ?_⟩
  have s8 : Same H H8 := (s6.trans n7.same).wr ha0 w8
  refine ⟨_, _, _, s8 _ _ h1, rfl, ?_⟩
  refine ⟨_, _, w8.here, by show 4 < 1000; decide, fun H9 w9 => ?_⟩
  have s9 : Same H H9 := s8.wr ha0 w9
  refine ⟨_, _, _, s9 _ _ h1, rfl, ?_⟩
  refine ⟨_, _, w9.here, by show 4 < 1000; decide, fun H10 w10 => ?_⟩
  have s10 : Same H H10 := s9.wr ha0 w10
  have np1 : p1 ≠ a0 := (ne_of_none g1 n5.fresh).symm
  have np2 : p2 ≠ a0 := (ne_of_none w6.here n7.fresh).symm
  have k1 : H6 p1 = some (.dK kf) := w6.keep np1 n5.here
  have n12 : p1 ≠ p2 := ne_of_none k1 n7.fresh
  refine q a0 p1 p2 H10 ha0 (s4.free n5.fresh) (s6.free n7.fresh) s10 ⟨n12, C0, dx0, kf, km, hc0, w10.here, ?_, ?_, t1, t2⟩
  · exact w10.keep np1 (w9.keep np1 (w8.keep np1 (n7.keep k1)))
  · exact w10.keep np2 (w9.keep np2 (w8.keep np2 n7.here))

/-! ### law(_law_script), level 7 -/
abbrev s_law : Stmt := top 34
abbrev N_law : List Str := ["_law_script", "_law_k", "_law_box_here", "_law_disks", "_law_owns", "_law_turn", "_law_at", "_law_word", "_law_first", "_law_second", "_law_due_here", "_law_told_here", "_law_other"]
theorem sc_law : FnScope N_law ["_law_script"] (defScope s_law) := ⟨rfl, rfl, rfl, by decide +kernel, rfl, by decide +kernel, by decide +kernel⟩
theorem ok_law (T : Txt K mg e_PowerCut e_InvalidName e_InvalidText e_NoFile e_InvalidKeeps e_InvalidCount e_QueueError e_Disk) (C__law_box : Ct P w K mg base CX0 1 "_law_box" ["_law_great"] (sp__law_box K)) (C__law_cell : Ct P w K mg base CX0 1 "_law_cell" ["_law_script", "_law_k"] (sp__law_cell K)) (C__law_own : Ct P w K mg base CX0 1 "_law_own" [] (sp__law_own K)) (C__law_take : Ct P w K mg base CX0 1 "_law_take" ["_law_box_here", "_law_many"] (sp__law_take K)) (C__law_call : Ct P w K mg base CX0 2 "_law_call" ["_law_box_here", "_law_own_here"] (sp__law_call K)) (C__law_due : Cg P w K mg base CX0 2 "_law_due" ["_law_own_here", "_law_word", "_law_first", "_law_second"] (sp__law_due K)) (C__law_told : Ct P w K mg base CX0 5 "_law_told" ["_law_disk", "_law_word", "_law_first", "_law_second"] (sp__law_told K)) (C__law_twin : Ct P w K mg base CX0 1 "_law_twin" ["_law_own_here"] (sp__law_twin K)) (C__law_alike : Cg P w K mg base CX0 5 "_law_alike" ["_law_disk", "_law_own_here"] (sp__law_alike K)) (C__law_equal_right : Cg P w K mg base CX0 6 "_law_equal_right" ["_law_disks", "_law_owns"] (sp__law_equal_right K)) (M_Disk_copy : Mt P w K mg base CX0 3 e_Disk "copy" ["self"] (sp_Disk_copy K)) (N_Disk : Kn P w K mg base 1 "Disk" e_Disk (sp_Disk___init__ K)) (D : Df K mg "law" s_law ["_law_script"]) : Cg P w K mg base CX0 7 "law" ["_law_script"] (sp_law K) := by
  refine cg1 D sc_law fun f cdv A outer s H a_script Q E hr h => ⟨_, (pss_cons (ps_for PassesOwn.never rfl (pi_rngZ (by rfl) T.n_range (pa_cons (pe_callB (c_max rfl) (by rfl) T.n_max bt_max (pa_cons pe_int (pa_cons (pe_callB (c_min rfl) (by rfl) T.n_min bt_min (pa_cons pe_int (pa_cons (pe_callB (k_len K) (by rfl) T.n_len bt_len (pa_cons (pz 0) pa_nil)) pa_nil))) pa_nil))) pa_nil)) (pg_name (i := 1) sc_law.nd rfl (Or.inl rfl)) 
      (pss_cons (ps_set (i := 2) sc_law.nd rfl (Or.inl rfl) (pe_cl C__law_box (hr.room.mono (by decide)) pass0 (pa_cons (pe_cl C__law_cell (hr.room.mono (by decide)) pass0 (pa_cons (pz 0) (pa_cons (pz 1) pa_nil))) pa_nil)))
      (pss_cons (ps_parZ (i := 3) (j := 4) (by rfl) sc_law.nd rfl rfl (by decide) rfl rfl (pa_cons (pe_lz (pa_cons (pe_new0 N_Disk (hr.room.mono (by decide))) (pa_cons (pe_new0 N_Disk (hr.room.mono (by decide))) (pa_cons (pe_new0 N_Disk (hr.room.mono (by decide))) pa_nil)))) (pa_cons (pe_lz (pa_cons (pe_cl0 C__law_own (hr.room.mono (by decide)) pass0) (pa_cons (pe_cl0 C__law_own (hr.room.mono (by decide)) pass0) (pa_cons (pe_cl0 C__law_own (hr.room.mono (by decide)) pass0) pa_nil)))) pa_nil)) (by rfl))
      (pss_one (ps_for PassesOwn.never rfl (pi_rngZ (by rfl) T.n_range (pa_cons pe_int pa_nil)) (pg_name (i := 5) sc_law.nd rfl (Or.inl rfl)) 
        (pss_cons (ps_set (i := 6) sc_law.nd rfl (Or.inl rfl) (pe_ix (k_ix K) (pe_lz (pa_cons pe_int (pa_cons pe_int (pa_cons pe_int (pa_cons pe_int pa_nil))))) (pe_cl C__law_take (hr.room.mono (by decide)) pass0 (pa_cons (pz 2) (pa_cons pe_int pa_nil))) (fun _ _ => rfl)))
        (pss_cons (ps_asg (pe_cl C__law_call (hr.room.mono (by decide)) pass0 (pa_cons (pz 2) (pa_cons (pe_ix (k_ix K) (pz 4) (pz 6) (fun _ _ => rfl)) pa_nil))) (pg_lzK K (by rfl) (pgs_cz (pg_name (i := 7) sc_law.nd rfl (Or.inl rfl)) (pgs_cz (pg_name (i := 8) sc_law.nd rfl (Or.inl rfl)) (pgs_cz (pg_name (i := 9) sc_law.nd rfl (Or.inl rfl)) pgs_nz)))))
        (pss_cons (ps_set (i := 10) sc_law.nd rfl (Or.inl rfl) (pe_cg C__law_due (hr.mono (by decide)) pass0 (pa_cons (pe_ix (k_ix K) (pz 4) (pz 6) (fun _ _ => rfl)) (pa_cons (pz 7) (pa_cons (pz 8) (pa_cons (pz 9) pa_nil))))))
        (pss_cons (ps_set (i := 11) sc_law.nd rfl (Or.inl rfl) (pe_cl C__law_told (hr.room.mono (by decide)) pass0 (pa_cons (pe_ix (k_ix K) (pz 3) (pz 6) (fun _ _ => rfl)) (pa_cons (pz 7) (pa_cons (pz 8) (pa_cons (pz 9) pa_nil))))))
        (pss_cons (ps_if (pt_cmpZ (k_ne K hr.room.units) (pe_callB (c_repr hr) (by rfl) T.n_repr bt_repr (pa_cons (pz 11) pa_nil)) (pe_callB (c_repr hr) (by rfl) T.n_repr bt_repr (pa_cons (pz 10) pa_nil)) (nomark _)) 
          (pss_one (ps_ret pe_bl)) pss_nil)
        (pss_cons (ps_if (PW.pt (pw_and (pt_cmpZ (k_in K) (pe_ix (k_ix K) (pz 11) pe_int (fun _ _ => rfl)) (pe_lz (pa_cons pe_str (pa_cons pe_str pa_nil))) (by rfl)) (pw_and1 (pt_trK K (pe_callB (k_isi K) (by rfl) T.n_isinstance bt_isinstance (pa_cons (pz 8) (pa_cons (pe_bltn (v := .ty "list") (by rfl) T.n_list bt_list rfl) pa_nil))))))) 
          (pss_cons (ps_expr (pe_mlK K PySem.F.slot_list_append PySem.F.type_list_append m_append (pz 8) (pa_cons pe_int pa_nil)))
          (pss_one (ps_if (pt_cmpZ (k_ne K hr.room.units) (pe_callB (c_repr hr) (by rfl) T.n_repr bt_repr (pa_cons (pz 11) pa_nil)) (pe_callB (c_repr hr) (by rfl) T.n_repr bt_repr (pa_cons (pz 10) pa_nil)) (nomark _)) 
            (pss_one (ps_ret pe_bl)) pss_nil))) pss_nil)
        (pss_cons (ps_if (pt_cmpZ (k_eq K hr.room.units) (pe_cl C__law_take (hr.room.mono (by decide)) pass0 (pa_cons (pz 2) (pa_cons pe_int pa_nil))) pe_int (nomark _)) 
          (pss_cons (ps_set (i := 12) sc_law.nd rfl (Or.inl rfl) (pe_op o_mod (pe_callTy c_int (by rfl) T.n_int bt_int (pa_cons (pe_op (k_add K) (pe_op (k_add K) (pz 6) pe_int) (pe_cl C__law_take (hr.room.mono (by decide)) pass0 (pa_cons (pz 2) (pa_cons pe_int pa_nil)))) pa_nil)) pe_int))
          (pss_one (ps_asg (pe_tz (pa_cons (pe_mtA0 M_Disk_copy (hr.room.mono (by decide)) at0 (pe_ix (k_ix K) (pz 3) (pz 6) (fun _ _ => rfl))) (pa_cons (pe_cl C__law_twin (hr.room.mono (by decide)) pass0 (pa_cons (pe_ix (k_ix K) (pz 4) (pz 6) (fun _ _ => rfl)) pa_nil)) pa_nil))) (pg_tzK K (by rfl) (pgs_cz (pg_sub (pz 3) (pz 12) s_list) (pgs_cz (pg_sub (pz 4) (pz 12) s_list) pgs_nz)))))) pss_nil)
        (pss_cons (ps_for PassesOwn.never rfl (pi_rngZ (by rfl) T.n_range (pa_cons pe_int pa_nil)) (pg_name (i := 12) sc_law.nd rfl (Or.inl rfl)) 
          (pss_one (ps_if (pt_not (pt_trK K (pe_cg C__law_alike (hr.mono (by decide)) pass0 (pa_cons (pe_ix (k_ix K) (pz 3) (pz 12) (fun _ _ => rfl)) (pa_cons (pe_ix (k_ix K) (pz 4) (pz 12) (fun _ _ => rfl)) pa_nil))))) 
            (pss_one (ps_ret pe_bl)) pss_nil)))
        (pss_one (ps_if (PW.pt (pw_and (pt_cmpZ (k_eq K hr.room.units) (pe_op o_mod (pe_callTy c_int (by rfl) T.n_int bt_int (pa_cons (pz 5) pa_nil)) pe_int) pe_int (nomark _)) (pw_and1 (pt_not (pt_trK K (pe_cg C__law_equal_right (hr.mono (by decide)) pass0 (pa_cons (pz 3) (pa_cons (pz 4) pa_nil)))))))) 
          (pss_one (ps_ret pe_bl)) pss_nil)))))))))))))))
    (pss_one (ps_ret pe_bl))), ?_⟩
  obtain ⟨a, ns, rfl, hS, hl, kq⟩ := h
  refine .inl ⟨_, .inl hS, ?_⟩
  rw [List.length_map]
  have rb : ∀ z : Int, (if (if (ns.length : Int) < 4 then (ns.length : Int) else 4) > 2 then (if (ns.length : Int) < 4 then (ns.length : Int) else 4) else 2) = z → 2 ≤ z ∧ z ≤ 4 := fun z e => by
    subst e
    split <;> split <;> omega
  generalize hz : (if (if (ns.length : Int) < 4 then (ns.length : Int) else 4) > 2 then (if (ns.length : Int) < 4 then (ns.length : Int) else 4) else 2) = z
  obtain ⟨z2, z4⟩ := rb z hz
  refine ⟨by omega, by omega, for_w (wk_rng 0 _) (fun i σ H' => Same H H' ∧ ∃ v1 v2 v3 v4 v5 v6 v7 v8 v9 v10 v11 v12 : Option V, σ = [some (.ref a), v1, v2, v3, v4, v5, v6, v7, v8, v9, v10, v11, v12]) ⟨Same.refl H, _, _, _, _, _, _, _, _, _, _, _, _, rfl⟩ (fun _ _ _ _ => trivial) ?_ (fun σ H' p => kq H')⟩
  rintro ic x σ Hb hx ⟨s0, v1, v2, v3, v4, v5, v6, v7, v8, v9, v10, v11, v12, rfl⟩
  obtain ⟨hic, rfl⟩ := rngV_at hx
  refine ⟨a, _, ns, rfl, rfl, by omega, by omega, sqL_same s0 hS, hl, fun g H1 s1 => ?_⟩
  refine ⟨g, rfl, fun b G0 fb sB BB => ?_⟩
  have sb0 : Same Hb G0 := s1.trans sB
  have fb' : Hb b = none := s1.free fb
  refine fun a1 x1 ha1 hx1 hn1 => ?_
  have n1 := nw (o := .own a1) hx1
  have ha1' : (upd G0 x1 (.own a1)) a1 = none := by rw [upd_ne hn1.symm]; exact ha1
  have n1' := nw (o := .ins e_Disk x1 []) ha1'
  generalize upd (upd G0 x1 (.own a1)) a1 (.ins e_Disk x1 []) = M1 at n1' ⊢
  have t1 := n1.same.trans n1'.same
  refine ⟨a1, e_Disk, x1, rfl, T.a_Disk, n1'.here, fun f1 m1 G1 ff1 fm1 kp1 hD1 => ⟨rfl, ?_⟩⟩
  have s1 : Same G0 G1 := fun p u e => kp1.at (by rw [List.mem_singleton]; exact ne_of_none e ha1) (t1 p u e)
  have ff1 : G0 f1 = none := t1.free ff1
  have fm1 : G0 m1 = none := t1.free fm1
  refine fun a2 x2 ha2 hx2 hn2 => ?_
  have n2 := nw (o := .own a2) hx2
  have ha2' : (upd G1 x2 (.own a2)) a2 = none := by rw [upd_ne hn2.symm]; exact ha2
  have n2' := nw (o := .ins e_Disk x2 []) ha2'
  generalize upd (upd G1 x2 (.own a2)) a2 (.ins e_Disk x2 []) = M2 at n2' ⊢
  have t2 := n2.same.trans n2'.same
  refine ⟨a2, e_Disk, x2, rfl, T.a_Disk, n2'.here, fun f2 m2 G2 ff2 fm2 kp2 hD2 => ⟨rfl, ?_⟩⟩
  have s2 : Same G1 G2 := fun p u e => kp2.at (by rw [List.mem_singleton]; exact ne_of_none e ha2) (t2 p u e)
  have ff2 : G1 f2 = none := t2.free ff2
  have fm2 : G1 m2 = none := t2.free fm2
  refine fun a3 x3 ha3 hx3 hn3 => ?_
  have n3 := nw (o := .own a3) hx3
  have ha3' : (upd G2 x3 (.own a3)) a3 = none := by rw [upd_ne hn3.symm]; exact ha3
  have n3' := nw (o := .ins e_Disk x3 []) ha3'
  generalize upd (upd G2 x3 (.own a3)) a3 (.ins e_Disk x3 []) = M3 at n3' ⊢
  have t3 := n3.same.trans n3'.same
  refine ⟨a3, e_Disk, x3, rfl, T.a_Disk, n3'.here, fun f3 m3 G3 ff3 fm3 kp3 hD3 => ⟨rfl, ?_⟩⟩
  have s3 : Same G2 G3 := fun p u e => kp3.at (by rw [List.mem_singleton]; exact ne_of_none e ha3) (t3 p u e)
  have ff3 : G2 f3 = none := t3.free ff3
  have fm3 : G2 m3 = none := t3.free fm3
  refine ⟨by show 3 ≤ sizeLine; decide, fun d G4 n4 => ?_⟩
  refine ⟨rfl, fun o1 L1 G5 fo1 fL1 s5 hO1 => ?_⟩
  refine ⟨rfl, fun o2 L2 G6 fo2 fL2 s6 hO2 => ?_⟩
  refine ⟨rfl, fun o3 L3 G7 fo3 fL3 s7 hO3 => ?_⟩
  refine ⟨by show 3 ≤ sizeLine; decide, fun o G8 n8 => ?_⟩
  obtain ⟨s, hs⟩ : ∃ s : Nat → S8, s = fun i => if i = 0 then ⟨a1, f1, m1, o1, L1, empty, 0, none⟩ else if i = 1 then ⟨a2, f2, m2, o2, L2, empty, 0, none⟩ else ⟨a3, f3, m3, o3, L3, empty, 0, none⟩ := ⟨_, rfl⟩
  have es0 : s 0 = ⟨a1, f1, m1, o1, L1, empty, 0, none⟩ := by rw [hs]; rfl
  have es1 : s 1 = ⟨a2, f2, m2, o2, L2, empty, 0, none⟩ := by rw [hs]; rfl
  have es2 : s 2 = ⟨a3, f3, m3, o3, L3, empty, 0, none⟩ := by rw [hs]; rfl
  clear hs
  have s14 : Same G1 G4 := (s2.trans s3).trans n4.same
  have s24 : Same G2 G4 := s3.trans n4.same
  have s34 : Same G3 G4 := n4.same
  have s04 : Same G0 G4 := s1.trans s14
  have s58 : Same G5 G8 := (s6.trans s7).trans n8.same
  have s68 : Same G6 G8 := s7.trans n8.same
  have s78 : Same G7 G8 := n8.same
  have s48 : Same G4 G8 := s5.trans s58
  have fo2' : G4 o2 = none := s5.free fo2
  have fL2' : G4 L2 = none := s5.free fL2
  have fo3' : G5 o3 = none := s6.free fo3
  have fL3' : G5 L3 = none := s6.free fL3
  have P0 : P8 K Hb G8 b d o s 0 := by
    have A01 : (∀ p ∈ (s 0).ads, p ∉ (s 1).ads) ∧ ∀ p ∈ (s 1).ads, p ∉ (s 0).ads := by
      rw [es0, es1]
      exact apart2 (Ha := G1) (Hc := G4) (He := G5) (fun p hp => ⟨dk_ex hD1 p hp, nn_same (s14.trans s5) (dk_ex hD1 p hp)⟩) (fun p hp => ⟨all3 (q := fun p => G1 p = none) ha2 ff2 fm2 p hp, nn_same s24 (dk_ex hD2 p hp)⟩) (fun p hp => ⟨all2 (q := fun p => G4 p = none) fo1 fL1 p hp, ow_ex hO1 p hp⟩) (fun p hp => all2 (q := fun p => G5 p = none) fo2 fL2 p hp)
    have A02 : (∀ p ∈ (s 0).ads, p ∉ (s 2).ads) ∧ ∀ p ∈ (s 2).ads, p ∉ (s 0).ads := by
      rw [es0, es2]
      exact apart2 (Ha := G2) (Hc := G4) (He := G6) (fun p hp => ⟨nn_same s2 (dk_ex hD1 p hp), nn_same ((s14.trans s5).trans s6) (dk_ex hD1 p hp)⟩) (fun p hp => ⟨all3 (q := fun p => G2 p = none) ha3 ff3 fm3 p hp, nn_same s34 (dk_ex hD3 p hp)⟩) (fun p hp => ⟨all2 (q := fun p => G4 p = none) fo1 fL1 p hp, nn_same s6 (ow_ex hO1 p hp)⟩) (fun p hp => all2 (q := fun p => G6 p = none) fo3 fL3 p hp)
    have A12 : (∀ p ∈ (s 1).ads, p ∉ (s 2).ads) ∧ ∀ p ∈ (s 2).ads, p ∉ (s 1).ads := by
      rw [es1, es2]
      exact apart2 (Ha := G2) (Hc := G5) (He := G6) (fun p hp => ⟨dk_ex hD2 p hp, nn_same ((s24.trans s5).trans s6) (dk_ex hD2 p hp)⟩) (fun p hp => ⟨all3 (q := fun p => G2 p = none) ha3 ff3 fm3 p hp, nn_same (s34.trans s5) (dk_ex hD3 p hp)⟩) (fun p hp => ⟨all2 (q := fun p => G5 p = none) fo2 fL2 p hp, ow_ex hO2 p hp⟩) (fun p hp => all2 (q := fun p => G6 p = none) fo3 fL3 p hp)
    have s0' : Same Hb G4 := sb0.trans s04
    refine ⟨s0'.trans s48, ?_, ?_, fun i hi => ?_, fun i j hi hj ne => ?_, fun i hi p hp => ?_, fb', (sb0.trans ((s1.trans s2).trans s3)).free n4.fresh, ((s0'.trans s5).trans (s6.trans s7)).free n8.fresh, ne_of_none (s7 _ _ (s6 _ _ (s5 _ _ n4.here))) n8.fresh⟩
    · rw [s48 _ _ n4.here]
      show some (HO.lst [V.ref a1, V.ref a2, V.ref a3]) = some (HO.lst [V.ref (s 0).a, V.ref (s 1).a, V.ref (s 2).a])
      rw [es0, es1, es2]
    · rw [n8.here]
      show some (HO.lst [V.ref o1, V.ref o2, V.ref o3]) = some (HO.lst [V.ref (s 0).o, V.ref (s 1).o, V.ref (s 2).o])
      rw [es0, es1, es2]
    · rcases (show i = 0 ∨ i = 1 ∨ i = 2 by omega) with rfl | rfl | rfl
      · rw [es0]
        exact side0 hD1 (s14.free fo1) (s14.free fL1) hO1 (s14.trans s48) s58
      · rw [es1]
        exact side0 hD2 (s24.free fo2') (s24.free fL2') hO2 (s24.trans s48) s68
      · rw [es2]
        exact side0 hD3 (s34.free (s5.free fo3')) (s34.free (s5.free fL3')) hO3 (s34.trans s48) s78
    · rcases (show i = 0 ∨ i = 1 ∨ i = 2 by omega) with rfl | rfl | rfl <;> rcases (show j = 0 ∨ j = 1 ∨ j = 2 by omega) with rfl | rfl | rfl <;> first | exact (ne rfl).elim | exact A01.1 | exact A01.2 | exact A02.1 | exact A02.2 | exact A12.1 | exact A12.2
    · rcases (show i = 0 ∨ i = 1 ∨ i = 2 by omega) with rfl | rfl | rfl
      · rw [es0] at hp
        simp only [S8.ads, List.mem_cons, List.not_mem_nil, or_false] at hp
        rcases hp with rfl | rfl | rfl | rfl | rfl
        · exact sb0.free ha1
        · exact sb0.free ff1
        · exact sb0.free fm1
        · exact s0'.free fo1
        · exact s0'.free fL1
      · rw [es1] at hp
        simp only [S8.ads, List.mem_cons, List.not_mem_nil, or_false] at hp
        rcases hp with rfl | rfl | rfl | rfl | rfl
        · exact (sb0.trans s1).free ha2
        · exact (sb0.trans s1).free ff2
        · exact (sb0.trans s1).free fm2
        · exact s0'.free fo2'
        · exact s0'.free fL2'
      · rw [es2] at hp
        simp only [S8.ads, List.mem_cons, List.not_mem_nil, or_false] at hp
        rcases hp with rfl | rfl | rfl | rfl | rfl
        · exact ((sb0.trans s1).trans s2).free ha3
        · exact ((sb0.trans s1).trans s2).free ff3
        · exact ((sb0.trans s1).trans s2).free fm3
        · exact s0'.free (s5.free fo3')
        · exact s0'.free (s5.free fL3')
  have B0 : BoxAt 0 G8 b := BB.same (s04.trans s48)
  clear es0 es1 es2 s14 s24 s34 s04 s58 s68 s78 s48 fo2' fL2' fo3' fL3' s1 s2 s3 s5 s6 s7 sb0 kp1 kp2 kp3 t1 t2 t3 n1 n2 n3 n1' n2' n3' n4 n8 hD1 hD2 hD3 hO1 hO2 hO3 ha1 ha2 ha3 ha1' ha2' ha3' ff1 ff2 ff3 fm1 fm2 fm3 fo1 fo2 fo3 fL1 fL2 fL3 sB fb BB hx1 hx2 hx3 hn1 hn2 hn3
  refine ⟨by decide, by decide, for_w (wk_rng 0 _) (fun t σ H' => (∃ s, P8 K Hb H' b d o s t ∧ BoxAt (20 * t) H' b) ∧ ∃ w5 w6 w7 w8 w9 w10 w11 w12 : Option V, σ = [some (.ref a), some (.int (0 + (ic : Nat))), some (.ref b), some (.ref d), some (.ref o), w5, w6, w7, w8, w9, w10, w11, w12]) ⟨⟨s, P0, B0⟩, _, _, _, _, _, _, _, _, rfl⟩ (fun _ _ _ _ => trivial) ?_ ?_⟩
  · rintro t x σ Ht hx ⟨⟨s, P, B⟩, w5, w6, w7, w8, w9, w10, w11, w12, rfl⟩
    clear P0 B0
    obtain ⟨ht, rfl⟩ := rngV_at hx
    have ht : t < 30 := ht
    refine ⟨by show 4 ≤ sizeLine; decide, fun pm H1 n1 => ?_⟩
    have npm : pm ≠ b := (B.ne n1.fresh).symm
    refine ⟨b, 4, _, rfl, rfl, by decide, by decide, B.same n1.same, by omega, fun r2 H2 t2 B2 r20 r21 => ?_⟩
    obtain ⟨iv, ei, him⟩ := menuI [0, 0, 1, 2] r20 (by show _ < 4; exact r21)
    obtain ⟨i, hi, rfl⟩ : ∃ i : Nat, i < 3 ∧ iv = (i : Int) := by
      simp only [List.mem_cons, List.not_mem_nil, or_false] at him
      rcases him with rfl | rfl | rfl | rfl
      · exact ⟨0, by decide, rfl⟩
      · exact ⟨0, by decide, rfl⟩
      · exact ⟨1, by decide, rfl⟩
      · exact ⟨2, by decide, rfl⟩
    refine ⟨_, _, .inl (SqL.of (t2.at npm n1.here)), ei, ?_⟩
    have P2 : P8 K Hb H2 b d o s t := (P.same n1.same).box (B.same n1.same) t2
    clear P B n1 t2 ei him npm
    refine ⟨_, _, .inl (SqL.of P2.ho), three_at' (g := fun i => (s i).o) hi, ?_⟩
    obtain ⟨d2, o2, ok2, c20, c21, _⟩ := P2.sd i hi
    refine ⟨b, _, (s i).o, (s i).L, (s i).D, (s i).c, (s i).l, t, rfl, rfl, B2, by omega, o2, ok2, by omega, fun q w x y r H3 t3 B3 fq nq hq jx fx => ?_⟩
    have P3 := P2.box B2 t3
    have fx' : ∀ p, x = .ref p → Hb p = none ∧ p ≠ q := fun p e => ⟨P2.sb.free (fx p e).1, (fx p e).2.2⟩
    clear fx d2 o2 ok2 c20 c21
    refine ⟨_, SqL.of hq, rfl, ?_⟩
    refine ⟨_, _, .inl (SqL.of P3.ho), three_at' (g := fun i => (s i).o) hi, ?_⟩
    obtain ⟨d3, o3, ok3, c30, c31, _⟩ := P3.sd i hi
    refine ⟨(s i).o, (s i).L, (s i).D, (s i).c, (s i).l, t, r, w, rfl, rfl, o3, ok3, by omega, jx, fun q2 kd v L2 D2 c2 l2 H4 du k4 fL hO4 fq2 hq2 => ?_⟩
    have nsq : NoSeq H3 [(s i).o, (s i).L] := fun p hp => (P3.sd i hi).no (Side8.sub.1 p hp)
    have hd4 : H4 d = some (.lst (three fun i => (s i).a)) := k4.at (fun z => (nsq _ z).1 _ P3.hd) P3.hd
    refine ⟨_, _, .inl (SqL.of hd4), three_at' (g := fun i => (s i).a) hi, ?_⟩
    have d4 := (P3.sd i hi).disk k4
    have j4 := jx.kp k4 nsq
    refine ⟨(s i).a, (s i).f, (s i).m, (s i).D, (s i).c, (s i).l, t, r, w, rfl, rfl, d4, ok3, by omega, j4, fun q3 kd' v' f2 m2 D3 c3 l3 H5 du' k5 ffm hD5 fq3 hq3 => ?_⟩
    obtain ⟨rfl, rfl, rfl, rfl, rfl⟩ := due_fun du du' (fun p xs e h => k4.at (fun z => (nsq _ z).1 _ h) h)
    obtain ⟨ok5, c50, c51⟩ := due_ok ok3 c30 c31 du
    obtain ⟨s', P5⟩ := P3.step hi k4 k5 fL ffm hO4 hD5 ok5 c50 c51
    have noA := dk_noseq d4
    have j5 := j4.kp k5 noA
    have B5 := box8 (box8 B3 k4 fun p hp => (nsq p hp).1) k5 fun p hp => (noA p hp).1
    obtain ⟨dd, dz, sw, nd, hk7, hc⟩ := due_data ok3 (by omega) j5 du
    have hq25 : H5 q2 = some (.lst [.str kd, v]) := k5.at (fun z => (noA _ z).1 _ hq2) hq2
    have hb3 : Same Hb H3 := P3.sb
    have fr2 : Hb q2 = none := hb3.free fq2
    clear j4 jx du du' k4 k5 fL ffm hO4 hD5 ok5 c50 c51 noA nsq hd4 d4 d3 o3 B3 P3 P2 t3 B2
    obtain ⟨z1, z2, z3, z4⟩ := sw_pair hk7 (sw.mono (by decide) (by decide)) nd
    refine ⟨false, _, .lst hq3 (fun z => by cases z) (.cons (.str _) (.cons dz .nil)), z1, z2, z3, z4, ?_⟩
    refine ⟨false, _, .lst hq25 (fun z => by cases z) (.cons (.str _) (.cons dz .nil)), z1, z2, z3, z4, ?_⟩
    refine iteN (nself _) ?_
    refine ⟨_, _, .inl (SqL.of hq3), rfl, ?_⟩
    refine ⟨by show 2 ≤ sizeLine; decide, fun p6 H6 n6 => ?_⟩
    refine ⟨_, .inl (SqL.of n6.here), rfl, rfl, ?_⟩
    have P6 := P5.same n6.same
    have B6 := B5.same n6.same
    have ein : (false ^^ inV (.str kd) ((["count", "keeps"] : List Str).map V.str)) = decide (kd ∈ (["count", "keeps"] : List Str)) := by rw [in_strs, Bool.false_xor]
    clear P5 B5
    rcases hc with hno | ⟨hin, rfl, hk | ⟨p, xs, ds, rfl, rfl, ep, l1, swp, dza⟩⟩
    case' inl =>
      refine iteN (c := false ^^ inV (.str kd) ((["count", "keeps"] : List Str).map V.str)) (by rw [ein]; exact decide_eq_false hno) ?_
      obtain ⟨H9, rfl⟩ : ∃ H9, H9 = H6 := ⟨_, rfl⟩
      have P9 := P6
      have B9 := B6
    case' inr.inl =>
      refine iteY (c := false ^^ inV (.str kd) ((["count", "keeps"] : List Str).map V.str)) (by rw [ein]; exact decide_eq_true hin) ?_
      refine ⟨by decide, kindD dd, Dz.kind (dz.same n6.same), ?_⟩
      refine iteN (c := isK (kindD dd) "list") hk ?_
      obtain ⟨H9, rfl⟩ : ∃ H9, H9 = H6 := ⟨_, rfl⟩
      have P9 := P6
      have B9 := B6
    case' inr.inr =>
      refine iteY (c := false ^^ inV (.str kd) ((["count", "keeps"] : List Str).map V.str)) (by rw [ein]; exact decide_eq_true hin) ?_
      refine ⟨by decide, "list", Dz.kind (dz.same n6.same), ?_⟩
      have ep6 := n6.keep ep
      refine ⟨⟨_, SqL.of ep6⟩, xs, ep6, by rw [l1]; decide, fun H7 w7 => ?_⟩
      have hq37 := w7.keep (ne_obj (n6.keep hq3) ep6 (fun z => by have z := HO.lst.inj z; rw [← z] at l1; simp at l1)) (n6.keep hq3)
      have hq27 := w7.keep (ne_obj (n6.keep hq25) ep6 (fun z => by have z := HO.lst.inj z; rw [← z] at l1; simp at l1)) (n6.keep hq25)
      have dz7 : ∃ ds', Dz false H7 (.ref p) (.list ds') ∧ Sw 4 40000 (.list ds') ∧ (PyData.list ds').hasDict = false := by
        obtain ⟨v0, rfl⟩ := List.length_eq_one_iff.mp l1
        cases dza H7 with
        | @cons _ _ d0 _ h0 ht =>
          cases ht
          have sd : Sw 2 300 (.int 7) := sw_i1 7 (by decide +kernel)
          have := Sw.list (k := 2) (B := 300) (m := 2) (ds := [d0, .int 7]) (fun z hz => by
            simp only [List.mem_cons, List.not_mem_nil, or_false] at hz
            rcases hz with rfl | rfl
            · exact swp _ (by simp)
            · exact sd) (by simp)
          refine ⟨[d0, .int 7], .lst w7.here (fun z => by cases z) (.cons h0 (.cons (.int 7) .nil)), this.mono (by decide) (by decide), ?_⟩
          simp only [PyData.hasDict, PyData.hasDictAll, Bool.or_false] at nd ⊢
          exact nd
      obtain ⟨ds', dz7, sw7, nd7⟩ := dz7
      obtain ⟨y1, y2, y3, y4⟩ := sw_pair hk7 sw7 nd7
      refine ⟨false, _, .lst hq37 (fun z => by cases z) (.cons (.str _) (.cons dz7 .nil)), y1, y2, y3, y4, ?_⟩
      refine ⟨false, _, .lst hq27 (fun z => by cases z) (.cons (.str _) (.cons dz7 .nil)), y1, y2, y3, y4, ?_⟩
      refine iteN (nself _) ?_
      have P9 : P8 K Hb H7 b d o s' (t + 1) := P6.lst (Kp.wr Kp.refl (by simp) w7) (fx' p rfl).1 ep6 (by rw [l1]; decide) (by rw [l1]; decide)
      have B9 := B6.wr (fun z => by
        obtain ⟨g, fl, sd, cn, hb, _⟩ := B6
        rw [z, ep6] at hb
        have hb := HO.lst.inj (Option.some.inj hb)
        rw [hb] at l1
        simp at l1) w7
      obtain ⟨H9, rfl⟩ : ∃ H9, H9 = H7 := ⟨_, rfl⟩
    all_goals clear P6 B6 ein fx'
    all_goals
      refine ⟨b, 8, _, rfl, rfl, by decide, by decide, B9, by omega, fun r10 H10 t10 B10 _ _ => ?_⟩
      have P10 := P9.box B9 t10
      clear P9 B9 t10
      refine ite2 (fun hc => ?_) (fun hc => ?_)
      case' refine_1 =>
        refine ⟨b, 2, _, rfl, rfl, by decide, by decide, B10, by omega, fun r11 H11 t11 B11 r110 r111 => ?_⟩
        have P11 := P10.box B10 t11
        obtain ⟨j, hj, ej⟩ : ∃ j : Nat, j < 3 ∧ ((i : Int) + 1 + r11) % 3 = (j : Int) := ⟨(((i : Int) + 1 + r11) % 3).toNat, by omega, by omega⟩
        refine ⟨(show (0 : Int) < 3 by decide), ?_⟩
        refine ⟨_, _, .inl (SqL.of P11.hd), three_at' (g := fun i => (s' i).a) hi, ?_⟩
        obtain ⟨dA, oA, okA, cA0, cA1, nA⟩ := P11.sd i hi
        obtain ⟨nfm, C, dx, kf, km, hcA, g1, g2, g3, _⟩ := id dA
        obtain rfl := hcA.one T.a_Disk
        refine ⟨_, _, g1, rfl, ?_⟩
        refine ⟨(s' i).a, (s' i).f, (s' i).m, (s' i).D, (s' i).c, _, rfl, dA, fun a4 f4 m4 H12 fa4 ff4 fm4 s12 hD12 => ?_⟩
        have P12 := P11.same s12
        refine ⟨_, _, .inl (SqL.of P12.ho), three_at' (g := fun i => (s' i).o) hi, ?_⟩
        refine ⟨(s' i).o, (s' i).L, (s' i).D, (s' i).c, (s' i).l, t + 1, rfl, oA.same s12, okA.ok, okA.nd, by omega, fun o4 L4 H13 fo4 fL4 s13 hO13 => ?_⟩
        refine ⟨by show 2 ≤ sizeLine; decide, fun p14 H14 n14 => ?_⟩
        refine ⟨_, SqT.of n14.here, rfl, ?_⟩
        have s14 := (s12.trans s13).trans n14.same
        have P14 := P11.same s14
        refine ⟨_, j, P14.hd, ix_of (n := 3) ej hj, fun H15 w15 => ?_⟩
        have ho15 := w15.keep P14.nd.symm P14.ho
        refine ⟨_, j, ho15, ix_of (n := 3) ej hj, fun H16 w16 => ?_⟩
        have P16 := P11.set2 (j := j) s14 hj (side_new hD12 fo4 fL4 hO13 okA cA0 cA1 (s13.trans n14.same) n14.same) (fun p hp => by
          simp only [S8.ads, List.mem_cons, List.not_mem_nil, or_false] at hp
          rcases hp with rfl | rfl | rfl | rfl | rfl
          · exact fa4
          · exact ff4
          · exact fm4
          · exact s12.free fo4
          · exact s12.free fL4) w15 w16
        have B16 : BoxAt (20 * t + 12) H16 b := ((((B11.same s14).wr (P14.neb (B11.same s14)).1 w15)).wr (P14.neb (B11.same s14)).2 w16).mono (by omega)
        obtain ⟨s9, hs9⟩ : ∃ s9, s9 = fun l => if l = j then (⟨a4, f4, m4, o4, L4, (s' i).D, (s' i).c, (s' i).l⟩ : S8) else s' l := ⟨_, rfl⟩
        rw [← hs9] at P16
      case' refine_2 =>
        obtain ⟨H16, rfl⟩ : ∃ H16, H16 = H10 := ⟨_, rfl⟩
        obtain ⟨s9, rfl⟩ : ∃ s9, s9 = s' := ⟨_, rfl⟩
        have P16 := P10
        have B16 : BoxAt (20 * t + 12) H16 b := B10.mono (by omega)
      all_goals
        refine ⟨by decide, by decide, for_w (wk_rng 0 _) (fun j σ H' => Same H16 H' ∧ ∃ u6 u7 u8 u9 u10 u11 u12 : Option V, σ = [some (.ref a), some (.int (0 + (ic : Nat))), some (.ref b), some (.ref d), some (.ref o), some (.int (0 + (t : Nat))), u6, u7, u8, u9, u10, u11, u12]) ⟨Same.refl _, _, _, _, _, _, _, _, rfl⟩ (fun _ _ _ _ => trivial) ?_ ?_⟩
        · rintro j x2 σ H17 hx2 ⟨s17, u6, u7, u8, u9, u10, u11, u12, rfl⟩
          obtain ⟨hj, rfl⟩ := rngV_at hx2
          have hj : j < 3 := hj
          have P17 := P16.same s17
          refine ⟨_, _, .inl (SqL.of P17.hd), three_at (g := fun i => (s9 i).a) hj, ?_⟩
          refine ⟨_, _, .inl (SqL.of P17.ho), three_at (g := fun i => (s9 i).o) hj, ?_⟩
          obtain ⟨dA, oA, okA, cA0, cA1, _⟩ := P17.sd j hj
          refine ⟨(s9 j).a, (s9 j).f, (s9 j).m, (s9 j).D, (s9 j).c, (s9 j).l, (s9 j).o, (s9 j).L, t + 1, rfl, rfl, dA, oA, okA, by omega, cA0, by omega, fun H18 s18 => ?_⟩
          walk_at "past"
          exact ⟨s17.trans s18, _, _, _, _, _, _, _, rfl⟩
        · rintro σ H17 ⟨s17, u6, u7, u8, u9, u10, u11, u12, rfl⟩
          have P17 := P16.same s17
          have B17 : BoxAt (20 * (t + 1)) H17 b := (B16.same s17).mono (by omega)
          refine ⟨(show (0 : Int) < 6 by decide), ?_⟩
          refine ite2 (fun hc => ?_) (fun hc => ?_)
          · refine ⟨d, o, s9, t + 1, rfl, rfl, P17.hd, P17.ho, P17.sd, by omega, fun H18 s18 => ?_⟩
            walk_at "past"
            exact ⟨⟨s9, P17.same s18, B17.same s18⟩, _, _, _, _, _, _, _, _, rfl⟩
          · exact ⟨⟨s9, P17, B17⟩, _, _, _, _, _, _, _, _, rfl⟩
  · rintro σ H' ⟨⟨s', P', B'⟩, w5, w6, w7, w8, w9, w10, w11, w12, rfl⟩
    exact ⟨s0.trans P'.sb, _, _, _, _, _, _, _, _, _, _, _, _, rfl⟩


end
theorem law_asks {K : PySem.W.Frag} {H : Hp} {E : XK} (a : Addr) (ns : List Int) (hl : ns.length ≤ 63) (hS : SqL K H a (ns.map V.int)) : sp_law K [.ref a] H (fun v _ => v = .bl true) E := ⟨a, ns, rfl, hS, hl, fun _ => rfl⟩
theorem all_mk {l : PySem.W.OpenLaw} {w : World} {K : PySem.W.Frag} {h : Heap} {mg : Str → Option Value} {fa : Addr} (X : K.In h) (G : h.Ns mainGlobals mg) (hfa : mg "law" = some (.ref fa))
    {f22 : Addr} {od22 an22 : Option Addr} {sl22 : Array (Option Value)} {oc22 kV22 dc22 pm22 cd22 ct22 : Value}
    (a22 : PySem.W.nsIn K mainGlobals "_law_box" = some (some (.ref f22))) (l22 : K.lookup f22 = some ⟨oc22, od22, .func (PySem.W.fnOf "_law_box" "_law_box" (defArgs s__law_box) (defBody s__law_box) (defScope s__law_box) .none kV22 dc22 pm22 an22 cd22 ct22), sl22⟩) (c22 : PySem.W.codeIn K cd22 "_law_box" = true) (k22 : PySem.W.keepIn K (.ref f22) = true)
    {f21 : Addr} {od21 an21 : Option Addr} {sl21 : Array (Option Value)} {oc21 kV21 dc21 pm21 cd21 ct21 : Value}
    (a21 : PySem.W.nsIn K mainGlobals "_law_cell" = some (some (.ref f21))) (l21 : K.lookup f21 = some ⟨oc21, od21, .func (PySem.W.fnOf "_law_cell" "_law_cell" (defArgs s__law_cell) (defBody s__law_cell) (defScope s__law_cell) .none kV21 dc21 pm21 an21 cd21 ct21), sl21⟩) (c21 : PySem.W.codeIn K cd21 "_law_cell" = true) (k21 : PySem.W.keepIn K (.ref f21) = true)
    {f24 : Addr} {od24 an24 : Option Addr} {sl24 : Array (Option Value)} {oc24 kV24 dc24 pm24 cd24 ct24 : Value}
    (a24 : PySem.W.nsIn K mainGlobals "_law_own" = some (some (.ref f24))) (l24 : K.lookup f24 = some ⟨oc24, od24, .func (PySem.W.fnOf "_law_own" "_law_own" (defArgs s__law_own) (defBody s__law_own) (defScope s__law_own) .none kV24 dc24 pm24 an24 cd24 ct24), sl24⟩) (c24 : PySem.W.codeIn K cd24 "_law_own" = true) (k24 : PySem.W.keepIn K (.ref f24) = true)
    {f23 : Addr} {od23 an23 : Option Addr} {sl23 : Array (Option Value)} {oc23 kV23 dc23 pm23 cd23 ct23 : Value}
    (a23 : PySem.W.nsIn K mainGlobals "_law_take" = some (some (.ref f23))) (l23 : K.lookup f23 = some ⟨oc23, od23, .func (PySem.W.fnOf "_law_take" "_law_take" (defArgs s__law_take) (defBody s__law_take) (defScope s__law_take) .none kV23 dc23 pm23 an23 cd23 ct23), sl23⟩) (c23 : PySem.W.codeIn K cd23 "_law_take" = true) (k23 : PySem.W.keepIn K (.ref f23) = true)
    {f26 : Addr} {od26 an26 : Option Addr} {sl26 : Array (Option Value)} {oc26 kV26 dc26 pm26 cd26 ct26 : Value}
    (a26 : PySem.W.nsIn K mainGlobals "_law_call" = some (some (.ref f26))) (l26 : K.lookup f26 = some ⟨oc26, od26, .func (PySem.W.fnOf "_law_call" "_law_call" (defArgs s__law_call) (defBody s__law_call) (defScope s__law_call) .none kV26 dc26 pm26 an26 cd26 ct26), sl26⟩) (c26 : PySem.W.codeIn K cd26 "_law_call" = true) (k26 : PySem.W.keepIn K (.ref f26) = true)
    {f28 : Addr} {od28 an28 : Option Addr} {sl28 : Array (Option Value)} {oc28 kV28 dc28 pm28 cd28 ct28 : Value}
    (a28 : PySem.W.nsIn K mainGlobals "_law_wrong" = some (some (.ref f28))) (l28 : K.lookup f28 = some ⟨oc28, od28, .func (PySem.W.fnOf "_law_wrong" "_law_wrong" (defArgs s__law_wrong) (defBody s__law_wrong) (defScope s__law_wrong) .none kV28 dc28 pm28 an28 cd28 ct28), sl28⟩) (c28 : PySem.W.codeIn K cd28 "_law_wrong" = true) (k28 : PySem.W.keepIn K (.ref f28) = true)
    {f27 : Addr} {od27 an27 : Option Addr} {sl27 : Array (Option Value)} {oc27 kV27 dc27 pm27 cd27 ct27 : Value}
    (a27 : PySem.W.nsIn K mainGlobals "_law_fallen" = some (some (.ref f27))) (l27 : K.lookup f27 = some ⟨oc27, od27, .func (PySem.W.fnOf "_law_fallen" "_law_fallen" (defArgs s__law_fallen) (defBody s__law_fallen) (defScope s__law_fallen) .none kV27 dc27 pm27 an27 cd27 ct27), sl27⟩) (c27 : PySem.W.codeIn K cd27 "_law_fallen" = true) (k27 : PySem.W.keepIn K (.ref f27) = true)
    {f29 : Addr} {od29 an29 : Option Addr} {sl29 : Array (Option Value)} {oc29 kV29 dc29 pm29 cd29 ct29 : Value}
    (a29 : PySem.W.nsIn K mainGlobals "_law_due" = some (some (.ref f29))) (l29 : K.lookup f29 = some ⟨oc29, od29, .func (PySem.W.fnOf "_law_due" "_law_due" (defArgs s__law_due) (defBody s__law_due) (defScope s__law_due) .none kV29 dc29 pm29 an29 cd29 ct29), sl29⟩) (c29 : PySem.W.codeIn K cd29 "_law_due" = true) (k29 : PySem.W.keepIn K (.ref f29) = true)
    {f16 : Addr} {od16 an16 : Option Addr} {sl16 : Array (Option Value)} {oc16 kV16 dc16 pm16 cd16 ct16 : Value}
    (a16 : PySem.W.nsIn K mainGlobals "is_file_name" = some (some (.ref f16))) (l16 : K.lookup f16 = some ⟨oc16, od16, .func (PySem.W.fnOf "is_file_name" "is_file_name" (defArgs s_is_file_name) (defBody s_is_file_name) (defScope s_is_file_name) .none kV16 dc16 pm16 an16 cd16 ct16), sl16⟩) (c16 : PySem.W.codeIn K cd16 "is_file_name" = true) (k16 : PySem.W.keepIn K (.ref f16) = true)
    {f12 : Addr} {od12 an12 : Option Addr} {sl12 : Array (Option Value)} {oc12 kV12 dc12 pm12 cd12 ct12 : Value}
    (a12 : PySem.W.nsIn K mainGlobals "is_signs" = some (some (.ref f12))) (l12 : K.lookup f12 = some ⟨oc12, od12, .func (PySem.W.fnOf "is_signs" "is_signs" (defArgs s_is_signs) (defBody s_is_signs) (defScope s_is_signs) .none kV12 dc12 pm12 an12 cd12 ct12), sl12⟩) (c12 : PySem.W.codeIn K cd12 "is_signs" = true) (k12 : PySem.W.keepIn K (.ref f12) = true)
    {f10 : Addr} {od10 an10 : Option Addr} {sl10 : Array (Option Value)} {oc10 kV10 dc10 pm10 cd10 ct10 : Value}
    (a10 : PySem.W.nsIn K mainGlobals "is_integer" = some (some (.ref f10))) (l10 : K.lookup f10 = some ⟨oc10, od10, .func (PySem.W.fnOf "is_integer" "is_integer" (defArgs s_is_integer) (defBody s_is_integer) (defScope s_is_integer) .none kV10 dc10 pm10 an10 cd10 ct10), sl10⟩) (c10 : PySem.W.codeIn K cd10 "is_integer" = true) (k10 : PySem.W.keepIn K (.ref f10) = true)
    {f11 : Addr} {od11 an11 : Option Addr} {sl11 : Array (Option Value)} {oc11 kV11 dc11 pm11 cd11 ct11 : Value}
    (a11 : PySem.W.nsIn K mainGlobals "is_count" = some (some (.ref f11))) (l11 : K.lookup f11 = some ⟨oc11, od11, .func (PySem.W.fnOf "is_count" "is_count" (defArgs s_is_count) (defBody s_is_count) (defScope s_is_count) .none kV11 dc11 pm11 an11 cd11 ct11), sl11⟩) (c11 : PySem.W.codeIn K cd11 "is_count" = true) (k11 : PySem.W.keepIn K (.ref f11) = true)
    {f9 : Addr} {od9 an9 : Option Addr} {sl9 : Array (Option Value)} {oc9 kV9 dc9 pm9 cd9 ct9 : Value}
    (a9 : PySem.W.nsIn K mainGlobals "is_list" = some (some (.ref f9))) (l9 : K.lookup f9 = some ⟨oc9, od9, .func (PySem.W.fnOf "is_list" "is_list" (defArgs s_is_list) (defBody s_is_list) (defScope s_is_list) .none kV9 dc9 pm9 an9 cd9 ct9), sl9⟩) (c9 : PySem.W.codeIn K cd9 "is_list" = true) (k9 : PySem.W.keepIn K (.ref f9) = true)
    {f17 : Addr} {od17 an17 : Option Addr} {sl17 : Array (Option Value)} {oc17 kV17 dc17 pm17 cd17 ct17 : Value}
    (a17 : PySem.W.nsIn K mainGlobals "are_keeps" = some (some (.ref f17))) (l17 : K.lookup f17 = some ⟨oc17, od17, .func (PySem.W.fnOf "are_keeps" "are_keeps" (defArgs s_are_keeps) (defBody s_are_keeps) (defScope s_are_keeps) .none kV17 dc17 pm17 an17 cd17 ct17), sl17⟩) (c17 : PySem.W.codeIn K cd17 "are_keeps" = true) (k17 : PySem.W.keepIn K (.ref f17) = true)
    {f18 : Addr} {od18 an18 : Option Addr} {sl18 : Array (Option Value)} {oc18 kV18 dc18 pm18 cd18 ct18 : Value}
    (a18 : PySem.W.nsIn K mainGlobals "signs_kept" = some (some (.ref f18))) (l18 : K.lookup f18 = some ⟨oc18, od18, .func (PySem.W.fnOf "signs_kept" "signs_kept" (defArgs s_signs_kept) (defBody s_signs_kept) (defScope s_signs_kept) .none kV18 dc18 pm18 an18 cd18 ct18), sl18⟩) (c18 : PySem.W.codeIn K cd18 "signs_kept" = true) (k18 : PySem.W.keepIn K (.ref f18) = true)
    {f30 : Addr} {od30 an30 : Option Addr} {sl30 : Array (Option Value)} {oc30 kV30 dc30 pm30 cd30 ct30 : Value}
    (a30 : PySem.W.nsIn K mainGlobals "_law_told" = some (some (.ref f30))) (l30 : K.lookup f30 = some ⟨oc30, od30, .func (PySem.W.fnOf "_law_told" "_law_told" (defArgs s__law_told) (defBody s__law_told) (defScope s__law_told) .none kV30 dc30 pm30 an30 cd30 ct30), sl30⟩) (c30 : PySem.W.codeIn K cd30 "_law_told" = true) (k30 : PySem.W.keepIn K (.ref f30) = true)
    {f25 : Addr} {od25 an25 : Option Addr} {sl25 : Array (Option Value)} {oc25 kV25 dc25 pm25 cd25 ct25 : Value}
    (a25 : PySem.W.nsIn K mainGlobals "_law_twin" = some (some (.ref f25))) (l25 : K.lookup f25 = some ⟨oc25, od25, .func (PySem.W.fnOf "_law_twin" "_law_twin" (defArgs s__law_twin) (defBody s__law_twin) (defScope s__law_twin) .none kV25 dc25 pm25 an25 cd25 ct25), sl25⟩) (c25 : PySem.W.codeIn K cd25 "_law_twin" = true) (k25 : PySem.W.keepIn K (.ref f25) = true)
    {f31 : Addr} {od31 an31 : Option Addr} {sl31 : Array (Option Value)} {oc31 kV31 dc31 pm31 cd31 ct31 : Value}
    (a31 : PySem.W.nsIn K mainGlobals "_law_alike" = some (some (.ref f31))) (l31 : K.lookup f31 = some ⟨oc31, od31, .func (PySem.W.fnOf "_law_alike" "_law_alike" (defArgs s__law_alike) (defBody s__law_alike) (defScope s__law_alike) .none kV31 dc31 pm31 an31 cd31 ct31), sl31⟩) (c31 : PySem.W.codeIn K cd31 "_law_alike" = true) (k31 : PySem.W.keepIn K (.ref f31) = true)
    {f32 : Addr} {od32 an32 : Option Addr} {sl32 : Array (Option Value)} {oc32 kV32 dc32 pm32 cd32 ct32 : Value}
    (a32 : PySem.W.nsIn K mainGlobals "_law_otherwise" = some (some (.ref f32))) (l32 : K.lookup f32 = some ⟨oc32, od32, .func (PySem.W.fnOf "_law_otherwise" "_law_otherwise" (defArgs s__law_otherwise) (defBody s__law_otherwise) (defScope s__law_otherwise) .none kV32 dc32 pm32 an32 cd32 ct32), sl32⟩) (c32 : PySem.W.codeIn K cd32 "_law_otherwise" = true) (k32 : PySem.W.keepIn K (.ref f32) = true)
    {f33 : Addr} {od33 an33 : Option Addr} {sl33 : Array (Option Value)} {oc33 kV33 dc33 pm33 cd33 ct33 : Value}
    (a33 : PySem.W.nsIn K mainGlobals "_law_equal_right" = some (some (.ref f33))) (l33 : K.lookup f33 = some ⟨oc33, od33, .func (PySem.W.fnOf "_law_equal_right" "_law_equal_right" (defArgs s__law_equal_right) (defBody s__law_equal_right) (defScope s__law_equal_right) .none kV33 dc33 pm33 an33 cd33 ct33), sl33⟩) (c33 : PySem.W.codeIn K cd33 "_law_equal_right" = true) (k33 : PySem.W.keepIn K (.ref f33) = true)
    {f34 : Addr} {od34 an34 : Option Addr} {sl34 : Array (Option Value)} {oc34 kV34 dc34 pm34 cd34 ct34 : Value}
    (a34 : PySem.W.nsIn K mainGlobals "law" = some (some (.ref f34))) (l34 : K.lookup f34 = some ⟨oc34, od34, .func (PySem.W.fnOf "law" "law" (defArgs s_law) (defBody s_law) (defScope s_law) .none kV34 dc34 pm34 an34 cd34 ct34), sl34⟩) (c34 : PySem.W.codeIn K cd34 "law" = true) (k34 : PySem.W.keepIn K (.ref f34) = true)
    (zhn : PySem.W.specialIn K (.builtin "object.__class__") "__get__" = some (some (.builtin "getset_descriptor.__get__"))) (zht : PySem.W.takesIn K (.builtin "object.__class__") = some true)
    {e_PowerCut : Addr} (ga_PowerCut : PySem.W.nsIn K mainGlobals "PowerCut" = some (some (.ref e_PowerCut)))
    {e_InvalidName : Addr} (ga_InvalidName : PySem.W.nsIn K mainGlobals "InvalidName" = some (some (.ref e_InvalidName)))
    {e_InvalidText : Addr} (ga_InvalidText : PySem.W.nsIn K mainGlobals "InvalidText" = some (some (.ref e_InvalidText)))
    {e_NoFile : Addr} (ga_NoFile : PySem.W.nsIn K mainGlobals "NoFile" = some (some (.ref e_NoFile)))
    {e_InvalidKeeps : Addr} (ga_InvalidKeeps : PySem.W.nsIn K mainGlobals "InvalidKeeps" = some (some (.ref e_InvalidKeeps)))
    {e_InvalidCount : Addr} (ga_InvalidCount : PySem.W.nsIn K mainGlobals "InvalidCount" = some (some (.ref e_InvalidCount)))
    {e_QueueError : Addr} (ga_QueueError : PySem.W.nsIn K mainGlobals "QueueError" = some (some (.ref e_QueueError)))
    {e_Disk : Addr} (ga_Disk : PySem.W.nsIn K mainGlobals "Disk" = some (some (.ref e_Disk)))
    (qa_QueueError : PySem.W.specialIn K (.ref e_QueueError) "__getattribute__" = some (some (.builtin "type.__getattribute__"))) (qb_QueueError : PySem.W.readsIn K e_QueueError (.type "type") = true) (qc_QueueError : PySem.W.findCls K (.ref e_QueueError) (.type "type") "__init__" = some (.val (.builtin "Exception.__init__")))
    (zx_PowerCut : PySem.W.excIn K e_PowerCut [.type "Exception", .type "BaseException", .type "object"] "Exception.__new__" = true) (ex_PowerCut : PySem.W.subIn K (.ref e_PowerCut) (.type "BaseException") = some true) (ty_PowerCut : PySem.W.typeIn K (.ref e_PowerCut) = some (.type "type")) (kc_PowerCut : PySem.W.keepIn K (.ref e_PowerCut) = true)
    (xa_PowerCut : PySem.W.findIn K (.ref e_PowerCut) "__getattribute__" = some (some (.builtin "BaseException.__getattribute__"))) (xb_PowerCut : PySem.W.findIn K (.ref e_PowerCut) "__getattr__" = some none) (xd_PowerCut : PySem.W.hasDictIn K e_PowerCut = true) (xe_PowerCut : PySem.W.findIn K (.ref e_PowerCut) "__class__" = some (some (.builtin "object.__class__"))) (xm_PowerCut : PySem.W.mroIn K e_PowerCut (.type "object") = some true)
    (sx_PowerCut_InvalidName : PySem.W.subIn K (.ref e_PowerCut) (.ref e_InvalidName) = some false)
    (sx_PowerCut_InvalidText : PySem.W.subIn K (.ref e_PowerCut) (.ref e_InvalidText) = some false)
    (sx_PowerCut_InvalidCount : PySem.W.subIn K (.ref e_PowerCut) (.ref e_InvalidCount) = some false)
    (sx_PowerCut_InvalidKeeps : PySem.W.subIn K (.ref e_PowerCut) (.ref e_InvalidKeeps) = some false)
    (sx_PowerCut_NoFile : PySem.W.subIn K (.ref e_PowerCut) (.ref e_NoFile) = some false)
    (sx_PowerCut_PowerCut : PySem.W.subIn K (.ref e_PowerCut) (.ref e_PowerCut) = some true)
    {nm_InvalidName q_InvalidName : Str} {N_InvalidName : Addr} {bs_InvalidName sub_InvalidName : List Value} {sn_InvalidName : List Str} {ab_InvalidName : Bool} {col_InvalidName : Option Bool} {dd_InvalidName : Option Addr} {k0_InvalidName k1_InvalidName k2_InvalidName k3_InvalidName k5_InvalidName : Option Value} (cl_InvalidName : K.lookup e_InvalidName = some (excClassObj nm_InvalidName q_InvalidName e_InvalidName N_InvalidName bs_InvalidName (.ref e_QueueError :: tailE) true sn_InvalidName sub_InvalidName ab_InvalidName col_InvalidName dd_InvalidName k0_InvalidName k1_InvalidName k2_InvalidName k3_InvalidName k5_InvalidName "Exception.__new__"))
    (sa_InvalidName : PySem.W.findIn K (.ref e_InvalidName) "__setattr__" = some (some (.builtin "object.__setattr__"))) (ex_InvalidName : PySem.W.subIn K (.ref e_InvalidName) (.type "BaseException") = some true) (ty_InvalidName : PySem.W.typeIn K (.ref e_InvalidName) = some (.type "type")) (kc_InvalidName : PySem.W.keepIn K (.ref e_InvalidName) = true)
    (xa_InvalidName : PySem.W.findIn K (.ref e_InvalidName) "__getattribute__" = some (some (.builtin "BaseException.__getattribute__"))) (xb_InvalidName : PySem.W.findIn K (.ref e_InvalidName) "__getattr__" = some none) (xd_InvalidName : PySem.W.hasDictIn K e_InvalidName = true) (xe_InvalidName : PySem.W.findIn K (.ref e_InvalidName) "__class__" = some (some (.builtin "object.__class__"))) (xm_InvalidName : PySem.W.mroIn K e_InvalidName (.type "object") = some true) (no_InvalidName : PySem.W.findIn K (.ref e_InvalidName) "given" = some none)
    {fI_InvalidName : Addr} {od_InvalidName an_InvalidName : Option Addr} {sl_InvalidName : Array (Option Value)} {oc_InvalidName kV_InvalidName dc_InvalidName pm_InvalidName cd_InvalidName ct_InvalidName : Value} (ia_InvalidName : PySem.W.findIn K (.ref e_InvalidName) "__init__" = some (some (.ref fI_InvalidName))) (it_InvalidName : PySem.W.typeIn K (.ref fI_InvalidName) = some (.type "function"))
    (il_InvalidName : K.lookup fI_InvalidName = some ⟨oc_InvalidName, od_InvalidName, .func (PySem.W.fnOf "__init__" "InvalidName.__init__" (defArgs si_InvalidName) (defBody si_InvalidName) (defScope si_InvalidName) .none kV_InvalidName dc_InvalidName pm_InvalidName an_InvalidName cd_InvalidName ct_InvalidName), sl_InvalidName⟩) (ic_InvalidName : PySem.W.codeIn K cd_InvalidName "InvalidName.__init__" = true) (ik_InvalidName : PySem.W.keepIn K (.ref fI_InvalidName) = true)
    (sx_InvalidName_InvalidName : PySem.W.subIn K (.ref e_InvalidName) (.ref e_InvalidName) = some true)
    (sx_InvalidName_InvalidText : PySem.W.subIn K (.ref e_InvalidName) (.ref e_InvalidText) = some false)
    (sx_InvalidName_InvalidCount : PySem.W.subIn K (.ref e_InvalidName) (.ref e_InvalidCount) = some false)
    (sx_InvalidName_InvalidKeeps : PySem.W.subIn K (.ref e_InvalidName) (.ref e_InvalidKeeps) = some false)
    (sx_InvalidName_NoFile : PySem.W.subIn K (.ref e_InvalidName) (.ref e_NoFile) = some false)
    (sx_InvalidName_PowerCut : PySem.W.subIn K (.ref e_InvalidName) (.ref e_PowerCut) = some false)
    {nm_InvalidText q_InvalidText : Str} {N_InvalidText : Addr} {bs_InvalidText sub_InvalidText : List Value} {sn_InvalidText : List Str} {ab_InvalidText : Bool} {col_InvalidText : Option Bool} {dd_InvalidText : Option Addr} {k0_InvalidText k1_InvalidText k2_InvalidText k3_InvalidText k5_InvalidText : Option Value} (cl_InvalidText : K.lookup e_InvalidText = some (excClassObj nm_InvalidText q_InvalidText e_InvalidText N_InvalidText bs_InvalidText (.ref e_QueueError :: tailE) true sn_InvalidText sub_InvalidText ab_InvalidText col_InvalidText dd_InvalidText k0_InvalidText k1_InvalidText k2_InvalidText k3_InvalidText k5_InvalidText "Exception.__new__"))
    (sa_InvalidText : PySem.W.findIn K (.ref e_InvalidText) "__setattr__" = some (some (.builtin "object.__setattr__"))) (ex_InvalidText : PySem.W.subIn K (.ref e_InvalidText) (.type "BaseException") = some true) (ty_InvalidText : PySem.W.typeIn K (.ref e_InvalidText) = some (.type "type")) (kc_InvalidText : PySem.W.keepIn K (.ref e_InvalidText) = true)
    (xa_InvalidText : PySem.W.findIn K (.ref e_InvalidText) "__getattribute__" = some (some (.builtin "BaseException.__getattribute__"))) (xb_InvalidText : PySem.W.findIn K (.ref e_InvalidText) "__getattr__" = some none) (xd_InvalidText : PySem.W.hasDictIn K e_InvalidText = true) (xe_InvalidText : PySem.W.findIn K (.ref e_InvalidText) "__class__" = some (some (.builtin "object.__class__"))) (xm_InvalidText : PySem.W.mroIn K e_InvalidText (.type "object") = some true) (no_InvalidText : PySem.W.findIn K (.ref e_InvalidText) "given" = some none)
    {fI_InvalidText : Addr} {od_InvalidText an_InvalidText : Option Addr} {sl_InvalidText : Array (Option Value)} {oc_InvalidText kV_InvalidText dc_InvalidText pm_InvalidText cd_InvalidText ct_InvalidText : Value} (ia_InvalidText : PySem.W.findIn K (.ref e_InvalidText) "__init__" = some (some (.ref fI_InvalidText))) (it_InvalidText : PySem.W.typeIn K (.ref fI_InvalidText) = some (.type "function"))
    (il_InvalidText : K.lookup fI_InvalidText = some ⟨oc_InvalidText, od_InvalidText, .func (PySem.W.fnOf "__init__" "InvalidText.__init__" (defArgs si_InvalidText) (defBody si_InvalidText) (defScope si_InvalidText) .none kV_InvalidText dc_InvalidText pm_InvalidText an_InvalidText cd_InvalidText ct_InvalidText), sl_InvalidText⟩) (ic_InvalidText : PySem.W.codeIn K cd_InvalidText "InvalidText.__init__" = true) (ik_InvalidText : PySem.W.keepIn K (.ref fI_InvalidText) = true)
    (sx_InvalidText_InvalidName : PySem.W.subIn K (.ref e_InvalidText) (.ref e_InvalidName) = some false)
    (sx_InvalidText_InvalidText : PySem.W.subIn K (.ref e_InvalidText) (.ref e_InvalidText) = some true)
    (sx_InvalidText_InvalidCount : PySem.W.subIn K (.ref e_InvalidText) (.ref e_InvalidCount) = some false)
    (sx_InvalidText_InvalidKeeps : PySem.W.subIn K (.ref e_InvalidText) (.ref e_InvalidKeeps) = some false)
    (sx_InvalidText_NoFile : PySem.W.subIn K (.ref e_InvalidText) (.ref e_NoFile) = some false)
    (sx_InvalidText_PowerCut : PySem.W.subIn K (.ref e_InvalidText) (.ref e_PowerCut) = some false)
    {nm_NoFile q_NoFile : Str} {N_NoFile : Addr} {bs_NoFile sub_NoFile : List Value} {sn_NoFile : List Str} {ab_NoFile : Bool} {col_NoFile : Option Bool} {dd_NoFile : Option Addr} {k0_NoFile k1_NoFile k2_NoFile k3_NoFile k5_NoFile : Option Value} (cl_NoFile : K.lookup e_NoFile = some (excClassObj nm_NoFile q_NoFile e_NoFile N_NoFile bs_NoFile (.ref e_QueueError :: tailE) true sn_NoFile sub_NoFile ab_NoFile col_NoFile dd_NoFile k0_NoFile k1_NoFile k2_NoFile k3_NoFile k5_NoFile "Exception.__new__"))
    (sa_NoFile : PySem.W.findIn K (.ref e_NoFile) "__setattr__" = some (some (.builtin "object.__setattr__"))) (ex_NoFile : PySem.W.subIn K (.ref e_NoFile) (.type "BaseException") = some true) (ty_NoFile : PySem.W.typeIn K (.ref e_NoFile) = some (.type "type")) (kc_NoFile : PySem.W.keepIn K (.ref e_NoFile) = true)
    (xa_NoFile : PySem.W.findIn K (.ref e_NoFile) "__getattribute__" = some (some (.builtin "BaseException.__getattribute__"))) (xb_NoFile : PySem.W.findIn K (.ref e_NoFile) "__getattr__" = some none) (xd_NoFile : PySem.W.hasDictIn K e_NoFile = true) (xe_NoFile : PySem.W.findIn K (.ref e_NoFile) "__class__" = some (some (.builtin "object.__class__"))) (xm_NoFile : PySem.W.mroIn K e_NoFile (.type "object") = some true) (no_NoFile : PySem.W.findIn K (.ref e_NoFile) "name" = some none)
    {fI_NoFile : Addr} {od_NoFile an_NoFile : Option Addr} {sl_NoFile : Array (Option Value)} {oc_NoFile kV_NoFile dc_NoFile pm_NoFile cd_NoFile ct_NoFile : Value} (ia_NoFile : PySem.W.findIn K (.ref e_NoFile) "__init__" = some (some (.ref fI_NoFile))) (it_NoFile : PySem.W.typeIn K (.ref fI_NoFile) = some (.type "function"))
    (il_NoFile : K.lookup fI_NoFile = some ⟨oc_NoFile, od_NoFile, .func (PySem.W.fnOf "__init__" "NoFile.__init__" (defArgs si_NoFile) (defBody si_NoFile) (defScope si_NoFile) .none kV_NoFile dc_NoFile pm_NoFile an_NoFile cd_NoFile ct_NoFile), sl_NoFile⟩) (ic_NoFile : PySem.W.codeIn K cd_NoFile "NoFile.__init__" = true) (ik_NoFile : PySem.W.keepIn K (.ref fI_NoFile) = true)
    (sx_NoFile_InvalidName : PySem.W.subIn K (.ref e_NoFile) (.ref e_InvalidName) = some false)
    (sx_NoFile_InvalidText : PySem.W.subIn K (.ref e_NoFile) (.ref e_InvalidText) = some false)
    (sx_NoFile_InvalidCount : PySem.W.subIn K (.ref e_NoFile) (.ref e_InvalidCount) = some false)
    (sx_NoFile_InvalidKeeps : PySem.W.subIn K (.ref e_NoFile) (.ref e_InvalidKeeps) = some false)
    (sx_NoFile_NoFile : PySem.W.subIn K (.ref e_NoFile) (.ref e_NoFile) = some true)
    (sx_NoFile_PowerCut : PySem.W.subIn K (.ref e_NoFile) (.ref e_PowerCut) = some false)
    {nm_InvalidKeeps q_InvalidKeeps : Str} {N_InvalidKeeps : Addr} {bs_InvalidKeeps sub_InvalidKeeps : List Value} {sn_InvalidKeeps : List Str} {ab_InvalidKeeps : Bool} {col_InvalidKeeps : Option Bool} {dd_InvalidKeeps : Option Addr} {k0_InvalidKeeps k1_InvalidKeeps k2_InvalidKeeps k3_InvalidKeeps k5_InvalidKeeps : Option Value} (cl_InvalidKeeps : K.lookup e_InvalidKeeps = some (excClassObj nm_InvalidKeeps q_InvalidKeeps e_InvalidKeeps N_InvalidKeeps bs_InvalidKeeps (.ref e_QueueError :: tailE) true sn_InvalidKeeps sub_InvalidKeeps ab_InvalidKeeps col_InvalidKeeps dd_InvalidKeeps k0_InvalidKeeps k1_InvalidKeeps k2_InvalidKeeps k3_InvalidKeeps k5_InvalidKeeps "Exception.__new__"))
    (sa_InvalidKeeps : PySem.W.findIn K (.ref e_InvalidKeeps) "__setattr__" = some (some (.builtin "object.__setattr__"))) (ex_InvalidKeeps : PySem.W.subIn K (.ref e_InvalidKeeps) (.type "BaseException") = some true) (ty_InvalidKeeps : PySem.W.typeIn K (.ref e_InvalidKeeps) = some (.type "type")) (kc_InvalidKeeps : PySem.W.keepIn K (.ref e_InvalidKeeps) = true)
    (xa_InvalidKeeps : PySem.W.findIn K (.ref e_InvalidKeeps) "__getattribute__" = some (some (.builtin "BaseException.__getattribute__"))) (xb_InvalidKeeps : PySem.W.findIn K (.ref e_InvalidKeeps) "__getattr__" = some none) (xd_InvalidKeeps : PySem.W.hasDictIn K e_InvalidKeeps = true) (xe_InvalidKeeps : PySem.W.findIn K (.ref e_InvalidKeeps) "__class__" = some (some (.builtin "object.__class__"))) (xm_InvalidKeeps : PySem.W.mroIn K e_InvalidKeeps (.type "object") = some true) (no_InvalidKeeps : PySem.W.findIn K (.ref e_InvalidKeeps) "given" = some none)
    {fI_InvalidKeeps : Addr} {od_InvalidKeeps an_InvalidKeeps : Option Addr} {sl_InvalidKeeps : Array (Option Value)} {oc_InvalidKeeps kV_InvalidKeeps dc_InvalidKeeps pm_InvalidKeeps cd_InvalidKeeps ct_InvalidKeeps : Value} (ia_InvalidKeeps : PySem.W.findIn K (.ref e_InvalidKeeps) "__init__" = some (some (.ref fI_InvalidKeeps))) (it_InvalidKeeps : PySem.W.typeIn K (.ref fI_InvalidKeeps) = some (.type "function"))
    (il_InvalidKeeps : K.lookup fI_InvalidKeeps = some ⟨oc_InvalidKeeps, od_InvalidKeeps, .func (PySem.W.fnOf "__init__" "InvalidKeeps.__init__" (defArgs si_InvalidKeeps) (defBody si_InvalidKeeps) (defScope si_InvalidKeeps) .none kV_InvalidKeeps dc_InvalidKeeps pm_InvalidKeeps an_InvalidKeeps cd_InvalidKeeps ct_InvalidKeeps), sl_InvalidKeeps⟩) (ic_InvalidKeeps : PySem.W.codeIn K cd_InvalidKeeps "InvalidKeeps.__init__" = true) (ik_InvalidKeeps : PySem.W.keepIn K (.ref fI_InvalidKeeps) = true)
    (sx_InvalidKeeps_InvalidName : PySem.W.subIn K (.ref e_InvalidKeeps) (.ref e_InvalidName) = some false)
    (sx_InvalidKeeps_InvalidText : PySem.W.subIn K (.ref e_InvalidKeeps) (.ref e_InvalidText) = some false)
    (sx_InvalidKeeps_InvalidCount : PySem.W.subIn K (.ref e_InvalidKeeps) (.ref e_InvalidCount) = some false)
    (sx_InvalidKeeps_InvalidKeeps : PySem.W.subIn K (.ref e_InvalidKeeps) (.ref e_InvalidKeeps) = some true)
    (sx_InvalidKeeps_NoFile : PySem.W.subIn K (.ref e_InvalidKeeps) (.ref e_NoFile) = some false)
    (sx_InvalidKeeps_PowerCut : PySem.W.subIn K (.ref e_InvalidKeeps) (.ref e_PowerCut) = some false)
    {nm_InvalidCount q_InvalidCount : Str} {N_InvalidCount : Addr} {bs_InvalidCount sub_InvalidCount : List Value} {sn_InvalidCount : List Str} {ab_InvalidCount : Bool} {col_InvalidCount : Option Bool} {dd_InvalidCount : Option Addr} {k0_InvalidCount k1_InvalidCount k2_InvalidCount k3_InvalidCount k5_InvalidCount : Option Value} (cl_InvalidCount : K.lookup e_InvalidCount = some (excClassObj nm_InvalidCount q_InvalidCount e_InvalidCount N_InvalidCount bs_InvalidCount (.ref e_QueueError :: tailE) true sn_InvalidCount sub_InvalidCount ab_InvalidCount col_InvalidCount dd_InvalidCount k0_InvalidCount k1_InvalidCount k2_InvalidCount k3_InvalidCount k5_InvalidCount "Exception.__new__"))
    (sa_InvalidCount : PySem.W.findIn K (.ref e_InvalidCount) "__setattr__" = some (some (.builtin "object.__setattr__"))) (ex_InvalidCount : PySem.W.subIn K (.ref e_InvalidCount) (.type "BaseException") = some true) (ty_InvalidCount : PySem.W.typeIn K (.ref e_InvalidCount) = some (.type "type")) (kc_InvalidCount : PySem.W.keepIn K (.ref e_InvalidCount) = true)
    (xa_InvalidCount : PySem.W.findIn K (.ref e_InvalidCount) "__getattribute__" = some (some (.builtin "BaseException.__getattribute__"))) (xb_InvalidCount : PySem.W.findIn K (.ref e_InvalidCount) "__getattr__" = some none) (xd_InvalidCount : PySem.W.hasDictIn K e_InvalidCount = true) (xe_InvalidCount : PySem.W.findIn K (.ref e_InvalidCount) "__class__" = some (some (.builtin "object.__class__"))) (xm_InvalidCount : PySem.W.mroIn K e_InvalidCount (.type "object") = some true) (no_InvalidCount : PySem.W.findIn K (.ref e_InvalidCount) "given" = some none)
    {fI_InvalidCount : Addr} {od_InvalidCount an_InvalidCount : Option Addr} {sl_InvalidCount : Array (Option Value)} {oc_InvalidCount kV_InvalidCount dc_InvalidCount pm_InvalidCount cd_InvalidCount ct_InvalidCount : Value} (ia_InvalidCount : PySem.W.findIn K (.ref e_InvalidCount) "__init__" = some (some (.ref fI_InvalidCount))) (it_InvalidCount : PySem.W.typeIn K (.ref fI_InvalidCount) = some (.type "function"))
    (il_InvalidCount : K.lookup fI_InvalidCount = some ⟨oc_InvalidCount, od_InvalidCount, .func (PySem.W.fnOf "__init__" "InvalidCount.__init__" (defArgs si_InvalidCount) (defBody si_InvalidCount) (defScope si_InvalidCount) .none kV_InvalidCount dc_InvalidCount pm_InvalidCount an_InvalidCount cd_InvalidCount ct_InvalidCount), sl_InvalidCount⟩) (ic_InvalidCount : PySem.W.codeIn K cd_InvalidCount "InvalidCount.__init__" = true) (ik_InvalidCount : PySem.W.keepIn K (.ref fI_InvalidCount) = true)
    (sx_InvalidCount_InvalidName : PySem.W.subIn K (.ref e_InvalidCount) (.ref e_InvalidName) = some false)
    (sx_InvalidCount_InvalidText : PySem.W.subIn K (.ref e_InvalidCount) (.ref e_InvalidText) = some false)
    (sx_InvalidCount_InvalidCount : PySem.W.subIn K (.ref e_InvalidCount) (.ref e_InvalidCount) = some true)
    (sx_InvalidCount_InvalidKeeps : PySem.W.subIn K (.ref e_InvalidCount) (.ref e_InvalidKeeps) = some false)
    (sx_InvalidCount_NoFile : PySem.W.subIn K (.ref e_InvalidCount) (.ref e_NoFile) = some false)
    (sx_InvalidCount_PowerCut : PySem.W.subIn K (.ref e_InvalidCount) (.ref e_PowerCut) = some false)
    (kg_Disk : PySem.W.plainGet K e_Disk Str.empty = true) (kd_Disk : PySem.W.hasDictIn K e_Disk = true) (kp_Disk : PySem.W.plainOver K e_Disk = true) (ks_Disk : PySem.W.findIn K (.ref e_Disk) "__setattr__" = some (some (.builtin "object.__setattr__")))
    (xn_Disk : PySem.W.findIn K (.ref e_Disk) "__ne__" = some (some (.builtin "object.__ne__"))) (xo_Disk : PySem.W.mroIn K e_Disk (.type "object") = some true) (xc_Disk : PySem.W.findIn K (.ref e_Disk) "__class__" = some (some (.builtin "object.__class__"))) (xt_Disk : PySem.W.typeIn K (.ref e_Disk) = some (.type "type"))
    (kf_Disk_files : PySem.W.findIn K (.ref e_Disk) "files" = some none)
    (kf_Disk_marks : PySem.W.findIn K (.ref e_Disk) "marks" = some none)
    (kf_Disk_calls : PySem.W.findIn K (.ref e_Disk) "calls" = some none)
    (kf_Disk_left : PySem.W.findIn K (.ref e_Disk) "left" = some none)
    (km_Disk : PySem.W.makesIn K e_Disk = true) (kk_Disk : PySem.W.keepIn K (.ref e_Disk) = true)
    {f_Disk_use_power : Addr} {od_Disk_use_power an_Disk_use_power : Option Addr} {sl_Disk_use_power : Array (Option Value)} {oc_Disk_use_power kV_Disk_use_power dc_Disk_use_power pm_Disk_use_power cd_Disk_use_power ct_Disk_use_power : Value}
    (ma_Disk_use_power : PySem.W.findIn K (.ref e_Disk) "use_power" = some (some (.ref f_Disk_use_power))) (mf_Disk_use_power : PySem.W.isFn K (.ref f_Disk_use_power) = true) (ml_Disk_use_power : K.lookup f_Disk_use_power = some ⟨oc_Disk_use_power, od_Disk_use_power, .func (PySem.W.fnOf "use_power" "Disk.use_power" (defArgs s_Disk_use_power) (defBody s_Disk_use_power) (defScope s_Disk_use_power) .none kV_Disk_use_power dc_Disk_use_power pm_Disk_use_power an_Disk_use_power cd_Disk_use_power ct_Disk_use_power), sl_Disk_use_power⟩) (mc_Disk_use_power : PySem.W.codeIn K cd_Disk_use_power "Disk.use_power" = true) (mk_Disk_use_power : PySem.W.keepIn K (.ref f_Disk_use_power) = true)
    {f_Disk_write : Addr} {od_Disk_write an_Disk_write : Option Addr} {sl_Disk_write : Array (Option Value)} {oc_Disk_write kV_Disk_write dc_Disk_write pm_Disk_write cd_Disk_write ct_Disk_write : Value}
    (ma_Disk_write : PySem.W.findIn K (.ref e_Disk) "write" = some (some (.ref f_Disk_write))) (mf_Disk_write : PySem.W.isFn K (.ref f_Disk_write) = true) (ml_Disk_write : K.lookup f_Disk_write = some ⟨oc_Disk_write, od_Disk_write, .func (PySem.W.fnOf "write" "Disk.write" (defArgs s_Disk_write) (defBody s_Disk_write) (defScope s_Disk_write) .none kV_Disk_write dc_Disk_write pm_Disk_write an_Disk_write cd_Disk_write ct_Disk_write), sl_Disk_write⟩) (mc_Disk_write : PySem.W.codeIn K cd_Disk_write "Disk.write" = true) (mk_Disk_write : PySem.W.keepIn K (.ref f_Disk_write) = true)
    {f_Disk_check_file : Addr} {od_Disk_check_file an_Disk_check_file : Option Addr} {sl_Disk_check_file : Array (Option Value)} {oc_Disk_check_file kV_Disk_check_file dc_Disk_check_file pm_Disk_check_file cd_Disk_check_file ct_Disk_check_file : Value}
    (ma_Disk_check_file : PySem.W.findIn K (.ref e_Disk) "check_file" = some (some (.ref f_Disk_check_file))) (mf_Disk_check_file : PySem.W.isFn K (.ref f_Disk_check_file) = true) (ml_Disk_check_file : K.lookup f_Disk_check_file = some ⟨oc_Disk_check_file, od_Disk_check_file, .func (PySem.W.fnOf "check_file" "Disk.check_file" (defArgs s_Disk_check_file) (defBody s_Disk_check_file) (defScope s_Disk_check_file) .none kV_Disk_check_file dc_Disk_check_file pm_Disk_check_file an_Disk_check_file cd_Disk_check_file ct_Disk_check_file), sl_Disk_check_file⟩) (mc_Disk_check_file : PySem.W.codeIn K cd_Disk_check_file "Disk.check_file" = true) (mk_Disk_check_file : PySem.W.keepIn K (.ref f_Disk_check_file) = true)
    {f_Disk_sync : Addr} {od_Disk_sync an_Disk_sync : Option Addr} {sl_Disk_sync : Array (Option Value)} {oc_Disk_sync kV_Disk_sync dc_Disk_sync pm_Disk_sync cd_Disk_sync ct_Disk_sync : Value}
    (ma_Disk_sync : PySem.W.findIn K (.ref e_Disk) "sync" = some (some (.ref f_Disk_sync))) (mf_Disk_sync : PySem.W.isFn K (.ref f_Disk_sync) = true) (ml_Disk_sync : K.lookup f_Disk_sync = some ⟨oc_Disk_sync, od_Disk_sync, .func (PySem.W.fnOf "sync" "Disk.sync" (defArgs s_Disk_sync) (defBody s_Disk_sync) (defScope s_Disk_sync) .none kV_Disk_sync dc_Disk_sync pm_Disk_sync an_Disk_sync cd_Disk_sync ct_Disk_sync), sl_Disk_sync⟩) (mc_Disk_sync : PySem.W.codeIn K cd_Disk_sync "Disk.sync" = true) (mk_Disk_sync : PySem.W.keepIn K (.ref f_Disk_sync) = true)
    {f_Disk_drop : Addr} {od_Disk_drop an_Disk_drop : Option Addr} {sl_Disk_drop : Array (Option Value)} {oc_Disk_drop kV_Disk_drop dc_Disk_drop pm_Disk_drop cd_Disk_drop ct_Disk_drop : Value}
    (ma_Disk_drop : PySem.W.findIn K (.ref e_Disk) "drop" = some (some (.ref f_Disk_drop))) (mf_Disk_drop : PySem.W.isFn K (.ref f_Disk_drop) = true) (ml_Disk_drop : K.lookup f_Disk_drop = some ⟨oc_Disk_drop, od_Disk_drop, .func (PySem.W.fnOf "drop" "Disk.drop" (defArgs s_Disk_drop) (defBody s_Disk_drop) (defScope s_Disk_drop) .none kV_Disk_drop dc_Disk_drop pm_Disk_drop an_Disk_drop cd_Disk_drop ct_Disk_drop), sl_Disk_drop⟩) (mc_Disk_drop : PySem.W.codeIn K cd_Disk_drop "Disk.drop" = true) (mk_Disk_drop : PySem.W.keepIn K (.ref f_Disk_drop) = true)
    {f_Disk_read : Addr} {od_Disk_read an_Disk_read : Option Addr} {sl_Disk_read : Array (Option Value)} {oc_Disk_read kV_Disk_read dc_Disk_read pm_Disk_read cd_Disk_read ct_Disk_read : Value}
    (ma_Disk_read : PySem.W.findIn K (.ref e_Disk) "read" = some (some (.ref f_Disk_read))) (mf_Disk_read : PySem.W.isFn K (.ref f_Disk_read) = true) (ml_Disk_read : K.lookup f_Disk_read = some ⟨oc_Disk_read, od_Disk_read, .func (PySem.W.fnOf "read" "Disk.read" (defArgs s_Disk_read) (defBody s_Disk_read) (defScope s_Disk_read) .none kV_Disk_read dc_Disk_read pm_Disk_read an_Disk_read cd_Disk_read ct_Disk_read), sl_Disk_read⟩) (mc_Disk_read : PySem.W.codeIn K cd_Disk_read "Disk.read" = true) (mk_Disk_read : PySem.W.keepIn K (.ref f_Disk_read) = true)
    {f_Disk_names : Addr} {od_Disk_names an_Disk_names : Option Addr} {sl_Disk_names : Array (Option Value)} {oc_Disk_names kV_Disk_names dc_Disk_names pm_Disk_names cd_Disk_names ct_Disk_names : Value}
    (ma_Disk_names : PySem.W.findIn K (.ref e_Disk) "names" = some (some (.ref f_Disk_names))) (mf_Disk_names : PySem.W.isFn K (.ref f_Disk_names) = true) (ml_Disk_names : K.lookup f_Disk_names = some ⟨oc_Disk_names, od_Disk_names, .func (PySem.W.fnOf "names" "Disk.names" (defArgs s_Disk_names) (defBody s_Disk_names) (defScope s_Disk_names) .none kV_Disk_names dc_Disk_names pm_Disk_names an_Disk_names cd_Disk_names ct_Disk_names), sl_Disk_names⟩) (mc_Disk_names : PySem.W.codeIn K cd_Disk_names "Disk.names" = true) (mk_Disk_names : PySem.W.keepIn K (.ref f_Disk_names) = true)
    {f_Disk_fall : Addr} {od_Disk_fall an_Disk_fall : Option Addr} {sl_Disk_fall : Array (Option Value)} {oc_Disk_fall kV_Disk_fall dc_Disk_fall pm_Disk_fall cd_Disk_fall ct_Disk_fall : Value}
    (ma_Disk_fall : PySem.W.findIn K (.ref e_Disk) "fall" = some (some (.ref f_Disk_fall))) (mf_Disk_fall : PySem.W.isFn K (.ref f_Disk_fall) = true) (ml_Disk_fall : K.lookup f_Disk_fall = some ⟨oc_Disk_fall, od_Disk_fall, .func (PySem.W.fnOf "fall" "Disk.fall" (defArgs s_Disk_fall) (defBody s_Disk_fall) (defScope s_Disk_fall) .none kV_Disk_fall dc_Disk_fall pm_Disk_fall an_Disk_fall cd_Disk_fall ct_Disk_fall), sl_Disk_fall⟩) (mc_Disk_fall : PySem.W.codeIn K cd_Disk_fall "Disk.fall" = true) (mk_Disk_fall : PySem.W.keepIn K (.ref f_Disk_fall) = true)
    {f_Disk_arm : Addr} {od_Disk_arm an_Disk_arm : Option Addr} {sl_Disk_arm : Array (Option Value)} {oc_Disk_arm kV_Disk_arm dc_Disk_arm pm_Disk_arm cd_Disk_arm ct_Disk_arm : Value}
    (ma_Disk_arm : PySem.W.findIn K (.ref e_Disk) "arm" = some (some (.ref f_Disk_arm))) (mf_Disk_arm : PySem.W.isFn K (.ref f_Disk_arm) = true) (ml_Disk_arm : K.lookup f_Disk_arm = some ⟨oc_Disk_arm, od_Disk_arm, .func (PySem.W.fnOf "arm" "Disk.arm" (defArgs s_Disk_arm) (defBody s_Disk_arm) (defScope s_Disk_arm) .none kV_Disk_arm dc_Disk_arm pm_Disk_arm an_Disk_arm cd_Disk_arm ct_Disk_arm), sl_Disk_arm⟩) (mc_Disk_arm : PySem.W.codeIn K cd_Disk_arm "Disk.arm" = true) (mk_Disk_arm : PySem.W.keepIn K (.ref f_Disk_arm) = true)
    {f_Disk_ops : Addr} {od_Disk_ops an_Disk_ops : Option Addr} {sl_Disk_ops : Array (Option Value)} {oc_Disk_ops kV_Disk_ops dc_Disk_ops pm_Disk_ops cd_Disk_ops ct_Disk_ops : Value}
    (ma_Disk_ops : PySem.W.findIn K (.ref e_Disk) "ops" = some (some (.ref f_Disk_ops))) (mf_Disk_ops : PySem.W.isFn K (.ref f_Disk_ops) = true) (ml_Disk_ops : K.lookup f_Disk_ops = some ⟨oc_Disk_ops, od_Disk_ops, .func (PySem.W.fnOf "ops" "Disk.ops" (defArgs s_Disk_ops) (defBody s_Disk_ops) (defScope s_Disk_ops) .none kV_Disk_ops dc_Disk_ops pm_Disk_ops an_Disk_ops cd_Disk_ops ct_Disk_ops), sl_Disk_ops⟩) (mc_Disk_ops : PySem.W.codeIn K cd_Disk_ops "Disk.ops" = true) (mk_Disk_ops : PySem.W.keepIn K (.ref f_Disk_ops) = true)
    {f_Disk_synced : Addr} {od_Disk_synced an_Disk_synced : Option Addr} {sl_Disk_synced : Array (Option Value)} {oc_Disk_synced kV_Disk_synced dc_Disk_synced pm_Disk_synced cd_Disk_synced ct_Disk_synced : Value}
    (ma_Disk_synced : PySem.W.findIn K (.ref e_Disk) "synced" = some (some (.ref f_Disk_synced))) (mf_Disk_synced : PySem.W.isFn K (.ref f_Disk_synced) = true) (ml_Disk_synced : K.lookup f_Disk_synced = some ⟨oc_Disk_synced, od_Disk_synced, .func (PySem.W.fnOf "synced" "Disk.synced" (defArgs s_Disk_synced) (defBody s_Disk_synced) (defScope s_Disk_synced) .none kV_Disk_synced dc_Disk_synced pm_Disk_synced an_Disk_synced cd_Disk_synced ct_Disk_synced), sl_Disk_synced⟩) (mc_Disk_synced : PySem.W.codeIn K cd_Disk_synced "Disk.synced" = true) (mk_Disk_synced : PySem.W.keepIn K (.ref f_Disk_synced) = true)
    {f_Disk___init__ : Addr} {od_Disk___init__ an_Disk___init__ : Option Addr} {sl_Disk___init__ : Array (Option Value)} {oc_Disk___init__ kV_Disk___init__ dc_Disk___init__ pm_Disk___init__ cd_Disk___init__ ct_Disk___init__ : Value}
    (ma_Disk___init__ : PySem.W.findIn K (.ref e_Disk) "__init__" = some (some (.ref f_Disk___init__))) (mf_Disk___init__ : PySem.W.isFn K (.ref f_Disk___init__) = true) (ml_Disk___init__ : K.lookup f_Disk___init__ = some ⟨oc_Disk___init__, od_Disk___init__, .func (PySem.W.fnOf "__init__" "Disk.__init__" (defArgs s_Disk___init__) (defBody s_Disk___init__) (defScope s_Disk___init__) .none kV_Disk___init__ dc_Disk___init__ pm_Disk___init__ an_Disk___init__ cd_Disk___init__ ct_Disk___init__), sl_Disk___init__⟩) (mc_Disk___init__ : PySem.W.codeIn K cd_Disk___init__ "Disk.__init__" = true) (mk_Disk___init__ : PySem.W.keepIn K (.ref f_Disk___init__) = true)
    {f_Disk___eq__ : Addr} {od_Disk___eq__ an_Disk___eq__ : Option Addr} {sl_Disk___eq__ : Array (Option Value)} {oc_Disk___eq__ kV_Disk___eq__ dc_Disk___eq__ pm_Disk___eq__ cd_Disk___eq__ ct_Disk___eq__ : Value}
    (ma_Disk___eq__ : PySem.W.findIn K (.ref e_Disk) "__eq__" = some (some (.ref f_Disk___eq__))) (mf_Disk___eq__ : PySem.W.isFn K (.ref f_Disk___eq__) = true) (ml_Disk___eq__ : K.lookup f_Disk___eq__ = some ⟨oc_Disk___eq__, od_Disk___eq__, .func (PySem.W.fnOf "__eq__" "Disk.__eq__" (defArgs s_Disk___eq__) (defBody s_Disk___eq__) (defScope s_Disk___eq__) .none kV_Disk___eq__ dc_Disk___eq__ pm_Disk___eq__ an_Disk___eq__ cd_Disk___eq__ ct_Disk___eq__), sl_Disk___eq__⟩) (mc_Disk___eq__ : PySem.W.codeIn K cd_Disk___eq__ "Disk.__eq__" = true) (mk_Disk___eq__ : PySem.W.keepIn K (.ref f_Disk___eq__) = true)
    {f_Disk_copy : Addr} {od_Disk_copy an_Disk_copy : Option Addr} {sl_Disk_copy : Array (Option Value)} {oc_Disk_copy kV_Disk_copy dc_Disk_copy pm_Disk_copy cd_Disk_copy ct_Disk_copy : Value}
    (ma_Disk_copy : PySem.W.findIn K (.ref e_Disk) "copy" = some (some (.ref f_Disk_copy))) (mf_Disk_copy : PySem.W.isFn K (.ref f_Disk_copy) = true) (ml_Disk_copy : K.lookup f_Disk_copy = some ⟨oc_Disk_copy, od_Disk_copy, .func (PySem.W.fnOf "copy" "Disk.copy" (defArgs s_Disk_copy) (defBody s_Disk_copy) (defScope s_Disk_copy) .none kV_Disk_copy dc_Disk_copy pm_Disk_copy an_Disk_copy cd_Disk_copy ct_Disk_copy), sl_Disk_copy⟩) (mc_Disk_copy : PySem.W.codeIn K cd_Disk_copy "Disk.copy" = true) (mk_Disk_copy : PySem.W.keepIn K (.ref f_Disk_copy) = true)
    (z_int : PySem.W.nsIn K mainGlobals "int" = some none)
    (z_abs : PySem.W.nsIn K mainGlobals "abs" = some none)
    (z_len : PySem.W.nsIn K mainGlobals "len" = some none)
    (z_sum : PySem.W.nsIn K mainGlobals "sum" = some none)
    (z_dict : PySem.W.nsIn K mainGlobals "dict" = some none)
    (z_sorted : PySem.W.nsIn K mainGlobals "sorted" = some none)
    (z_list : PySem.W.nsIn K mainGlobals "list" = some none)
    (z_isinstance : PySem.W.nsIn K mainGlobals "isinstance" = some none)
    (z_bool : PySem.W.nsIn K mainGlobals "bool" = some none)
    (z_repr : PySem.W.nsIn K mainGlobals "repr" = some none)
    (z_range : PySem.W.nsIn K mainGlobals "range" = some none)
    (z_str : PySem.W.nsIn K mainGlobals "str" = some none)
    (z_all : PySem.W.nsIn K mainGlobals "all" = some none)
    (z_tuple : PySem.W.nsIn K mainGlobals "tuple" = some none)
    (z_enumerate : PySem.W.nsIn K mainGlobals "enumerate" = some none)
    (z_reversed : PySem.W.nsIn K mainGlobals "reversed" = some none)
    (z_max : PySem.W.nsIn K mainGlobals "max" = some none)
    (z_min : PySem.W.nsIn K mainGlobals "min" = some none)
    {t_MOST_NAME : Tok} (v_MOST_NAME : PySem.W.nsIn K mainGlobals "MOST_NAME" = some (some (.int (12) t_MOST_NAME)))
    {t_NAME_SIGNS : Tok} (v_NAME_SIGNS : PySem.W.nsIn K mainGlobals "NAME_SIGNS" = some (some (.str "abcdefghijklmnopqrstuvwxyz0123456789-" t_NAME_SIGNS)))
    : ∃ fd : FuncData, (∀ (s : Shared) (v : Value), BindsTo s fd ⟨[v], []⟩ [("_law_script", v)]) ∧ ∀ base : Heap, K.In base → base.Ns mainGlobals mg → FnG l.prog w K mg base CX0 7 fa fd ["_law_script"] (sp_law K) := by
  have hl : PySem.W.nsIn K mainGlobals "law" = some (some (.ref f34)) := a34
  have e := hfa.symm.trans (PySem.W.mg_of X G a34)
  cases e
  have T : Txt K mg e_PowerCut e_InvalidName e_InvalidText e_NoFile e_InvalidKeeps e_InvalidCount e_QueueError e_Disk := ⟨PySem.W.mg_of X G ga_PowerCut, ga_PowerCut, PySem.W.mg_of X G ga_InvalidName, ga_InvalidName, PySem.W.mg_of X G ga_InvalidText, ga_InvalidText, PySem.W.mg_of X G ga_NoFile, ga_NoFile, PySem.W.mg_of X G ga_InvalidKeeps, ga_InvalidKeeps, PySem.W.mg_of X G ga_InvalidCount, ga_InvalidCount, PySem.W.mg_of X G ga_QueueError, ga_QueueError, PySem.W.mg_of X G ga_Disk, ga_Disk, ⟨⟨xa_PowerCut, xb_PowerCut, ex_PowerCut, xd_PowerCut⟩, ty_PowerCut, xe_PowerCut, zhn, zht, xm_PowerCut⟩, sx_PowerCut_InvalidName, sx_PowerCut_InvalidText, sx_PowerCut_InvalidCount, sx_PowerCut_InvalidKeeps, sx_PowerCut_NoFile, sx_PowerCut_PowerCut, ⟨⟨xa_InvalidName, xb_InvalidName, ex_InvalidName, xd_InvalidName⟩, ty_InvalidName, xe_InvalidName, zhn, zht, xm_InvalidName⟩, no_InvalidName, sx_InvalidName_InvalidName, sx_InvalidName_InvalidText, sx_InvalidName_InvalidCount, sx_InvalidName_InvalidKeeps, sx_InvalidName_NoFile, sx_InvalidName_PowerCut, ⟨⟨xa_InvalidText, xb_InvalidText, ex_InvalidText, xd_InvalidText⟩, ty_InvalidText, xe_InvalidText, zhn, zht, xm_InvalidText⟩, no_InvalidText, sx_InvalidText_InvalidName, sx_InvalidText_InvalidText, sx_InvalidText_InvalidCount, sx_InvalidText_InvalidKeeps, sx_InvalidText_NoFile, sx_InvalidText_PowerCut, ⟨⟨xa_NoFile, xb_NoFile, ex_NoFile, xd_NoFile⟩, ty_NoFile, xe_NoFile, zhn, zht, xm_NoFile⟩, no_NoFile, sx_NoFile_InvalidName, sx_NoFile_InvalidText, sx_NoFile_InvalidCount, sx_NoFile_InvalidKeeps, sx_NoFile_NoFile, sx_NoFile_PowerCut, ⟨⟨xa_InvalidKeeps, xb_InvalidKeeps, ex_InvalidKeeps, xd_InvalidKeeps⟩, ty_InvalidKeeps, xe_InvalidKeeps, zhn, zht, xm_InvalidKeeps⟩, no_InvalidKeeps, sx_InvalidKeeps_InvalidName, sx_InvalidKeeps_InvalidText, sx_InvalidKeeps_InvalidCount, sx_InvalidKeeps_InvalidKeeps, sx_InvalidKeeps_NoFile, sx_InvalidKeeps_PowerCut, ⟨⟨xa_InvalidCount, xb_InvalidCount, ex_InvalidCount, xd_InvalidCount⟩, ty_InvalidCount, xe_InvalidCount, zhn, zht, xm_InvalidCount⟩, no_InvalidCount, sx_InvalidCount_InvalidName, sx_InvalidCount_InvalidText, sx_InvalidCount_InvalidCount, sx_InvalidCount_InvalidKeeps, sx_InvalidCount_NoFile, sx_InvalidCount_PowerCut, ⟨.type "type", qa_QueueError, qb_QueueError, qc_QueueError⟩, ⟨kg_Disk, kd_Disk, kp_Disk, ks_Disk⟩, ⟨⟨kg_Disk, kd_Disk, kp_Disk, ks_Disk⟩, xc_Disk, zhn, zht, xo_Disk, kd_Disk, xt_Disk⟩, kf_Disk_files, kf_Disk_marks, kf_Disk_calls, kf_Disk_left, PySem.W.mg_none_of X G z_int, PySem.W.mg_none_of X G z_abs, PySem.W.mg_none_of X G z_len, PySem.W.mg_none_of X G z_sum, PySem.W.mg_none_of X G z_dict, PySem.W.mg_none_of X G z_sorted, PySem.W.mg_none_of X G z_list, PySem.W.mg_none_of X G z_isinstance, PySem.W.mg_none_of X G z_bool, PySem.W.mg_none_of X G z_repr, PySem.W.mg_none_of X G z_range, PySem.W.mg_none_of X G z_str, PySem.W.mg_none_of X G z_all, PySem.W.mg_none_of X G z_tuple, PySem.W.mg_none_of X G z_enumerate, PySem.W.mg_none_of X G z_reversed, PySem.W.mg_none_of X G z_max, PySem.W.mg_none_of X G z_min, ⟨_, PySem.W.mg_of X G v_MOST_NAME, ⟨_, rfl⟩⟩, ⟨_, PySem.W.mg_of X G v_NAME_SIGNS, ⟨_, rfl⟩⟩⟩
  have D__law_box : Df K mg "_law_box" s__law_box ["_law_great"] := df_mk X G a22 l22 c22 k22 fun _ _ _ _ _ _ us hl => match us, hl with | [_], _ => rfl
  have D__law_cell : Df K mg "_law_cell" s__law_cell ["_law_script", "_law_k"] := df_mk X G a21 l21 c21 k21 fun _ _ _ _ _ _ us hl => match us, hl with | [_, _], _ => rfl
  have D__law_own : Df K mg "_law_own" s__law_own [] := df_mk X G a24 l24 c24 k24 fun _ _ _ _ _ _ us hl => match us, hl with | [], _ => rfl
  have D__law_take : Df K mg "_law_take" s__law_take ["_law_box_here", "_law_many"] := df_mk X G a23 l23 c23 k23 fun _ _ _ _ _ _ us hl => match us, hl with | [_, _], _ => rfl
  have D__law_call : Df K mg "_law_call" s__law_call ["_law_box_here", "_law_own_here"] := df_mk X G a26 l26 c26 k26 fun _ _ _ _ _ _ us hl => match us, hl with | [_, _], _ => rfl
  have D__law_wrong : Df K mg "_law_wrong" s__law_wrong ["_law_own_here", "_law_word", "_law_first", "_law_second"] := df_mk X G a28 l28 c28 k28 fun _ _ _ _ _ _ us hl => match us, hl with | [_, _, _, _], _ => rfl
  have D__law_fallen : Df K mg "_law_fallen" s__law_fallen ["_law_files", "_law_keeps"] := df_mk X G a27 l27 c27 k27 fun _ _ _ _ _ _ us hl => match us, hl with | [_, _], _ => rfl
  have D__law_due : Df K mg "_law_due" s__law_due ["_law_own_here", "_law_word", "_law_first", "_law_second"] := df_mk X G a29 l29 c29 k29 fun _ _ _ _ _ _ us hl => match us, hl with | [_, _, _, _], _ => rfl
  have D_is_file_name : Df K mg "is_file_name" s_is_file_name ["value"] := df_mk X G a16 l16 c16 k16 fun _ _ _ _ _ _ us hl => match us, hl with | [_], _ => rfl
  have D_is_signs : Df K mg "is_signs" s_is_signs ["value"] := df_mk X G a12 l12 c12 k12 fun _ _ _ _ _ _ us hl => match us, hl with | [_], _ => rfl
  have D_Disk_use_power : Dm K e_Disk "use_power" "Disk.use_power" s_Disk_use_power ["self"] := ⟨f_Disk_use_power, _, fun_mk ml_Disk_use_power mc_Disk_use_power mk_Disk_use_power, ⟨kg_Disk, kd_Disk, kp_Disk, ks_Disk⟩, ⟨ma_Disk_use_power, mf_Disk_use_power, mk_Disk_use_power⟩, (fun_mk ml_Disk_use_power mc_Disk_use_power mk_Disk_use_power).binds fun _ _ _ _ _ _ us hl => match us, hl with | [_], _ => rfl⟩
  have D_Disk_write : Dm K e_Disk "write" "Disk.write" s_Disk_write ["self", "name", "text"] := ⟨f_Disk_write, _, fun_mk ml_Disk_write mc_Disk_write mk_Disk_write, ⟨kg_Disk, kd_Disk, kp_Disk, ks_Disk⟩, ⟨ma_Disk_write, mf_Disk_write, mk_Disk_write⟩, (fun_mk ml_Disk_write mc_Disk_write mk_Disk_write).binds fun _ _ _ _ _ _ us hl => match us, hl with | [_, _, _], _ => rfl⟩
  have D_Disk_check_file : Dm K e_Disk "check_file" "Disk.check_file" s_Disk_check_file ["self", "name"] := ⟨f_Disk_check_file, _, fun_mk ml_Disk_check_file mc_Disk_check_file mk_Disk_check_file, ⟨kg_Disk, kd_Disk, kp_Disk, ks_Disk⟩, ⟨ma_Disk_check_file, mf_Disk_check_file, mk_Disk_check_file⟩, (fun_mk ml_Disk_check_file mc_Disk_check_file mk_Disk_check_file).binds fun _ _ _ _ _ _ us hl => match us, hl with | [_, _], _ => rfl⟩
  have D_Disk_sync : Dm K e_Disk "sync" "Disk.sync" s_Disk_sync ["self", "name"] := ⟨f_Disk_sync, _, fun_mk ml_Disk_sync mc_Disk_sync mk_Disk_sync, ⟨kg_Disk, kd_Disk, kp_Disk, ks_Disk⟩, ⟨ma_Disk_sync, mf_Disk_sync, mk_Disk_sync⟩, (fun_mk ml_Disk_sync mc_Disk_sync mk_Disk_sync).binds fun _ _ _ _ _ _ us hl => match us, hl with | [_, _], _ => rfl⟩
  have D_Disk_drop : Dm K e_Disk "drop" "Disk.drop" s_Disk_drop ["self", "name"] := ⟨f_Disk_drop, _, fun_mk ml_Disk_drop mc_Disk_drop mk_Disk_drop, ⟨kg_Disk, kd_Disk, kp_Disk, ks_Disk⟩, ⟨ma_Disk_drop, mf_Disk_drop, mk_Disk_drop⟩, (fun_mk ml_Disk_drop mc_Disk_drop mk_Disk_drop).binds fun _ _ _ _ _ _ us hl => match us, hl with | [_, _], _ => rfl⟩
  have D_Disk_read : Dm K e_Disk "read" "Disk.read" s_Disk_read ["self", "name"] := ⟨f_Disk_read, _, fun_mk ml_Disk_read mc_Disk_read mk_Disk_read, ⟨kg_Disk, kd_Disk, kp_Disk, ks_Disk⟩, ⟨ma_Disk_read, mf_Disk_read, mk_Disk_read⟩, (fun_mk ml_Disk_read mc_Disk_read mk_Disk_read).binds fun _ _ _ _ _ _ us hl => match us, hl with | [_, _], _ => rfl⟩
  have D_is_integer : Df K mg "is_integer" s_is_integer ["value"] := df_mk X G a10 l10 c10 k10 fun _ _ _ _ _ _ us hl => match us, hl with | [_], _ => rfl
  have D_is_count : Df K mg "is_count" s_is_count ["value"] := df_mk X G a11 l11 c11 k11 fun _ _ _ _ _ _ us hl => match us, hl with | [_], _ => rfl
  have D_is_list : Df K mg "is_list" s_is_list ["value"] := df_mk X G a9 l9 c9 k9 fun _ _ _ _ _ _ us hl => match us, hl with | [_], _ => rfl
  have D_are_keeps : Df K mg "are_keeps" s_are_keeps ["value"] := df_mk X G a17 l17 c17 k17 fun _ _ _ _ _ _ us hl => match us, hl with | [_], _ => rfl
  have D_signs_kept : Df K mg "signs_kept" s_signs_kept ["signs", "mark", "place", "keeps"] := df_mk X G a18 l18 c18 k18 fun _ _ _ _ _ _ us hl => match us, hl with | [_, _, _, _], _ => rfl
  have D_Disk_names : Dm K e_Disk "names" "Disk.names" s_Disk_names ["self"] := ⟨f_Disk_names, _, fun_mk ml_Disk_names mc_Disk_names mk_Disk_names, ⟨kg_Disk, kd_Disk, kp_Disk, ks_Disk⟩, ⟨ma_Disk_names, mf_Disk_names, mk_Disk_names⟩, (fun_mk ml_Disk_names mc_Disk_names mk_Disk_names).binds fun _ _ _ _ _ _ us hl => match us, hl with | [_], _ => rfl⟩
  have D_Disk_fall : Dm K e_Disk "fall" "Disk.fall" s_Disk_fall ["self", "keeps"] := ⟨f_Disk_fall, _, fun_mk ml_Disk_fall mc_Disk_fall mk_Disk_fall, ⟨kg_Disk, kd_Disk, kp_Disk, ks_Disk⟩, ⟨ma_Disk_fall, mf_Disk_fall, mk_Disk_fall⟩, (fun_mk ml_Disk_fall mc_Disk_fall mk_Disk_fall).binds fun _ _ _ _ _ _ us hl => match us, hl with | [_, _], _ => rfl⟩
  have D_Disk_arm : Dm K e_Disk "arm" "Disk.arm" s_Disk_arm ["self", "ops"] := ⟨f_Disk_arm, _, fun_mk ml_Disk_arm mc_Disk_arm mk_Disk_arm, ⟨kg_Disk, kd_Disk, kp_Disk, ks_Disk⟩, ⟨ma_Disk_arm, mf_Disk_arm, mk_Disk_arm⟩, (fun_mk ml_Disk_arm mc_Disk_arm mk_Disk_arm).binds fun _ _ _ _ _ _ us hl => match us, hl with | [_, _], _ => rfl⟩
  have D__law_told : Df K mg "_law_told" s__law_told ["_law_disk", "_law_word", "_law_first", "_law_second"] := df_mk X G a30 l30 c30 k30 fun _ _ _ _ _ _ us hl => match us, hl with | [_, _, _, _], _ => rfl
  have D__law_twin : Df K mg "_law_twin" s__law_twin ["_law_own_here"] := df_mk X G a25 l25 c25 k25 fun _ _ _ _ _ _ us hl => match us, hl with | [_], _ => rfl
  have D_Disk_ops : Dm K e_Disk "ops" "Disk.ops" s_Disk_ops ["self"] := ⟨f_Disk_ops, _, fun_mk ml_Disk_ops mc_Disk_ops mk_Disk_ops, ⟨kg_Disk, kd_Disk, kp_Disk, ks_Disk⟩, ⟨ma_Disk_ops, mf_Disk_ops, mk_Disk_ops⟩, (fun_mk ml_Disk_ops mc_Disk_ops mk_Disk_ops).binds fun _ _ _ _ _ _ us hl => match us, hl with | [_], _ => rfl⟩
  have D_Disk_synced : Dm K e_Disk "synced" "Disk.synced" s_Disk_synced ["self", "name"] := ⟨f_Disk_synced, _, fun_mk ml_Disk_synced mc_Disk_synced mk_Disk_synced, ⟨kg_Disk, kd_Disk, kp_Disk, ks_Disk⟩, ⟨ma_Disk_synced, mf_Disk_synced, mk_Disk_synced⟩, (fun_mk ml_Disk_synced mc_Disk_synced mk_Disk_synced).binds fun _ _ _ _ _ _ us hl => match us, hl with | [_, _], _ => rfl⟩
  have D__law_alike : Df K mg "_law_alike" s__law_alike ["_law_disk", "_law_own_here"] := df_mk X G a31 l31 c31 k31 fun _ _ _ _ _ _ us hl => match us, hl with | [_, _], _ => rfl
  have D__law_otherwise : Df K mg "_law_otherwise" s__law_otherwise ["_law_own_here"] := df_mk X G a32 l32 c32 k32 fun _ _ _ _ _ _ us hl => match us, hl with | [_], _ => rfl
  have D_Disk___eq__ : Dm K e_Disk "__eq__" "Disk.__eq__" s_Disk___eq__ ["self", "other"] := ⟨f_Disk___eq__, _, fun_mk ml_Disk___eq__ mc_Disk___eq__ mk_Disk___eq__, ⟨kg_Disk, kd_Disk, kp_Disk, ks_Disk⟩, ⟨ma_Disk___eq__, mf_Disk___eq__, mk_Disk___eq__⟩, (fun_mk ml_Disk___eq__ mc_Disk___eq__ mk_Disk___eq__).binds fun _ _ _ _ _ _ us hl => match us, hl with | [_, _], _ => rfl⟩
  have D__law_equal_right : Df K mg "_law_equal_right" s__law_equal_right ["_law_disks", "_law_owns"] := df_mk X G a33 l33 c33 k33 fun _ _ _ _ _ _ us hl => match us, hl with | [_, _], _ => rfl
  have D_Disk_copy : Dm K e_Disk "copy" "Disk.copy" s_Disk_copy ["self"] := ⟨f_Disk_copy, _, fun_mk ml_Disk_copy mc_Disk_copy mk_Disk_copy, ⟨kg_Disk, kd_Disk, kp_Disk, ks_Disk⟩, ⟨ma_Disk_copy, mf_Disk_copy, mk_Disk_copy⟩, (fun_mk ml_Disk_copy mc_Disk_copy mk_Disk_copy).binds fun _ _ _ _ _ _ us hl => match us, hl with | [_], _ => rfl⟩
  have D_law : Df K mg "law" s_law ["_law_script"] := df_mk X G a34 l34 c34 k34 fun _ _ _ _ _ _ us hl => match us, hl with | [_], _ => rfl
  refine ⟨PySem.W.fnOf "law" "law" (defArgs s_law) (defBody s_law) (defScope s_law) .none kV34 dc34 pm34 an34 cd34 ct34, fun s v => .of_eq rfl, fun base _ _ => ?_⟩
  have R_PowerCut : Er0 K mg "PowerCut" e_PowerCut := ⟨PySem.W.mg_of X G ga_PowerCut, zx_PowerCut, kc_PowerCut, ex_PowerCut, ty_PowerCut⟩
  have EC_InvalidName : ErrC K e_InvalidName e_QueueError := ⟨⟨nm_InvalidName, q_InvalidName, N_InvalidName, bs_InvalidName, sn_InvalidName, sub_InvalidName, ab_InvalidName, col_InvalidName, dd_InvalidName, k0_InvalidName, k1_InvalidName, k2_InvalidName, k3_InvalidName, k5_InvalidName, cl_InvalidName⟩, sa_InvalidName, ex_InvalidName, ty_InvalidName, kc_InvalidName⟩
  have R_InvalidName : Er l.prog w K mg base 1 "InvalidName" "given" e_InvalidName := ⟨PySem.W.mg_of X G ga_InvalidName, e_QueueError, fI_InvalidName, _, ["self", "given"], EC_InvalidName, ia_InvalidName, it_InvalidName, oki_InvalidName T (fun_mk il_InvalidName ic_InvalidName ik_InvalidName) EC_InvalidName, (fun_mk il_InvalidName ic_InvalidName ik_InvalidName).binds fun _ _ _ _ _ _ us hl => match us, hl with | [_, _], _ => rfl⟩
  have EC_InvalidText : ErrC K e_InvalidText e_QueueError := ⟨⟨nm_InvalidText, q_InvalidText, N_InvalidText, bs_InvalidText, sn_InvalidText, sub_InvalidText, ab_InvalidText, col_InvalidText, dd_InvalidText, k0_InvalidText, k1_InvalidText, k2_InvalidText, k3_InvalidText, k5_InvalidText, cl_InvalidText⟩, sa_InvalidText, ex_InvalidText, ty_InvalidText, kc_InvalidText⟩
  have R_InvalidText : Er l.prog w K mg base 1 "InvalidText" "given" e_InvalidText := ⟨PySem.W.mg_of X G ga_InvalidText, e_QueueError, fI_InvalidText, _, ["self", "given"], EC_InvalidText, ia_InvalidText, it_InvalidText, oki_InvalidText T (fun_mk il_InvalidText ic_InvalidText ik_InvalidText) EC_InvalidText, (fun_mk il_InvalidText ic_InvalidText ik_InvalidText).binds fun _ _ _ _ _ _ us hl => match us, hl with | [_, _], _ => rfl⟩
  have EC_NoFile : ErrC K e_NoFile e_QueueError := ⟨⟨nm_NoFile, q_NoFile, N_NoFile, bs_NoFile, sn_NoFile, sub_NoFile, ab_NoFile, col_NoFile, dd_NoFile, k0_NoFile, k1_NoFile, k2_NoFile, k3_NoFile, k5_NoFile, cl_NoFile⟩, sa_NoFile, ex_NoFile, ty_NoFile, kc_NoFile⟩
  have R_NoFile : Er l.prog w K mg base 1 "NoFile" "name" e_NoFile := ⟨PySem.W.mg_of X G ga_NoFile, e_QueueError, fI_NoFile, _, ["self", "name"], EC_NoFile, ia_NoFile, it_NoFile, oki_NoFile T (fun_mk il_NoFile ic_NoFile ik_NoFile) EC_NoFile, (fun_mk il_NoFile ic_NoFile ik_NoFile).binds fun _ _ _ _ _ _ us hl => match us, hl with | [_, _], _ => rfl⟩
  have EC_InvalidKeeps : ErrC K e_InvalidKeeps e_QueueError := ⟨⟨nm_InvalidKeeps, q_InvalidKeeps, N_InvalidKeeps, bs_InvalidKeeps, sn_InvalidKeeps, sub_InvalidKeeps, ab_InvalidKeeps, col_InvalidKeeps, dd_InvalidKeeps, k0_InvalidKeeps, k1_InvalidKeeps, k2_InvalidKeeps, k3_InvalidKeeps, k5_InvalidKeeps, cl_InvalidKeeps⟩, sa_InvalidKeeps, ex_InvalidKeeps, ty_InvalidKeeps, kc_InvalidKeeps⟩
  have R_InvalidKeeps : Er l.prog w K mg base 1 "InvalidKeeps" "given" e_InvalidKeeps := ⟨PySem.W.mg_of X G ga_InvalidKeeps, e_QueueError, fI_InvalidKeeps, _, ["self", "given"], EC_InvalidKeeps, ia_InvalidKeeps, it_InvalidKeeps, oki_InvalidKeeps T (fun_mk il_InvalidKeeps ic_InvalidKeeps ik_InvalidKeeps) EC_InvalidKeeps, (fun_mk il_InvalidKeeps ic_InvalidKeeps ik_InvalidKeeps).binds fun _ _ _ _ _ _ us hl => match us, hl with | [_, _], _ => rfl⟩
  have EC_InvalidCount : ErrC K e_InvalidCount e_QueueError := ⟨⟨nm_InvalidCount, q_InvalidCount, N_InvalidCount, bs_InvalidCount, sn_InvalidCount, sub_InvalidCount, ab_InvalidCount, col_InvalidCount, dd_InvalidCount, k0_InvalidCount, k1_InvalidCount, k2_InvalidCount, k3_InvalidCount, k5_InvalidCount, cl_InvalidCount⟩, sa_InvalidCount, ex_InvalidCount, ty_InvalidCount, kc_InvalidCount⟩
  have R_InvalidCount : Er l.prog w K mg base 1 "InvalidCount" "given" e_InvalidCount := ⟨PySem.W.mg_of X G ga_InvalidCount, e_QueueError, fI_InvalidCount, _, ["self", "given"], EC_InvalidCount, ia_InvalidCount, it_InvalidCount, oki_InvalidCount T (fun_mk il_InvalidCount ic_InvalidCount ik_InvalidCount) EC_InvalidCount, (fun_mk il_InvalidCount ic_InvalidCount ik_InvalidCount).binds fun _ _ _ _ _ _ us hl => match us, hl with | [_, _], _ => rfl⟩
  have C__law_box : Ct l.prog w K mg base CX0 1 "_law_box" ["_law_great"] (sp__law_box K) := ok__law_box T D__law_box
  have C__law_cell : Ct l.prog w K mg base CX0 1 "_law_cell" ["_law_script", "_law_k"] (sp__law_cell K) := ok__law_cell T D__law_cell
  have C__law_own : Ct l.prog w K mg base CX0 1 "_law_own" [] (sp__law_own K) := ok__law_own T D__law_own
  have C__law_take : Ct l.prog w K mg base CX0 1 "_law_take" ["_law_box_here", "_law_many"] (sp__law_take K) := ok__law_take T D__law_take
  have C__law_call : Ct l.prog w K mg base CX0 2 "_law_call" ["_law_box_here", "_law_own_here"] (sp__law_call K) := ok__law_call T C__law_take D__law_call
  have C__law_wrong : Cg l.prog w K mg base CX0 1 "_law_wrong" ["_law_own_here", "_law_word", "_law_first", "_law_second"] (sp__law_wrong K) := ok__law_wrong T D__law_wrong
  have C__law_fallen : Ct l.prog w K mg base CX0 1 "_law_fallen" ["_law_files", "_law_keeps"] (sp__law_fallen K) := ok__law_fallen T D__law_fallen
  have C__law_due : Cg l.prog w K mg base CX0 2 "_law_due" ["_law_own_here", "_law_word", "_law_first", "_law_second"] (sp__law_due K) := ok__law_due T C__law_wrong C__law_fallen D__law_due
  have C_is_file_name : Ct l.prog w K mg base CX0 1 "is_file_name" ["value"] (sp_is_file_name K) := ok_is_file_name T D_is_file_name
  have C_is_signs : Ct l.prog w K mg base CX0 1 "is_signs" ["value"] (sp_is_signs K) := ok_is_signs T D_is_signs
  have M_Disk_use_power : Mt l.prog w K mg base (L2.CX l.prog w) 3 e_Disk "use_power" ["self"] (sp_Disk_use_power K) := ok_Disk_use_power T R_PowerCut D_Disk_use_power
  have M_Disk_write : Mt l.prog w K mg base (L2.CX l.prog w) 4 e_Disk "write" ["self", "name", "text"] (sp_Disk_write K) := ok_Disk_write T R_InvalidName R_InvalidText C_is_file_name C_is_signs M_Disk_use_power D_Disk_write
  have M_Disk_check_file : Mt l.prog w K mg base (L2.CX l.prog w) 3 e_Disk "check_file" ["self", "name"] (sp_Disk_check_file K) := ok_Disk_check_file T R_InvalidName R_NoFile C_is_file_name D_Disk_check_file
  have M_Disk_sync : Mt l.prog w K mg base (L2.CX l.prog w) 4 e_Disk "sync" ["self", "name"] (sp_Disk_sync K) := ok_Disk_sync T M_Disk_check_file M_Disk_use_power D_Disk_sync
  have M_Disk_drop : Mt l.prog w K mg base (L2.CX l.prog w) 4 e_Disk "drop" ["self", "name"] (sp_Disk_drop K) := ok_Disk_drop T M_Disk_check_file M_Disk_use_power D_Disk_drop
  have M_Disk_read : Mt l.prog w K mg base (L2.CX l.prog w) 4 e_Disk "read" ["self", "name"] (sp_Disk_read K) := ok_Disk_read T M_Disk_check_file D_Disk_read
  have C_is_integer : Ct l.prog w K mg base CX0 1 "is_integer" ["value"] (sp_is_integer K) := ok_is_integer T D_is_integer
  have C_is_count : Ct l.prog w K mg base CX0 2 "is_count" ["value"] (sp_is_count K) := ok_is_count C_is_integer D_is_count
  have C_is_list : Ct l.prog w K mg base CX0 1 "is_list" ["value"] (sp_is_list K) := ok_is_list T D_is_list
  have C_are_keeps : Ct l.prog w K mg base CX0 3 "are_keeps" ["value"] (sp_are_keeps K) := ok_are_keeps T C_is_count C_is_list D_are_keeps
  have C_signs_kept : Ct l.prog w K mg base CX0 1 "signs_kept" ["signs", "mark", "place", "keeps"] (sp_signs_kept K) := ok_signs_kept T D_signs_kept
  have M_Disk_names : Mt l.prog w K mg base CX0 1 e_Disk "names" ["self"] (sp_Disk_names K) := ok_Disk_names T D_Disk_names
  have M_Disk_fall : Mt l.prog w K mg base (L2.CX l.prog w) 4 e_Disk "fall" ["self", "keeps"] (sp_Disk_fall K) := ok_Disk_fall T R_InvalidKeeps C_are_keeps C_signs_kept M_Disk_names D_Disk_fall
  have M_Disk_arm : Mt l.prog w K mg base (L2.CX l.prog w) 3 e_Disk "arm" ["self", "ops"] (sp_Disk_arm K) := ok_Disk_arm T R_InvalidCount C_is_count D_Disk_arm
  have MK_Disk_arm_ops : MtK l.prog w K mg base (L2.CX l.prog w) 3 e_Disk "arm" ["self", "ops"] ["ops"] perm_0 (sp_Disk_arm K) := M_Disk_arm.kw D_Disk_arm (fun _ _ _ _ _ _ _ ws hl => match ws, hl with | [_], _ => rfl) perm_0_ok
  have C__law_told : Ct l.prog w K mg base CX0 5 "_law_told" ["_law_disk", "_law_word", "_law_first", "_law_second"] (sp__law_told K) := ok__law_told T M_Disk_write M_Disk_sync M_Disk_drop M_Disk_read M_Disk_fall MK_Disk_arm_ops D__law_told
  have C__law_twin : Ct l.prog w K mg base CX0 1 "_law_twin" ["_law_own_here"] (sp__law_twin K) := ok__law_twin T D__law_twin
  have M_Disk_ops : Mt l.prog w K mg base CX0 1 e_Disk "ops" ["self"] (sp_Disk_ops K) := ok_Disk_ops T D_Disk_ops
  have M_Disk_synced : Mt l.prog w K mg base (L2.CX l.prog w) 4 e_Disk "synced" ["self", "name"] (sp_Disk_synced K) := ok_Disk_synced T M_Disk_check_file D_Disk_synced
  have C__law_alike : Cg l.prog w K mg base CX0 5 "_law_alike" ["_law_disk", "_law_own_here"] (sp__law_alike K) := ok__law_alike T M_Disk_ops M_Disk_names M_Disk_synced M_Disk_read D__law_alike
  have N_Disk : Kn l.prog w K mg base 1 "Disk" e_Disk (sp_Disk___init__ K) := ⟨f_Disk___init__, _, ["self"], ⟨km_Disk, ma_Disk___init__, mf_Disk___init__, kk_Disk⟩, ok_Disk___init__ T (fun_mk ml_Disk___init__ mc_Disk___init__ mk_Disk___init__), PySem.W.mg_of X G ga_Disk, (fun_mk ml_Disk___init__ mc_Disk___init__ mk_Disk___init__).binds fun _ _ _ _ _ _ us hl => match us, hl with | [_], _ => rfl⟩
  have C__law_otherwise : Ct l.prog w K mg base CX0 5 "_law_otherwise" ["_law_own_here"] (sp__law_otherwise K) := ok__law_otherwise T M_Disk_write M_Disk_sync M_Disk_drop N_Disk D__law_otherwise
  have M_Disk___eq__ : Mt l.prog w K mg base CX0 1 e_Disk "__eq__" ["self", "other"] (sp_Disk___eq__ K) := ok_Disk___eq__ T D_Disk___eq__
  have OE_Disk : OwnE l.prog w K mg base 1 e_Disk (sp_Disk___eq__ K) := M_Disk___eq__.own xn_Disk xo_Disk
  have C__law_equal_right : Cg l.prog w K mg base CX0 6 "_law_equal_right" ["_law_disks", "_law_owns"] (sp__law_equal_right K) := ok__law_equal_right T C__law_otherwise OE_Disk D__law_equal_right
  have M_Disk_copy : Mt l.prog w K mg base CX0 3 e_Disk "copy" ["self"] (sp_Disk_copy K) := ok_Disk_copy T N_Disk D_Disk_copy
  have C_law : Cg l.prog w K mg base CX0 7 "law" ["_law_script"] (sp_law K) := ok_law T C__law_box C__law_cell C__law_own C__law_take C__law_call C__law_due C__law_told C__law_twin C__law_alike C__law_equal_right M_Disk_copy N_Disk D_law
  exact law_gn C_law hfa l34
theorem walk {l : PySem.W.OpenLaw} {q : Program} {loose : List Str} {XP : (Str → Option Value) → Heap → Prop} {YP : World → Heap → Prop} {d : DefRec} {K : Params → PySem.W.Frag} (hn : l.most = some 63) (hdf : d.params.defaults = [])
    (hY : ∀ (w : World) (h : Heap), YP w h → (K w.params).In h)
    (F : ∀ (w : World) (mg : Str → Option Value) (fa : Addr) (h : Heap), (K w.params).In h → h.Ns mainGlobals mg → mg d.name = some (.ref fa) →
      ∃ fd : FuncData, (∀ (s : Shared) (u : Value), BindsTo s fd ⟨[u], []⟩ [("_law_script", u)]) ∧ ∀ base : Heap, (K w.params).In base → base.Ns mainGlobals mg → FnG l.prog w (K w.params) mg base CX0 7 fa fd ["_law_script"] (sp_law (K w.params))) :
    PySem.W.WalkO q loose XP YP l.row.toRowW d [] (fun f vs => PySem.call f vs) :=
  walk_g (n := 63) (k := 7) (x := "_law_script") (CX := CX0) (sp := fun w => sp_law (K w.params)) hn (by decide) hdf ⟨⟨rfl, by decide, by decide⟩, rfl⟩ hY F (fun _ _ a ns hl hS => law_asks a ns hl hS) fun _ _ _ _ z => z
end L08_

open PySem PySem.W PyProof.Rows in
set_option maxRecDepth 100000 in
set_option maxHeartbeats 0 in
theorem PySem.Challenge.cw_inorderonce_k08_power_copies_and_equalit_holds : PySem.Challenge.rw_inorderonce_k08_power_copies_and_equalit.Holds := by
  w_on; o_law; k_head; (case hw => w_witness2)
  k_fill
  refine L08_.walk (l := PySem.Challenge.rw_inorderonce_k08_power_copies_and_equalit) rfl rfl (fun w h Y => PySem.W.kIn_of Y) ?F
  case F =>
    intro w mg fa h KX G hmg
    refine' L08_.all_mk KX G hmg ?a22 ?l22 ?c22 ?k22 ?a21 ?l21 ?c21 ?k21 ?a24 ?l24 ?c24 ?k24 ?a23 ?l23 ?c23 ?k23 ?a26 ?l26 ?c26 ?k26 ?a28 ?l28 ?c28 ?k28 ?a27 ?l27 ?c27 ?k27 ?a29 ?l29 ?c29 ?k29 ?a16 ?l16 ?c16 ?k16 ?a12 ?l12 ?c12 ?k12 ?a10 ?l10 ?c10 ?k10 ?a11 ?l11 ?c11 ?k11 ?a9 ?l9 ?c9 ?k9 ?a17 ?l17 ?c17 ?k17 ?a18 ?l18 ?c18 ?k18 ?a30 ?l30 ?c30 ?k30 ?a25 ?l25 ?c25 ?k25 ?a31 ?l31 ?c31 ?k31 ?a32 ?l32 ?c32 ?k32 ?a33 ?l33 ?c33 ?k33 ?a34 ?l34 ?c34 ?k34 ?zhn ?zht ?ga_PowerCut ?ga_InvalidName ?ga_InvalidText ?ga_NoFile ?ga_InvalidKeeps ?ga_InvalidCount ?ga_QueueError ?ga_Disk ?qa_QueueError ?qb_QueueError ?qc_QueueError ?zx_PowerCut ?ex_PowerCut ?ty_PowerCut ?kc_PowerCut ?xa_PowerCut ?xb_PowerCut ?xd_PowerCut ?xe_PowerCut ?xm_PowerCut ?sx_PowerCut_InvalidName ?sx_PowerCut_InvalidText ?sx_PowerCut_InvalidCount ?sx_PowerCut_InvalidKeeps ?sx_PowerCut_NoFile ?sx_PowerCut_PowerCut ?cl_InvalidName ?sa_InvalidName ?ex_InvalidName ?ty_InvalidName ?kc_InvalidName ?xa_InvalidName ?xb_InvalidName ?xd_InvalidName ?xe_InvalidName ?xm_InvalidName ?no_InvalidName ?ia_InvalidName ?it_InvalidName ?il_InvalidName ?ic_InvalidName ?ik_InvalidName ?sx_InvalidName_InvalidName ?sx_InvalidName_InvalidText ?sx_InvalidName_InvalidCount ?sx_InvalidName_InvalidKeeps ?sx_InvalidName_NoFile ?sx_InvalidName_PowerCut ?cl_InvalidText ?sa_InvalidText ?ex_InvalidText ?ty_InvalidText ?kc_InvalidText ?xa_InvalidText ?xb_InvalidText ?xd_InvalidText ?xe_InvalidText ?xm_InvalidText ?no_InvalidText ?ia_InvalidText ?it_InvalidText ?il_InvalidText ?ic_InvalidText ?ik_InvalidText ?sx_InvalidText_InvalidName ?sx_InvalidText_InvalidText ?sx_InvalidText_InvalidCount ?sx_InvalidText_InvalidKeeps ?sx_InvalidText_NoFile ?sx_InvalidText_PowerCut ?cl_NoFile ?sa_NoFile ?ex_NoFile ?ty_NoFile ?kc_NoFile ?xa_NoFile ?xb_NoFile ?xd_NoFile ?xe_NoFile ?xm_NoFile ?no_NoFile ?ia_NoFile ?it_NoFile ?il_NoFile ?ic_NoFile ?ik_NoFile ?sx_NoFile_InvalidName ?sx_NoFile_InvalidText ?sx_NoFile_InvalidCount ?sx_NoFile_InvalidKeeps ?sx_NoFile_NoFile ?sx_NoFile_PowerCut ?cl_InvalidKeeps ?sa_InvalidKeeps ?ex_InvalidKeeps ?ty_InvalidKeeps ?kc_InvalidKeeps ?xa_InvalidKeeps ?xb_InvalidKeeps ?xd_InvalidKeeps ?xe_InvalidKeeps ?xm_InvalidKeeps ?no_InvalidKeeps ?ia_InvalidKeeps ?it_InvalidKeeps ?il_InvalidKeeps ?ic_InvalidKeeps ?ik_InvalidKeeps ?sx_InvalidKeeps_InvalidName ?sx_InvalidKeeps_InvalidText ?sx_InvalidKeeps_InvalidCount ?sx_InvalidKeeps_InvalidKeeps ?sx_InvalidKeeps_NoFile ?sx_InvalidKeeps_PowerCut ?cl_InvalidCount ?sa_InvalidCount ?ex_InvalidCount ?ty_InvalidCount ?kc_InvalidCount ?xa_InvalidCount ?xb_InvalidCount ?xd_InvalidCount ?xe_InvalidCount ?xm_InvalidCount ?no_InvalidCount ?ia_InvalidCount ?it_InvalidCount ?il_InvalidCount ?ic_InvalidCount ?ik_InvalidCount ?sx_InvalidCount_InvalidName ?sx_InvalidCount_InvalidText ?sx_InvalidCount_InvalidCount ?sx_InvalidCount_InvalidKeeps ?sx_InvalidCount_NoFile ?sx_InvalidCount_PowerCut ?kg_Disk ?kd_Disk ?kp_Disk ?ks_Disk ?xn_Disk ?xo_Disk ?xc_Disk ?xt_Disk ?kf_Disk_files ?kf_Disk_marks ?kf_Disk_calls ?kf_Disk_left ?km_Disk ?kk_Disk ?ma_Disk_use_power ?mf_Disk_use_power ?ml_Disk_use_power ?mc_Disk_use_power ?mk_Disk_use_power ?ma_Disk_write ?mf_Disk_write ?ml_Disk_write ?mc_Disk_write ?mk_Disk_write ?ma_Disk_check_file ?mf_Disk_check_file ?ml_Disk_check_file ?mc_Disk_check_file ?mk_Disk_check_file ?ma_Disk_sync ?mf_Disk_sync ?ml_Disk_sync ?mc_Disk_sync ?mk_Disk_sync ?ma_Disk_drop ?mf_Disk_drop ?ml_Disk_drop ?mc_Disk_drop ?mk_Disk_drop ?ma_Disk_read ?mf_Disk_read ?ml_Disk_read ?mc_Disk_read ?mk_Disk_read ?ma_Disk_names ?mf_Disk_names ?ml_Disk_names ?mc_Disk_names ?mk_Disk_names ?ma_Disk_fall ?mf_Disk_fall ?ml_Disk_fall ?mc_Disk_fall ?mk_Disk_fall ?ma_Disk_arm ?mf_Disk_arm ?ml_Disk_arm ?mc_Disk_arm ?mk_Disk_arm ?ma_Disk_ops ?mf_Disk_ops ?ml_Disk_ops ?mc_Disk_ops ?mk_Disk_ops ?ma_Disk_synced ?mf_Disk_synced ?ml_Disk_synced ?mc_Disk_synced ?mk_Disk_synced ?ma_Disk___init__ ?mf_Disk___init__ ?ml_Disk___init__ ?mc_Disk___init__ ?mk_Disk___init__ ?ma_Disk___eq__ ?mf_Disk___eq__ ?ml_Disk___eq__ ?mc_Disk___eq__ ?mk_Disk___eq__ ?ma_Disk_copy ?mf_Disk_copy ?ml_Disk_copy ?mc_Disk_copy ?mk_Disk_copy ?z_int ?z_abs ?z_len ?z_sum ?z_dict ?z_sorted ?z_list ?z_isinstance ?z_bool ?z_repr ?z_range ?z_str ?z_all ?z_tuple ?z_enumerate ?z_reversed ?z_max ?z_min ?v_MOST_NAME ?v_NAME_SIGNS
    (case a22 => k_is)
    (case l22 => k_is)
    (case c22 => k_is)
    (case k22 => k_is)
    (case a21 => k_is)
    (case l21 => k_is)
    (case c21 => k_is)
    (case k21 => k_is)
    (case a24 => k_is)
    (case l24 => k_is)
    (case c24 => k_is)
    (case k24 => k_is)
    (case a23 => k_is)
    (case l23 => k_is)
    (case c23 => k_is)
    (case k23 => k_is)
    (case a26 => k_is)
    (case l26 => k_is)
    (case c26 => k_is)
    (case k26 => k_is)
    (case a28 => k_is)
    (case l28 => k_is)
    (case c28 => k_is)
    (case k28 => k_is)
    (case a27 => k_is)
    (case l27 => k_is)
    (case c27 => k_is)
    (case k27 => k_is)
    (case a29 => k_is)
    (case l29 => k_is)
    (case c29 => k_is)
    (case k29 => k_is)
    (case a16 => k_is)
    (case l16 => k_is)
    (case c16 => k_is)
    (case k16 => k_is)
    (case a12 => k_is)
    (case l12 => k_is)
    (case c12 => k_is)
    (case k12 => k_is)
    (case a10 => k_is)
    (case l10 => k_is)
    (case c10 => k_is)
    (case k10 => k_is)
    (case a11 => k_is)
    (case l11 => k_is)
    (case c11 => k_is)
    (case k11 => k_is)
    (case a9 => k_is)
    (case l9 => k_is)
    (case c9 => k_is)
    (case k9 => k_is)
    (case a17 => k_is)
    (case l17 => k_is)
    (case c17 => k_is)
    (case k17 => k_is)
    (case a18 => k_is)
    (case l18 => k_is)
    (case c18 => k_is)
    (case k18 => k_is)
    (case a30 => k_is)
    (case l30 => k_is)
    (case c30 => k_is)
    (case k30 => k_is)
    (case a25 => k_is)
    (case l25 => k_is)
    (case c25 => k_is)
    (case k25 => k_is)
    (case a31 => k_is)
    (case l31 => k_is)
    (case c31 => k_is)
    (case k31 => k_is)
    (case a32 => k_is)
    (case l32 => k_is)
    (case c32 => k_is)
    (case k32 => k_is)
    (case a33 => k_is)
    (case l33 => k_is)
    (case c33 => k_is)
    (case k33 => k_is)
    (case a34 => k_is)
    (case l34 => k_is)
    (case c34 => k_is)
    (case k34 => k_is)
    (case zhn => k_is)
    (case zht => k_is)
    (case ga_PowerCut => k_is)
    (case ga_InvalidName => k_is)
    (case ga_InvalidText => k_is)
    (case ga_NoFile => k_is)
    (case ga_InvalidKeeps => k_is)
    (case ga_InvalidCount => k_is)
    (case ga_QueueError => k_is)
    (case ga_Disk => k_is)
    (case qa_QueueError => k_is)
    (case qb_QueueError => k_is)
    (case qc_QueueError => k_is)
    (case zx_PowerCut => k_exc)
    (case ex_PowerCut => k_is)
    (case ty_PowerCut => k_is)
    (case kc_PowerCut => k_is)
    (case xa_PowerCut => k_is)
    (case xb_PowerCut => k_is)
    (case xd_PowerCut => k_is)
    (case xe_PowerCut => k_is)
    (case xm_PowerCut => k_is)
    (case sx_PowerCut_InvalidName => k_is)
    (case sx_PowerCut_InvalidText => k_is)
    (case sx_PowerCut_InvalidCount => k_is)
    (case sx_PowerCut_InvalidKeeps => k_is)
    (case sx_PowerCut_NoFile => k_is)
    (case sx_PowerCut_PowerCut => k_is)
    (case cl_InvalidName => k_is)
    (case sa_InvalidName => k_is)
    (case ex_InvalidName => k_is)
    (case ty_InvalidName => k_is)
    (case kc_InvalidName => k_is)
    (case xa_InvalidName => k_is)
    (case xb_InvalidName => k_is)
    (case xd_InvalidName => k_is)
    (case xe_InvalidName => k_is)
    (case xm_InvalidName => k_is)
    (case no_InvalidName => k_is)
    (case ia_InvalidName => k_is)
    (case it_InvalidName => k_is)
    (case il_InvalidName => k_is)
    (case ic_InvalidName => k_is)
    (case ik_InvalidName => k_is)
    (case sx_InvalidName_InvalidName => k_is)
    (case sx_InvalidName_InvalidText => k_is)
    (case sx_InvalidName_InvalidCount => k_is)
    (case sx_InvalidName_InvalidKeeps => k_is)
    (case sx_InvalidName_NoFile => k_is)
    (case sx_InvalidName_PowerCut => k_is)
    (case cl_InvalidText => k_is)
    (case sa_InvalidText => k_is)
    (case ex_InvalidText => k_is)
    (case ty_InvalidText => k_is)
    (case kc_InvalidText => k_is)
    (case xa_InvalidText => k_is)
    (case xb_InvalidText => k_is)
    (case xd_InvalidText => k_is)
    (case xe_InvalidText => k_is)
    (case xm_InvalidText => k_is)
    (case no_InvalidText => k_is)
    (case ia_InvalidText => k_is)
    (case it_InvalidText => k_is)
    (case il_InvalidText => k_is)
    (case ic_InvalidText => k_is)
    (case ik_InvalidText => k_is)
    (case sx_InvalidText_InvalidName => k_is)
    (case sx_InvalidText_InvalidText => k_is)
    (case sx_InvalidText_InvalidCount => k_is)
    (case sx_InvalidText_InvalidKeeps => k_is)
    (case sx_InvalidText_NoFile => k_is)
    (case sx_InvalidText_PowerCut => k_is)
    (case cl_NoFile => k_is)
    (case sa_NoFile => k_is)
    (case ex_NoFile => k_is)
    (case ty_NoFile => k_is)
    (case kc_NoFile => k_is)
    (case xa_NoFile => k_is)
    (case xb_NoFile => k_is)
    (case xd_NoFile => k_is)
    (case xe_NoFile => k_is)
    (case xm_NoFile => k_is)
    (case no_NoFile => k_is)
    (case ia_NoFile => k_is)
    (case it_NoFile => k_is)
    (case il_NoFile => k_is)
    (case ic_NoFile => k_is)
    (case ik_NoFile => k_is)
    (case sx_NoFile_InvalidName => k_is)
    (case sx_NoFile_InvalidText => k_is)
    (case sx_NoFile_InvalidCount => k_is)
    (case sx_NoFile_InvalidKeeps => k_is)
    (case sx_NoFile_NoFile => k_is)
    (case sx_NoFile_PowerCut => k_is)
    (case cl_InvalidKeeps => k_is)
    (case sa_InvalidKeeps => k_is)
    (case ex_InvalidKeeps => k_is)
    (case ty_InvalidKeeps => k_is)
    (case kc_InvalidKeeps => k_is)
    (case xa_InvalidKeeps => k_is)
    (case xb_InvalidKeeps => k_is)
    (case xd_InvalidKeeps => k_is)
    (case xe_InvalidKeeps => k_is)
    (case xm_InvalidKeeps => k_is)
    (case no_InvalidKeeps => k_is)
    (case ia_InvalidKeeps => k_is)
    (case it_InvalidKeeps => k_is)
    (case il_InvalidKeeps => k_is)
    (case ic_InvalidKeeps => k_is)
    (case ik_InvalidKeeps => k_is)
    (case sx_InvalidKeeps_InvalidName => k_is)
    (case sx_InvalidKeeps_InvalidText => k_is)
    (case sx_InvalidKeeps_InvalidCount => k_is)
    (case sx_InvalidKeeps_InvalidKeeps => k_is)
    (case sx_InvalidKeeps_NoFile => k_is)
    (case sx_InvalidKeeps_PowerCut => k_is)
    (case cl_InvalidCount => k_is)
    (case sa_InvalidCount => k_is)
    (case ex_InvalidCount => k_is)
    (case ty_InvalidCount => k_is)
    (case kc_InvalidCount => k_is)
    (case xa_InvalidCount => k_is)
    (case xb_InvalidCount => k_is)
    (case xd_InvalidCount => k_is)
    (case xe_InvalidCount => k_is)
    (case xm_InvalidCount => k_is)
    (case no_InvalidCount => k_is)
    (case ia_InvalidCount => k_is)
    (case it_InvalidCount => k_is)
    (case il_InvalidCount => k_is)
    (case ic_InvalidCount => k_is)
    (case ik_InvalidCount => k_is)
    (case sx_InvalidCount_InvalidName => k_is)
    (case sx_InvalidCount_InvalidText => k_is)
    (case sx_InvalidCount_InvalidCount => k_is)
    (case sx_InvalidCount_InvalidKeeps => k_is)
    (case sx_InvalidCount_NoFile => k_is)
    (case sx_InvalidCount_PowerCut => k_is)
    (case kg_Disk => k_is)
    (case kd_Disk => k_is)
    (case kp_Disk => k_is)
    (case ks_Disk => k_is)
    (case xn_Disk => k_is)
    (case xo_Disk => k_is)
    (case xc_Disk => k_is)
    (case xt_Disk => k_is)
    (case kf_Disk_files => k_is)
    (case kf_Disk_marks => k_is)
    (case kf_Disk_calls => k_is)
    (case kf_Disk_left => k_is)
    (case km_Disk => k_is)
    (case kk_Disk => k_is)
    (case ma_Disk_use_power => k_is)
    (case mf_Disk_use_power => k_is)
    (case ml_Disk_use_power => k_is)
    (case mc_Disk_use_power => k_is)
    (case mk_Disk_use_power => k_is)
    (case ma_Disk_write => k_is)
    (case mf_Disk_write => k_is)
    (case ml_Disk_write => k_is)
    (case mc_Disk_write => k_is)
    (case mk_Disk_write => k_is)
    (case ma_Disk_check_file => k_is)
    (case mf_Disk_check_file => k_is)
    (case ml_Disk_check_file => k_is)
    (case mc_Disk_check_file => k_is)
    (case mk_Disk_check_file => k_is)
    (case ma_Disk_sync => k_is)
    (case mf_Disk_sync => k_is)
    (case ml_Disk_sync => k_is)
    (case mc_Disk_sync => k_is)
    (case mk_Disk_sync => k_is)
    (case ma_Disk_drop => k_is)
    (case mf_Disk_drop => k_is)
    (case ml_Disk_drop => k_is)
    (case mc_Disk_drop => k_is)
    (case mk_Disk_drop => k_is)
    (case ma_Disk_read => k_is)
    (case mf_Disk_read => k_is)
    (case ml_Disk_read => k_is)
    (case mc_Disk_read => k_is)
    (case mk_Disk_read => k_is)
    (case ma_Disk_names => k_is)
    (case mf_Disk_names => k_is)
    (case ml_Disk_names => k_is)
    (case mc_Disk_names => k_is)
    (case mk_Disk_names => k_is)
    (case ma_Disk_fall => k_is)
    (case mf_Disk_fall => k_is)
    (case ml_Disk_fall => k_is)
    (case mc_Disk_fall => k_is)
    (case mk_Disk_fall => k_is)
    (case ma_Disk_arm => k_is)
    (case mf_Disk_arm => k_is)
    (case ml_Disk_arm => k_is)
    (case mc_Disk_arm => k_is)
    (case mk_Disk_arm => k_is)
    (case ma_Disk_ops => k_is)
    (case mf_Disk_ops => k_is)
    (case ml_Disk_ops => k_is)
    (case mc_Disk_ops => k_is)
    (case mk_Disk_ops => k_is)
    (case ma_Disk_synced => k_is)
    (case mf_Disk_synced => k_is)
    (case ml_Disk_synced => k_is)
    (case mc_Disk_synced => k_is)
    (case mk_Disk_synced => k_is)
    (case ma_Disk___init__ => k_is)
    (case mf_Disk___init__ => k_is)
    (case ml_Disk___init__ => k_is)
    (case mc_Disk___init__ => k_is)
    (case mk_Disk___init__ => k_is)
    (case ma_Disk___eq__ => k_is)
    (case mf_Disk___eq__ => k_is)
    (case ml_Disk___eq__ => k_is)
    (case mc_Disk___eq__ => k_is)
    (case mk_Disk___eq__ => k_is)
    (case ma_Disk_copy => k_is)
    (case mf_Disk_copy => k_is)
    (case ml_Disk_copy => k_is)
    (case mc_Disk_copy => k_is)
    (case mk_Disk_copy => k_is)
    (case z_int => k_is)
    (case z_abs => k_is)
    (case z_len => k_is)
    (case z_sum => k_is)
    (case z_dict => k_is)
    (case z_sorted => k_is)
    (case z_list => k_is)
    (case z_isinstance => k_is)
    (case z_bool => k_is)
    (case z_repr => k_is)
    (case z_range => k_is)
    (case z_str => k_is)
    (case z_all => k_is)
    (case z_tuple => k_is)
    (case z_enumerate => k_is)
    (case z_reversed => k_is)
    (case z_max => k_is)
    (case z_min => k_is)
    (case v_MOST_NAME => k_is)
    (case v_NAME_SIGNS => k_is)

