import PyProof.Rows.All
import Wide.All
import OpenK.AllK
import Wide.FinOn
import HandS.ForMost
import HandS.IsInst
import HandS.StrMore
import HandS.TupAny
import HandS.TupLe
import HandS.Conv
import PyProof.ReprRoads
import PyProof.RowDictHeap
import HandS.Codes
import PySem.Challenge.RW_inorderonce_k03_items_and_tokens
set_option Elab.async false
set_option linter.all false
set_option maxRecDepth 100000
set_option maxHeartbeats 8000000
/-! Z: own layer over the hand layer: readings that compute. -/
namespace Z
open PySem PySem.Spec PyProof.Rows L2

/-! ### heaps -/
/-- H2 is H with a new object at p -/
structure Nw (H : Hp) (p : Addr) (o : HO) (H2 : Hp) : Prop where
  fresh : H p = none
  here : H2 p = some o
  off : ∀ a, a ≠ p → H2 a = H a
/-- H2 is H with another object at l -/
structure Wr (H : Hp) (l : Addr) (o : HO) (H2 : Hp) : Prop where
  here : H2 l = some o
  off : ∀ a, a ≠ l → H2 a = H a
/-- all that was tracked is there, but for b -/
def But (b : Addr) (H H2 : Hp) : Prop := ∀ a o, a ≠ b → H a = some o → H2 a = some o
theorem nw {H : Hp} {p : Addr} {o : HO} (h : H p = none) : Nw H p o (upd H p o) := ⟨h, upd_same, fun _ e => upd_ne e⟩
theorem wr {H : Hp} {p : Addr} {o : HO} : Wr H p o (upd H p o) := ⟨upd_same, fun _ e => upd_ne e⟩
theorem Nw.keep {H H2 : Hp} {p a : Addr} {o u : HO} (n : Nw H p o H2) (h : H a = some u) : H2 a = some u := by
  rw [n.off a (ne_of_none h n.fresh)]
  exact h
theorem Nw.same {H H2 : Hp} {p : Addr} {o : HO} (n : Nw H p o H2) : Same H H2 := fun _ _ h => n.keep h
theorem Wr.keep {H H2 : Hp} {l a : Addr} {o u : HO} (n : Wr H l o H2) (e : a ≠ l) (h : H a = some u) : H2 a = some u := by
  rw [n.off a e]
  exact h
theorem Wr.but {H H2 : Hp} {l : Addr} {o : HO} (n : Wr H l o H2) : But l H H2 := fun a _ e h => n.keep e h
theorem Nw.but {H H2 : Hp} {p b : Addr} {o : HO} (n : Nw H p o H2) : But b H H2 := fun _ _ _ h => n.keep h
theorem But.refl (b : Addr) (H : Hp) : But b H H := fun _ _ _ h => h
theorem But.trans {b : Addr} {H H1 H2 : Hp} (x : But b H H1) (y : But b H1 H2) : But b H H2 := fun a o e h => y a o e (x a o e h)
theorem But.of {b : Addr} {H H1 : Hp} (x : Same H H1) : But b H H1 := fun a o _ h => x a o h
theorem But.at {b a : Addr} {o : HO} {H H1 : Hp} (x : But b H H1) (e : a ≠ b) (h : H a = some o) : H1 a = some o := x a o e h
/-- what was new to H and written later: H is kept -/
theorem _root_.L2.Same.wr {H H1 H2 : Hp} {l : Addr} {o : HO} (x : Same H H1) (f : H l = none) (w : Wr H1 l o H2) : Same H H2 := fun a u h =>
  w.keep (ne_of_none h f) (x a u h)
theorem _root_.L2.Same.but {H H1 H2 : Hp} {l : Addr} (x : Same H H1) (f : H l = none) (w : But l H1 H2) : Same H H2 := fun a u h =>
  w a u (ne_of_none h f) (x a u h)
theorem But.butNew {b l : Addr} {H H1 H2 : Hp} (x : But b H H1) (f : H l = none) (w : But l H1 H2) (hb : H b ≠ none → True) : But b H H2 := fun a u e h =>
  w a u (ne_of_none h f) (x a u e h)
theorem But.wr {b l : Addr} {o : HO} {H H1 H2 : Hp} (x : But b H H1) (f : H l = none) (w : Wr H1 l o H2) : But b H H2 := fun a u e h => w.keep (ne_of_none h f) (x a u e h)
theorem But.nw {b l : Addr} {o : HO} {H H1 H2 : Hp} (x : But b H H1) (w : Nw H1 l o H2) : But b H H2 := fun a u e h => w.keep (x a u e h)
theorem But.free {b l : Addr} {H H1 : Hp} (x : But b H H1) (e : l ≠ b) (f : H1 l = none) : H l = none := by
  cases q : H l with
  | none => rfl
  | some o =>
    rw [x l o e q] at f
    cases f
theorem sz {n : Nat} (h : n ≤ 16000000) : n ≤ sizeLine := Nat.le_trans h (by decide)
theorem szlt {n : Nat} (h : n ≤ 16000000) : n < sizeLine := Nat.lt_of_le_of_lt h (by decide)
theorem free_of {H H1 : Hp} {l : Addr} (x : Same H H1) (f : H1 l = none) : H l = none := x.free f

/-- the same of lists and tuples that are read -/
theorem sqL_same {K : PySem.W.Frag} {H H' : Hp} {a : Addr} {xs : List V} (e : Same H H') (h : SqL K H a xs) : SqL K H' a xs := e.seq h
theorem sqT_same {K : PySem.W.Frag} {H H' : Hp} {a : Addr} {xs : List V} (e : Same H H') (h : SqT K H a xs) : SqT K H' a xs := by
  rcases h with (h | ⟨o, h⟩) | h
  · exact .inl (.inl (e _ _ h))
  · exact .inl (.inr ⟨o, e _ _ h⟩)
  · exact .inr h

/-! ### names -/
def tV (i : Nat) : TE := fun σ H Q => match σ[i]? with
  | some (some v) => Q v H
  | _ => False
theorem tV_of {i : Nat} {σ : L2.St} {H : Hp} {Q : VK} (h : tV i σ H Q) : tVar i σ H Q := by
  unfold tV at h
  split at h
  · exact ⟨_, by assumption, h⟩
  · exact h.elim
section
variable {X : Cx}
theorem pz (i : Nat) {x : Str} {pos : Pos} (hN : X.N[i]? = some x := by rfl) (hv : Vis X.env.scope x := by first | exact Or.inl rfl | exact Or.inr (Or.inl rfl) | exact Or.inr (Or.inr rfl)) (hd : (x == ("__debug__" : Str)) = false := by decide)
    (hcd : (x == ("__classdict__" : Str)) = false := by decide) : PE X (.Name x pos) (tV i) :=
  ⟨fun pins s σ H Q I h => (pe_var hN hv hd hcd).run pins s σ H Q I (tV_of h)⟩
end

/-! ### operators on values, that compute -/
def zI (g : Int → Int → V) : R2 := fun x y H Q => match x, y with
  | .int i, .int j => Q (g i j) H
  | _, _ => False
def zIC (C : Int → Int → Prop) (g : Int → Int → V) : R2 := fun x y H Q => match x, y with
  | .int i, .int j => C i j ∧ Q (g i j) H
  | _, _ => False
theorem opr_w {X : Cx} {f : Value → Value → Sem Value} {r r' : R2} (h : OpR X f r') (i : ∀ x y H Q, r x y H Q → r' x y H Q) : OpR X f r :=
  fun pins s σ H x y v u Q I rx ry q => h pins s σ H x y v u Q I rx ry (i x y H Q q)
theorem zI_of {g : Int → Int → V} (x y : V) (H : Hp) (Q : VK) (h : zI g x y H Q) : rI0 g x y H Q := by
  unfold zI at h
  split at h
  · exact ⟨_, _, rfl, rfl, h⟩
  · exact h.elim
theorem zIC_of {C : Int → Int → Prop} {g : Int → Int → V} (x y : V) (H : Hp) (Q : VK) (h : zIC C g x y H Q) : rI C g x y H Q := by
  unfold zIC at h
  split at h
  · exact ⟨_, _, rfl, rfl, h.1, h.2⟩
  · exact h.elim
section
variable {X : Cx}
theorem o_sub : OpR X (binaryOp .Sub) (zI fun i j => .int (i - j)) := opr_w op_sub fun x y H Q h => zI_of x y H Q h
theorem o_mod : OpR X (binaryOp .Mod) (zIC (fun _ j => 0 < j) fun i j => .int (i % j)) := opr_w op_mod fun x y H Q h => zIC_of x y H Q h
theorem o_fdiv : OpR X (binaryOp .FloorDiv) (zIC CDiv fun i j => .int (i / j)) := opr_w op_fdiv fun x y H Q h => zIC_of x y H Q h
theorem o_pow : OpR X (binaryOp .Pow) (zIC CPow fun i j => .int (i ^ j.toNat)) := opr_w op_pow fun x y H Q h => zIC_of x y H Q h
/-- + : ints, texts, lists, tuples -/
def zAdd (K : PySem.W.Frag) : R2 := fun x y H Q => match x, y with
  | .int i, .int j => Q (.int (i + j)) H
  | .str a, .str b => a.length + b.length ≤ sizeLine ∧ Q (.str (a ++ b)) H
  | .ref l, .ref b =>
      (∃ xs zs, H l = some (.lst xs) ∧ H b = some (.lst zs) ∧ xs.length + zs.length ≤ sizeLine ∧ ∀ p H2, Nw H p (.lst (xs ++ zs)) H2 → Q (.ref p) H2) ∨
      (∃ xs zs, SqT K H l xs ∧ SqT K H b zs ∧ xs.length + zs.length ≤ sizeLine ∧ (xs = [] → Q (.ref b) H) ∧ (xs ≠ [] → zs = [] → Q (.ref l) H) ∧
        (xs ≠ [] → zs ≠ [] → ∀ p H2, Nw H p (.tup (xs ++ zs)) H2 → Q (.ref p) H2))
  | _, _ => False
theorem o_add : OpR X (binaryOp .Add) (zAdd X.K) := by
  intro pins s σ H x y v u Q I rx ry h
  unfold zAdd at h
  split at h
  · exact op_add pins s σ H _ _ v u Q I rx ry ⟨_, _, rfl, rfl, h⟩
  · exact op_add_str pins s σ H _ _ v u Q I rx ry ⟨_, _, rfl, rfl, h.1, h.2⟩
  · rcases h with ⟨xs, zs, h1, h2, h3, q⟩ | ⟨xs, zs, h1, h2, h3, q1, q2, q3⟩
    · exact op_cat pins s σ H _ _ v u Q I rx ry ⟨_, _, xs, zs, rfl, rfl, h1, h2, h3, fun p hp => q p _ (nw hp)⟩
    · exact op_catA pins s σ H _ _ v u Q I rx ry ⟨_, _, xs, zs, rfl, rfl, h1, h2, h3, q1, q2, fun a b p hp => q3 a b p _ (nw hp)⟩
  · exact h.elim
/-- a text so many times -/
def rep (x : Str) (n : Int) : Str := ⟨(List.replicate n.toNat x.cps.toList).flatten.toArray⟩
theorem rep_fold (l : List Nat) : ∀ (n : Nat) (acc : Array Nat), (List.replicate n l.toArray).foldl (· ++ ·) acc = acc ++ (List.replicate n l).flatten.toArray
  | 0, acc => by simp
  | n + 1, acc => by
    rw [List.replicate_succ, List.foldl_cons, rep_fold l n, List.replicate_succ, List.flatten_cons]
    simp [Array.append_assoc]
/-- * : ints, a text, a list -/
def zMul : R2 := fun x y H Q => match x, y with
  | .int i, .int j => CMul i j ∧ Q (.int (i * j)) H
  | .str a, .int n => -(2 ^ 62) ≤ n ∧ n < 2 ^ 62 ∧ a.length * n.toNat ≤ 1000000 ∧ Q (.str (rep a n)) H
  | .ref l, .int k => ∃ xs, H l = some (.lst xs) ∧ -(2 ^ 63) ≤ k ∧ k < 2 ^ 63 ∧ xs.length * k.toNat ≤ sizeLine ∧ ∀ p H2, Nw H p (.lst (List.replicate k.toNat xs).flatten) H2 → Q (.ref p) H2
  | _, _ => False
theorem str_size0 {a : Str} (h : a.length = 0) : a = Str.empty := by
  obtain ⟨c⟩ := a
  have h : c.size = 0 := h
  have : c = #[] := Array.eq_empty_of_size_eq_zero h
  rw [this]
  rfl
theorem o_mul : OpR X (binaryOp .Mult) zMul := by
  intro pins s σ H x y v u Q I rx ry h
  unfold zMul at h
  split at h
  · exact op_mul pins s σ H _ _ v u Q I rx ry ⟨_, _, rfl, rfl, h.1, h.2⟩
  · rename_i a n
    obtain ⟨h1, h2, h3, q⟩ := h
    obtain ⟨t, rfl⟩ := rx
    obtain ⟨t', rfl⟩ := ry
    have two : (2 : Int) ^ 62 = 4611686018427387904 := by decide
    have two3 : (2 : Int) ^ 63 = 9223372036854775808 := by decide
    refine PySem.P.mul_str ?_ (fun hn hz => ?_) (fun hn hz => ?_) ?_
    · rw [decide_eq_false (by omega), decide_eq_false (by omega)]
      rfl
    · intro hc
      have hn1 : 1 ≤ n := by omega
      have hd : ((2 : Int) ^ 63 - 1) / n * n ≤ 2 ^ 63 - 1 := Int.ediv_mul_le _ (by omega)
      have hlt : ((2 : Int) ^ 63 - 1) < (((2 : Int) ^ 63 - 1) / n + 1) * n := Int.lt_ediv_add_one_mul_self _ (by omega)
      have hle : (((2 : Int) ^ 63 - 1) / n + 1) * n ≤ (a.length : Int) * n := Int.mul_le_mul_of_nonneg_right (by omega) (by omega)
      have hcast : ((a.length * n.toNat : Nat) : Int) = (a.length : Int) * n := by
        rw [Int.natCast_mul, Int.toNat_of_nonneg (by omega)]
      omega
    · show decide (a.length * n.toNat > sizeLine) = false
      have hs : 1000000 ≤ sizeLine := by decide
      exact decide_eq_false (by omega)
    · have fit : (rep a n).length ≤ sizeLine := by
        have e : (rep a n).length = a.length * n.toNat := by
          show ((List.replicate n.toNat a.cps.toList).flatten.toArray).size = a.length * n.toNat
          rw [List.size_toArray, List.length_flatten, List.map_replicate, List.sum_replicate_nat, Array.length_toList, Nat.mul_comm]
          rfl
        have hs : 1000000 ≤ sizeLine := by decide
        omega
      have fin : ∀ (tk : Nat) (t' : Tok), EP X pins σ Q (.str (rep a n) t') { s with toks := tk } := fun tk t' => ⟨.str (rep a n), H, I.tok tk, ⟨t', rfl⟩, q⟩
      by_cases hn : n < 1
      · have e : rep a n = Str.empty := by
          have : n.toNat = 0 := by omega
          unfold rep
          rw [this]
          rfl
        rw [if_pos hn]
        rw [e] at fin
        exact ⟨by decide, fin _ _⟩
      · rw [if_neg hn]
        by_cases hz : (n == 1 || a.length == 0) = true
        · rw [if_pos hz]
          have e : rep a n = a := by
            rw [Bool.or_eq_true] at hz
            rcases hz with hz | hz
            · have : n = 1 := by simpa using hz
              subst this
              obtain ⟨c⟩ := a
              show (⟨(List.replicate (1 : Int).toNat c.toList).flatten.toArray⟩ : Str) = ⟨c⟩
              simp
            · have e0 := str_size0 (a := a) (by simpa using hz)
              subst e0
              unfold rep
              show (⟨(List.replicate n.toNat ([] : List Nat)).flatten.toArray⟩ : Str) = Str.empty
              rw [List.flatten_replicate_nil]
              rfl
          rw [e] at fin
          exact fin s.toks t
        · rw [if_neg hz]
          have e : (⟨(List.replicate n.toNat a.cps).foldl (· ++ ·) #[]⟩ : Str) = rep a n := by
            obtain ⟨c⟩ := a
            unfold rep
            have q := rep_fold c.toList n.toNat #[]
            simp only [Array.toArray_toList] at q
            rw [q]
            simp
          rw [e]
          exact ⟨fit, fin _ _⟩
  · obtain ⟨xs, h1, h2, h3, h4, q⟩ := h
    exact op_rep pins s σ H _ _ v u Q I rx ry ⟨_, _, xs, rfl, rfl, h1, h2, h3, h4, fun p hp => q p _ (nw hp)⟩
  · exact h.elim
end

/-! ### any rule, its end carried -/
def mon (t : TE) : TE := fun σ H Q => ∃ Q0 : VK, t σ H Q0 ∧ ∀ x H1, Q0 x H1 → Q x H1
def monA (t : TA) : TA := fun σ H Q => ∃ Q0 : List V → Hp → Prop, t σ H Q0 ∧ ∀ x H1, Q0 x H1 → Q x H1
def monR (r : R2) : R2 := fun x y H Q => ∃ Q0 : VK, r x y H Q0 ∧ ∀ x H1, Q0 x H1 → Q x H1
section
variable {X : Cx} {a b e o : Expr} {es rest : List Expr} {ta tb te to : TE} {t t' : TE} {pos : Pos}
theorem pe_w (h : PE X e t) (i : ∀ σ H Q, t' σ H Q → t σ H Q) : PE X e t' := ⟨fun pins s σ H Q I q => h.run pins s σ H Q I (i σ H Q q)⟩
theorem pt_w {t t' : TT} (h : PT X e t) (i : ∀ σ H Q, t' σ H Q → t σ H Q) : PT X e t' := ⟨fun pins s σ H Q I q => h.run pins s σ H Q I (i σ H Q q)⟩
theorem po_w {e : Option Expr} {t t' : TO} (h : PO X e t) (i : ∀ σ H Q, t' σ H Q → t σ H Q) : PO X e t' := ⟨fun pins s σ H Q I q => h.run pins s σ H Q I (i σ H Q q)⟩
theorem ps_w {st : Stmt} {t t' : TS} (h : PS X st t) (i : ∀ D σ H, t' D σ H → t D σ H) : PS X st t' := ⟨fun pins s σ H D I q => h.run pins s σ H D I (i D σ H q)⟩
theorem pg_w {g : Expr} {t t' : TG} (h : PG X g t) (i : ∀ v σ H Q, t' v σ H Q → t v σ H Q) : PG X g t' := ⟨fun pins s σ H v u Q I r q => h.run pins s σ H v u Q I r (i v σ H Q q)⟩
theorem pi_w {g e : Expr} {t t' : TI} (h : PI X g e t) (i : ∀ σ H R, t' σ H R → t σ H R) : PI X g e t' := ⟨fun pins s σ H R I q => h.run pins s σ H R I (i σ H R q)⟩
theorem callr_w {f : Value} {r r' : List V → Hp → VK → Prop} (h : CallR X f r') (i : ∀ vs H Q, r vs H Q → r' vs H Q) : CallR X f r :=
  fun pins s σ H xs us Q I rs q => h pins s σ H xs us Q I rs (i xs H Q q)
theorem pe_mon (h : PE X e t) : PE X e (mon t) := ⟨fun pins s σ H Q I ⟨Q0, q, i⟩ => thn (h.run pins s σ H Q0 I q) fun u s' ⟨v, H', I', r, z⟩ => ⟨v, H', I', r, i v H' z⟩⟩
theorem pa_mon {t : TA} (h : PA X es t) : PA X es (monA t) := ⟨fun pos pins s σ H Q I ⟨Q0, q, i⟩ => thn (h.run pos pins s σ H Q0 I q) fun u s' ⟨v, H', I', r, z⟩ => ⟨v, H', I', r, i v H' z⟩⟩
theorem opr_mon {f : Value → Value → Sem Value} {r : R2} (h : OpR X f r) : OpR X f (monR r) := fun pins s σ H x y v u Q I rx ry ⟨Q0, q, i⟩ =>
  thn (h pins s σ H x y v u Q0 I rx ry q) fun u s' ⟨v, H', I', r, z⟩ => ⟨v, H', I', r, i v H' z⟩

/-! ### tests and bools -/
/-- what follows of a bool -/
def zB (x : V) (H : Hp) (Q : Bool → Hp → Prop) : Prop := match x with
  | .bl k => Q k H
  | _ => False
theorem zB_of {x : V} {H : Hp} {Q : Bool → Hp → Prop} (h : zB x H Q) : ∃ k, x = .bl k ∧ Q k H := by
  unfold zB at h
  split at h
  · exact ⟨_, rfl, h⟩
  · exact h.elim
def tBz (t : TE) : TT := fun σ H Q => t σ H fun x H1 => zB x H1 Q
theorem pt_cmpZ {op : CmpOp} {r : R2} (ho : OpR X (compareOp op) r) (ha : PE X a ta) (hb : PE X b tb) (hm : behindInMarks op b = false) : PT X (.Compare a [op] [b] pos) (tBz (tOp r ta tb)) :=
  pt_w (pt_cmpR (opr_mon ho) (pe_mon ha) (pe_mon hb) hm) fun σ H Q h => ⟨_, h, fun x H1 h1 => ⟨_, h1, fun y H2 h2 => ⟨_, h2, fun z H3 h3 => zB_of h3⟩⟩⟩
theorem pt_chainZ {c : Expr} {tc : TE} {op op' : CmpOp} {r r' : R2} (h : PE X (.Compare a [op, op'] [b, c] pos) t) (he : ∀ whole, isTrue (.Compare a [op, op'] [b, c] pos) X.env whole = (do let v ← whole; standAt (Expr.Compare a [op, op'] [b, c] pos).pos; holding [v] (truthy v)) := by intro _; rfl) :
    PT X (.Compare a [op, op'] [b, c] pos) (tBz t) := pt_w (pt_val (pe_mon h) he) fun σ H Q h => ⟨_, h, fun x H1 h1 => zB_of h1⟩
/-- a < b < c as a value -/
def tChZ (r r' : R2) (ta tb tc : TE) : TE := fun σ H Q => ta σ H fun x H1 => tb σ H1 fun y H2 => r x y H2 fun z H3 => zB z H3 fun k H3 => if k = true then tc σ H3 fun w' H4 => r' y w' H4 Q else Q (.bl false) H3
theorem pe_chZ {c : Expr} {tc : TE} {op op' : CmpOp} {r r' : R2} (h : PE X (.Compare a [op, op'] [b, c] pos) (tChain (monR r) r' (mon ta) (mon tb) tc)) : PE X (.Compare a [op, op'] [b, c] pos) (tChZ r r' ta tb tc) :=
  pe_w h fun σ H Q h => ⟨_, h, fun x H1 h1 => ⟨_, h1, fun y H2 h2 => ⟨_, h2, fun z H3 h3 => zB_of h3⟩⟩⟩
/-- an expression's truth -/
def zTr (K : PySem.W.Frag) (x : V) (H : Hp) (Q : Bool → Hp → Prop) : Prop := match x with
  | .bl k => Q k H
  | .non => Q false H
  | .int i => Q (i != 0) H
  | .str y => y.length ≤ sizeLine ∧ Q ((y.length : Int) != 0) H
  | .ref p => (∃ xs, SqL K H p xs ∧ Q (!xs.isEmpty) H) ∨ (∃ xs, SqT K H p xs ∧ Q (!xs.isEmpty) H) ∨ ∃ kvs, H p = some (.dK kvs) ∧ Q (!kvs.isEmpty) H
  | _ => False
theorem zTr_of {K : PySem.W.Frag} {x : V} {H : Hp} {Q : Bool → Hp → Prop} (h : zTr K x H Q) : ∃ k, TruV K x H k ∧ Q k H := by
  unfold zTr at h
  split at h
  · exact ⟨_, rfl, h⟩
  · exact ⟨_, rfl, h⟩
  · exact ⟨_, rfl, h⟩
  · exact ⟨_, ⟨h.1, rfl⟩, h.2⟩
  · rcases h with ⟨xs, h, q⟩ | ⟨xs, h, q⟩ | ⟨kvs, h, q⟩
    · exact ⟨_, .inl ⟨xs, h, rfl⟩, q⟩
    · exact ⟨_, .inr (.inl ⟨xs, h, rfl⟩), q⟩
    · exact ⟨_, .inr (.inr ⟨kvs, h, rfl⟩), q⟩
  · exact h.elim
def tTr (K : PySem.W.Frag) (t : TE) : TT := fun σ H Q => t σ H fun x H1 => zTr K x H1 Q
theorem pt_tr (h : PE X a ta) (he : ∀ whole, isTrue a X.env whole = (do let v ← whole; standAt a.pos; holding [v] (truthy v)) := by intro _; rfl) : PT X a (tTr X.K ta) :=
  pt_w (pt_truth (pe_mon h) he) fun σ H Q h => ⟨_, h, fun x H1 h1 => zTr_of h1⟩
/-- and, or, not as values of bools -/
def tAndZ (ta tb : TE) : TE := fun σ H Q => ta σ H fun x H1 => zB x H1 fun c H1 => if c = true then tb σ H1 Q else Q (.bl false) H1
def tOrZ (ta tb : TE) : TE := fun σ H Q => ta σ H fun x H1 => zB x H1 fun c H1 => if c = true then Q (.bl true) H1 else tb σ H1 Q
def tNotZ (ta : TE) : TE := fun σ H Q => ta σ H fun x H1 => zB x H1 fun c H1 => Q (.bl (!c)) H1
theorem pe_andZ (ha : PE X a ta) (hb : PE X (.BoolOp .And (b :: rest) pos) tb) : PE X (.BoolOp .And (a :: b :: rest) pos) (tAndZ ta tb) :=
  pe_w (pe_and (pe_mon ha) hb) fun σ H Q h => ⟨_, h, fun x H1 h1 => zB_of h1⟩
theorem pe_orZ (ha : PE X a ta) (hb : PE X (.BoolOp .Or (b :: rest) pos) tb) : PE X (.BoolOp .Or (a :: b :: rest) pos) (tOrZ ta tb) :=
  pe_w (pe_or (pe_mon ha) hb) fun σ H Q h => ⟨_, h, fun x H1 h1 => zB_of h1⟩
theorem pe_notZ (ha : PE X a ta) : PE X (.UnaryOp .Not a pos) (tNotZ ta) := pe_w (pe_not (pe_mon ha)) fun σ H Q h => ⟨_, h, fun x H1 h1 => zB_of h1⟩

/-! ### comparisons -/
theorem o_lt : OpR X (compareOp .Lt) (zI fun i j => .bl (decide (i < j))) := opr_w op_lt fun x y H Q h => zI_of x y H Q h
theorem o_le : OpR X (compareOp .LtE) (zI fun i j => .bl (decide (i ≤ j))) := opr_w op_le fun x y H Q h => zI_of x y H Q h
theorem o_gt : OpR X (compareOp .Gt) (zI fun i j => .bl (decide (j < i))) := opr_w op_gt fun x y H Q h => zI_of x y H Q h
theorem o_ge : OpR X (compareOp .GtE) (zI fun i j => .bl (decide (j ≤ i))) := opr_w op_ge fun x y H Q h => zI_of x y H Q h
/-- < of two signs or ints -/
def zLt : R2 := fun x y H Q => match x, y with
  | .int i, .int j => Q (.bl (decide (i < j))) H
  | .str a, .str b => Q (.bl (decide (a.cps.toList < b.cps.toList))) H
  | _, _ => False
def zGt : R2 := fun x y H Q => match x, y with
  | .int i, .int j => Q (.bl (decide (j < i))) H
  | .str a, .str b => Q (.bl (decide (b.cps.toList < a.cps.toList))) H
  | _, _ => False
theorem o_ltS : OpR X (compareOp .Lt) zLt := by
  intro pins s σ H x y v u Q I rx ry h
  unfold zLt at h
  split at h
  · exact op_lt pins s σ H _ _ v u Q I rx ry ⟨_, _, rfl, rfl, h⟩
  · exact op_lt_str pins s σ H _ _ v u Q I rx ry ⟨_, _, rfl, rfl, h⟩
  · exact h.elim
theorem o_gtS : OpR X (compareOp .Gt) zGt := by
  intro pins s σ H x y v u Q I rx ry h
  unfold zGt at h
  split at h
  · exact op_gt pins s σ H _ _ v u Q I rx ry ⟨_, _, rfl, rfl, h⟩
  · exact op_gt_str pins s σ H _ _ v u Q I rx ry ⟨_, _, rfl, rfl, h⟩
  · exact h.elim
/-- == of plain things, of data -/
def zEq (K : PySem.W.Frag) (neg : Bool) : R2 := fun x y H Q => match scal x y with
  | true => Q (.bl (neg ^^ decide (x = y))) H
  | false => ∃ d e, Dp K H x d ∧ Dp K H y e ∧ SeqAt.shaped d = true ∧ SeqAt.shaped e = true ∧ Q (.bl (neg ^^ PyData.eqv d e)) H
theorem o_eq (hu : X.A.units + 64 < cLine) : OpR X (compareOp .Eq) (zEq X.K false) := by
  intro pins s σ H x y v u Q I rx ry h
  unfold zEq at h
  split at h
  · rename_i e
    exact op_eq pins s σ H x y v u Q I rx ry ⟨e, by simpa using h⟩
  · exact op_eqD hu pins s σ H x y v u Q I rx ry (by simpa [rEqD] using h)
theorem o_ne (hu : X.A.units + 64 < cLine) : OpR X (compareOp .NotEq) (zEq X.K true) := by
  intro pins s σ H x y v u Q I rx ry h
  unfold zEq at h
  split at h
  · rename_i e
    exact op_ne pins s σ H x y v u Q I rx ry ⟨e, by simpa using h⟩
  · exact op_neD hu pins s σ H x y v u Q I rx ry (by simpa [rNeD] using h)
/-- is None, is True, is False -/
def zIs (neg : Bool) : R2 := fun x y H Q => match y, x with
  | .non, x => Q (.bl (neg ^^ decide (x = .non))) H
  | .bl b, .bl a => Q (.bl (neg ^^ decide (a = b))) H
  | _, _ => False
theorem o_is : OpR X (compareOp .Is) (zIs false) := by
  intro pins s σ H x y v u Q I rx ry h
  unfold zIs at h
  split at h
  · exact op_isN pins s σ H _ _ v u Q I rx ry ⟨rfl, by simpa using h⟩
  · exact op_is_bl pins s σ H _ _ v u Q I rx ry ⟨_, _, rfl, rfl, by simpa using h⟩
  · exact h.elim
theorem o_isn : OpR X (compareOp .IsNot) (zIs true) := by
  intro pins s σ H x y v u Q I rx ry h
  unfold zIs at h
  split at h
  · exact op_notN pins s σ H _ _ v u Q I rx ry ⟨rfl, by simpa using h⟩
  · exact op_isnot_bl pins s σ H _ _ v u Q I rx ry ⟨_, _, rfl, rfl, by simpa using h⟩
  · exact h.elim
/-- in, not in: a sign in a text, a flat thing in a list or tuple -/
def zIn (K : PySem.W.Frag) (neg : Bool) : R2 := fun x y H Q => match y with
  | .str z => ∃ c : Nat, x = .str ⟨#[c]⟩ ∧ Q (.bl (neg ^^ decide (c ∈ z.cps.toList))) H
  | .ref p => ∃ xs, (SqL K H p xs ∨ SqT K H p xs) ∧ flatV x = true ∧ xs.all flatV = true ∧ Q (.bl (neg ^^ inV x xs)) H
  | _ => False
theorem o_in : OpR X (compareOp .In) (zIn X.K false) := by
  intro pins s σ H x y v u Q I rx ry h
  unfold zIn at h
  split at h
  · obtain ⟨c, rfl, q⟩ := h
    exact op_in_sign pins s σ H _ _ v u Q I rx ry ⟨c, _, rfl, rfl, by simpa using q⟩
  · obtain ⟨xs, h1, h2, h3, q⟩ := h
    exact op_in_seq pins s σ H _ _ v u Q I rx ry ⟨_, xs, rfl, h1, h2, h3, by simpa using q⟩
  · exact h.elim
theorem o_nin : OpR X (compareOp .NotIn) (zIn X.K true) := by
  intro pins s σ H x y v u Q I rx ry h
  unfold zIn at h
  split at h
  · obtain ⟨c, rfl, q⟩ := h
    exact op_notIn_sign pins s σ H _ _ v u Q I rx ry ⟨c, _, rfl, rfl, by simpa using q⟩
  · obtain ⟨xs, h1, h2, h3, q⟩ := h
    exact op_notIn_seq pins s σ H _ _ v u Q I rx ry ⟨_, xs, rfl, h1, h2, h3, by simpa using q⟩
  · exact h.elim

/-! ### items and slices -/
def zIx (K : PySem.W.Frag) : R2 := fun x y H Q => match x, y with
  | .str z, .int i => ∃ c, z.length ≤ sizeLine ∧ atI z.cps.toList i = some c ∧ Q (.str ⟨#[c]⟩) H
  | .ref p, .int i => ∃ xs v, (SqL K H p xs ∨ SqT K H p xs) ∧ atI xs i = some v ∧ Q v H
  | _, _ => False
theorem o_ix : IxR X (zIx X.K) := by
  intro value slice pins s σ H x y v u Q I rx ry h hs
  unfold zIx at h
  split at h
  · obtain ⟨c, h1, h2, q⟩ := h
    exact ix_str value slice pins s σ H _ _ v u Q I rx ry ⟨_, _, c, rfl, rfl, h1, h2, q⟩ hs
  · obtain ⟨xs, z, h1 | h1, h2, q⟩ := h
    · exact ix_list value slice pins s σ H _ _ v u Q I rx ry ⟨_, _, _, z, rfl, rfl, h1, h2, q⟩ hs
    · exact ix_tup value slice pins s σ H _ _ v u Q I rx ry ⟨_, _, _, z, rfl, rfl, h1, h2, q⟩ hs
  · exact h.elim
def zSl (K : PySem.W.Frag) : V → Option Int → Option Int → Hp → VK → Prop := fun x lo hi H Q => match x with
  | .str z => z.length ≤ sizeLine ∧ Q (.str (cutS z lo hi)) H
  | .ref a => (∃ xs, SqL K H a xs ∧ ∀ p H2, Nw H p (.lst (cutV xs lo hi)) H2 → Q (.ref p) H2) ∨
      (∃ xs, SqT K H a xs ∧ (HT.sIx xs.length 0 lo = 0 ∧ HT.sIx xs.length xs.length hi = xs.length → Q (.ref a) H) ∧
        (¬ (HT.sIx xs.length 0 lo = 0 ∧ HT.sIx xs.length xs.length hi = xs.length) → ∀ p H2, Nw H p (.tup (cutV xs lo hi)) H2 → Q (.ref p) H2))
  | _ => False
theorem o_sl : SlR X (zSl X.K) := by
  intro pins s σ H x v vl vu lo hi sl Q I rx hs pl pu h
  unfold zSl at h
  split at h
  · exact sl_str pins s σ H _ v vl vu lo hi sl Q I rx hs pl pu ⟨_, rfl, h.1, h.2⟩
  · rcases h with ⟨xs, h1, q⟩ | ⟨xs, h1, q1, q2⟩
    · exact sl_list pins s σ H _ v vl vu lo hi sl Q I rx hs pl pu ⟨_, xs, rfl, h1, fun p hp => q p _ (nw hp)⟩
    · exact sl_tupA pins s σ H _ v vl vu lo hi sl Q I rx hs pl pu ⟨_, xs, rfl, h1, q1, fun z p hp => q2 z p _ (nw hp)⟩
  · exact h.elim
def tPz (t : TE) : TO := fun σ H Q => t σ H fun x H1 => match x with
  | .int i => Q (some i) H1
  | _ => False
theorem po_z (h : PE X e te) : PO X (some e) (tPz te) := po_w (po_some (pe_mon h)) fun σ H Q h => ⟨_, h, fun x H1 h1 => by
  split at h1
  · exact ⟨_, rfl, h1⟩
  · exact h1.elim⟩

/-! ### displays -/
def tLz (t : TA) : TE := fun σ H Q => t σ H fun xs H1 => xs.length ≤ sizeLine ∧ ∀ p H2, Nw H1 p (.lst xs) H2 → Q (.ref p) H2
def tTz (t : TA) : TE := fun σ H Q => t σ H fun xs H1 => xs.length ≤ sizeLine ∧ ∀ p H2, Nw H1 p (.tup xs) H2 → Q (.ref p) H2
theorem pe_lz {t : TA} (h : PA X es t) : PE X (.List es pos) (tLz t) := pe_w (pe_lst (pa_mon h)) fun σ H Q h => ⟨_, h, fun xs H1 h1 => ⟨h1.1, fun p hp => h1.2 p _ (nw hp)⟩⟩
theorem pe_tz {t : TA} {x1} (h : PA X es t) : PE X (.Tuple es x1 pos) (tTz t) := pe_w (pe_tup (pa_mon h)) fun σ H Q h => ⟨_, h, fun xs H1 h1 => ⟨h1.1, fun p hp => h1.2 p _ (nw hp)⟩⟩

/-! ### calls of built-ins -/
def zLen (K : PySem.W.Frag) : List V → Hp → VK → Prop := fun vs H Q => match vs with
  | [.str z] => z.length ≤ sizeLine ∧ Q (.int z.length) H
  | [.ref p] => (∃ xs, (SqL K H p xs ∨ SqT K H p xs) ∧ Q (.int xs.length) H) ∨ ∃ kvs, H p = some (.dK kvs) ∧ Q (.int kvs.length) H
  | _ => False
theorem c_len : CallR X (.builtin "len") (zLen X.K) := by
  intro pins s σ H xs us Q I r h
  unfold zLen at h
  split at h
  · exact call_len_str pins s σ H _ us Q I r ⟨_, rfl, h.1, h.2⟩
  · rcases h with ⟨xs, h, q⟩ | ⟨kvs, h, q⟩
    · exact call_len_seq pins s σ H _ us Q I r ⟨_, xs, rfl, h, q⟩
    · exact call_lenD pins s σ H _ us Q I r ⟨_, kvs, rfl, h, q⟩
  · exact h.elim
def zInt : List V → Hp → VK → Prop := fun vs H Q => match vs with
  | [.int i] => Q (.int i) H
  | [.bl k] => Q (.int (if k then 1 else 0)) H
  | [.str a] => ∃ n, PySem.intText? a = some n ∧ a.length ≤ 640 ∧ Q (.int n) H
  | _ => False
theorem c_int : CallR X (.type "int") zInt := by
  intro pins s σ H xs us Q I r h
  unfold zInt at h
  split at h
  · exact call_int1 pins s σ H _ us Q I r (.inl ⟨_, rfl, h⟩)
  · exact call_int1 pins s σ H _ us Q I r (.inr ⟨_, rfl, h⟩)
  · obtain ⟨n, h1, h2, q⟩ := h
    exact call_int_str pins s σ H _ us Q I r ⟨_, n, rfl, h1, h2, q⟩
  · exact h.elim
def zStr : List V → Hp → VK → Prop := fun vs H Q => match vs with
  | [.int i] => i.natAbs.log2 < 1920 ∧ Q (.str (toString i)) H
  | _ => False
theorem c_str : CallR X (.type "str") zStr := callr_w call_str_int fun vs H Q h => by
  unfold zStr at h
  split at h
  · exact ⟨_, rfl, h.1, h.2⟩
  · exact h.elim
def zAbs : List V → Hp → VK → Prop := fun vs H Q => match vs with
  | [.int i] => Q (.int (if i < 0 then -i else i)) H
  | _ => False
theorem c_abs : CallR X (.builtin "abs") zAbs := callr_w call_abs fun vs H Q h => by
  unfold zAbs at h
  split at h
  · exact ⟨_, rfl, h⟩
  · exact h.elim
def zMax : List V → Hp → VK → Prop := fun vs H Q => match vs with
  | [.int i, .int j] => Q (.int (if j > i then j else i)) H
  | _ => False
theorem c_max (hc : X.calm = true) : CallR X (.builtin "max") zMax := callr_w (call_max2 hc) fun vs H Q h => by
  unfold zMax at h
  split at h
  · exact ⟨_, _, rfl, h⟩
  · exact h.elim
def zMin : List V → Hp → VK → Prop := fun vs H Q => match vs with
  | [.int i, .int j] => Q (.int (if j < i then j else i)) H
  | _ => False
theorem c_min (hc : X.calm = true) : CallR X (.builtin "min") zMin := callr_w (call_min2 hc) fun vs H Q h => by
  unfold zMin at h
  split at h
  · exact ⟨_, _, rfl, h⟩
  · exact h.elim
def zSum (K : PySem.W.Frag) : List V → Hp → VK → Prop := fun vs H Q => match vs with
  | [.ref p] => ∃ ns : List Int, SqL K H p (ns.map V.int) ∧ Q (.int ns.sum) H
  | _ => False
theorem c_sum (hc : X.calm = true) : CallR X (.builtin "sum") (zSum X.K) := callr_w (cr_sum hc) fun vs H Q h => by
  unfold zSum at h
  split at h
  · obtain ⟨ns, h, q⟩ := h
    exact ⟨_, ns, rfl, h, q⟩
  · exact h.elim
def zAll (K : PySem.W.Frag) : List V → Hp → VK → Prop := fun vs H Q => match vs with
  | [.ref p] => ∃ bs : List Bool, SqL K H p (bs.map V.bl) ∧ Q (.bl (bs.all id)) H
  | _ => False
theorem c_all (hc : X.calm = true) : CallR X (.builtin "all") (zAll X.K) := callr_w (cr_all hc) fun vs H Q h => by
  unfold zAll at h
  split at h
  · obtain ⟨ns, h, q⟩ := h
    exact ⟨_, ns, rfl, h, q⟩
  · exact h.elim
def zList (K : PySem.W.Frag) : List V → Hp → VK → Prop := fun vs H Q => match vs with
  | [.ref p] => ∃ ys, (SqL K H p ys ∨ SqT K H p ys) ∧ ∀ l H2, Nw H l (.lst ys) H2 → Q (.ref l) H2
  | _ => False
theorem c_list : CallR X (.type "list") (zList X.K) := callr_w call_list_of fun vs H Q h => by
  unfold zList at h
  split at h
  · obtain ⟨ys, h, q⟩ := h
    exact ⟨_, ys, rfl, h, fun l hl => q l _ (nw hl)⟩
  · exact h.elim
def zTuple (K : PySem.W.Frag) : List V → Hp → VK → Prop := fun vs H Q => match vs with
  | [.ref p] => ∃ ys, (SqL K H p ys ∧ ∀ l H2, Nw H l (.tup ys) H2 → Q (.ref l) H2) ∨ (SqT K H p ys ∧ Q (.ref p) H)
  | _ => False
theorem c_tuple : CallR X (.type "tuple") (zTuple X.K) := callr_w call_tuple_of fun vs H Q h => by
  unfold zTuple at h
  split at h
  · obtain ⟨ys, ⟨h, q⟩ | ⟨h, q⟩⟩ := h
    · exact ⟨_, ys, rfl, .inl ⟨h, fun l hl => q l _ (nw hl)⟩⟩
    · exact ⟨_, ys, rfl, .inr ⟨h, q⟩⟩
  · exact h.elim

/-! ### isinstance -/
def isK (k T : String) : Bool := k == T || (k == "bool" && T == "int")
/-- a value's kind -/
def KindV (K : PySem.W.Frag) (H : Hp) (x : V) (k : String) : Prop := match x with
  | .non => k = "NoneType"
  | .bl _ => k = "bool"
  | .int _ => k = "int"
  | .str _ => k = "str"
  | .ref p => (k = "list" ∧ ∃ xs, SqL K H p xs) ∨ (k = "tuple" ∧ ∃ xs, SqT K H p xs) ∨ (k = "dict" ∧ ((∃ kvs, H p = some (.dK kvs)) ∨ ∃ kvs, H p = some (.dT kvs)))
  | _ => False
theorem KindV.tyx {K : PySem.W.Frag} {H : Hp} {x : V} {k : String} (h : KindV K H x k) : TyX K H x (.type k) ∧ k ∈ ["NoneType", "bool", "int", "str", "list", "tuple", "dict"] := by
  unfold KindV at h
  split at h
  · subst h; exact ⟨.base .non, by simp⟩
  · subst h; exact ⟨.base (.bl _), by simp⟩
  · subst h; exact ⟨.base (.int _), by simp⟩
  · subst h; exact ⟨.base (.str _), by simp⟩
  · rcases h with ⟨rfl, xs, (h | ⟨o, h⟩) | ⟨o, its, n, h1, h2, _⟩⟩ | ⟨rfl, xs, (h | ⟨o, h⟩) | ⟨o, its, n, h1, h2, _⟩⟩ | ⟨rfl, ⟨kvs, h⟩ | ⟨kvs, h⟩⟩
    · exact ⟨.base (.lst h), by simp⟩
    · exact ⟨.base (.frz h), by simp⟩
    · exact ⟨.kList h1 h2, by simp⟩
    · exact ⟨.base (.tup h), by simp⟩
    · exact ⟨.fTuple h, by simp⟩
    · exact ⟨.kTuple h1 h2, by simp⟩
    · exact ⟨.base (.dK h), by simp⟩
    · exact ⟨.base (.dT h), by simp⟩
  · exact h.elim
theorem kit_isK {K : PySem.W.Frag} {k T : String} (hk : k ∈ ["NoneType", "bool", "int", "str", "list", "tuple", "dict"]) (hT : T ∈ ["bool", "int", "str", "list", "tuple", "dict"]) : PySem.W.kitOne K (.type k) (.type T) = some (isK k T) := by
  refine kit_ty ?_
  have all : (["NoneType", "bool", "int", "str", "list", "tuple", "dict"].all fun k => ["bool", "int", "str", "list", "tuple", "dict"].all fun T => kitB k T == some (isK k T)) = true := by decide +kernel
  have h1 := (List.all_eq_true.mp all) k hk
  have h2 := (List.all_eq_true.mp h1) T hT
  exact eq_of_beq h2
def zIsi (K : PySem.W.Frag) : List V → Hp → VK → Prop := fun vs H Q => match vs with
  | [x, .ty T] => T ∈ ["bool", "int", "str", "list", "tuple", "dict"] ∧ ∃ k, KindV K H x k ∧ Q (.bl (isK k T)) H
  | [x, .ref tp] => ∃ T U k, H tp = some (.tup [.ty T, .ty U]) ∧ T ∈ ["bool", "int", "str", "list", "tuple", "dict"] ∧ U ∈ ["bool", "int", "str", "list", "tuple", "dict"] ∧ KindV K H x k ∧ Q (.bl (isK k T || isK k U)) H
  | _ => False
theorem c_isi : CallR X (.builtin "isinstance") (zIsi X.K) := by
  intro pins s σ H xs us Q I r h
  unfold zIsi at h
  split at h
  · obtain ⟨hT, k, hk, q⟩ := h
    obtain ⟨h1, h2⟩ := hk.tyx
    exact call_isi pins s σ H _ us Q I r ⟨_, _, _, _, _, rfl, .ty _, h1, kit_isK h2 hT, q⟩
  · obtain ⟨T, U, k, hp, hT, hU, hk, q⟩ := h
    obtain ⟨h1, h2⟩ := hk.tyx
    refine call_isiT pins s σ H _ us Q I r ⟨_, _, _, _, _, _, rfl, hp, .cons (.ty T) (.cons (.ty U) .nil), h1, kitAny_cons (b := isK k T) (kit_isK h2 hT) (fun e => ?_) (fun e => ?_), q⟩
    · rw [e, Bool.false_or]
      refine kitAny_cons (kit_isK h2 hU) (fun e2 => ?_) (fun e2 => e2)
      rw [e2]
      rfl
    · rw [e]
      rfl
  · exact h.elim
end

/-! ### methods of built-in types -/
section
variable {X : Cx} {a b e o : Expr} {es : List Expr} {te to : TE} {t : TA} {name : Str} {apos cpos : Pos} {T id : String}
/-- a text's method -/
def tMs (r : Str → List V → Hp → VK → Prop) (to : TE) (t : TA) : TE := fun σ H Q => to σ H fun x H1 => match x with
  | .str a => t σ H1 fun xs H2 => r a xs H2 Q
  | _ => False
def tMs0 (r : Str → Hp → VK → Prop) (to : TE) : TE := fun σ H Q => to σ H fun x H1 => match x with
  | .str a => r a H1 Q
  | _ => False
def ofS (r : Str → List V → Hp → VK → Prop) : V → List V → Hp → VK → Prop := fun x xs H Q => ∃ a, x = .str a ∧ r a xs H Q
theorem pe_ms {r : Str → List V → Hp → VK → Prop} (slot : Slot "str" name id) (hty : typeOf (.builtin id) = pure (.type "method_descriptor")) (hm : MtR X id (ofS r)) (ho : PE X o to) (ha : PA X (e :: es) t)
    (hbase : attributeBase o name X.env (eval o X.env) = eval o X.env := by rfl)
    (hfew : ((backTo cpos (starEach (e :: es) X.env)).all (fun x => !x.1) && (backToKw cpos (keywordEach [] X.env)).all (fun x => x.1.isSome)
      && decide ((e :: es).length + ([] : List Keyword).length + (if ([] : List Keyword).isEmpty then 0 else 1) < 30)) = true := by rfl)
    (hline : (apos.endLine == cpos.line) = true := by rfl) (hs : starEach (e :: es) X.env = (false, eval e X.env) :: starEach es X.env := by rfl) (hplain : (backTo cpos (starEach es X.env)).any (·.1) = false := by rfl) :
    PE X (.Call (.Attribute o name apos) (e :: es) [] cpos) (tMs r to t) :=
  pe_w (pe_bm PySem.F.plainAttrs_str slot hty hm (pe_mon ho) (pa_mon ha) hbase hfew hline hs hplain) fun σ H Q h => ⟨_, h, fun x H1 h1 => by
    split at h1
    · exact ⟨rfl, _, h1, fun xs H2 h2 => ⟨_, rfl, h2⟩⟩
    · exact h1.elim⟩
theorem pe_ms0 {r : Str → Hp → VK → Prop} (slot : Slot "str" name id) (hty : typeOf (.builtin id) = pure (.type "method_descriptor")) (hm : MtR X id (ofS fun a xs H Q => xs = [] ∧ r a H Q)) (ho : PE X o to)
    (hbase : attributeBase o name X.env (eval o X.env) = eval o X.env := by rfl) (hline : (apos.endLine == cpos.line) = true := by rfl) :
    PE X (.Call (.Attribute o name apos) [] [] cpos) (tMs0 r to) :=
  pe_w (pe_bm0 PySem.F.plainAttrs_str slot hty hm (pe_mon ho) hbase hline) fun σ H Q h => ⟨_, h, fun x H1 h1 => by
    split at h1
    · exact ⟨rfl, _, rfl, rfl, h1⟩
    · exact h1.elim⟩
theorem mt_w {id : String} {r r' : V → List V → Hp → VK → Prop} (h : MtR X id r') (i : ∀ x vs H Q, r x vs H Q → r' x vs H Q) : MtR X id r :=
  fun pins s σ H x xs v us Q I rx rs q => h pins s σ H x xs v us Q I rx rs (i x xs H Q q)
def zJoin (K : PySem.W.Frag) : Str → List V → Hp → VK → Prop := fun a xs H Q => match xs with
  | [.ref p] => ∃ ys : List Str, (SqL K H p (ys.map V.str) ∨ SqT K H p (ys.map V.str)) ∧ (ys.map (·.length)).sum + ys.length * a.length ≤ 16777216 ∧ Q (.str (Txt.join a ys)) H
  | _ => False
theorem m_join : MtR X "str.join" (ofS (zJoin X.K)) := mt_w mt_join fun x vs H Q ⟨a, e, h⟩ => by
  unfold zJoin at h
  split at h
  · obtain ⟨ys, h1, h2, q⟩ := h
    exact ⟨a, _, ys, e, rfl, h1, h2, q⟩
  · exact h.elim
def zZfill : Str → List V → Hp → VK → Prop := fun a xs H Q => match xs with
  | [.int i] => PadOk i = true ∧ Q (.str (Txt.zfill a i)) H
  | _ => False
theorem m_zfill : MtR X "str.zfill" (ofS zZfill) := mt_w mt_zfill fun x vs H Q ⟨a, e, h⟩ => by
  unfold zZfill at h
  split at h
  · exact ⟨a, _, e, rfl, h.1, h.2⟩
  · exact h.elim
def zPure (g : Str → V) : Str → Hp → VK → Prop := fun a H Q => Q (g a) H
theorem m0_of {id : String} {g : Str → V} (h : MtR X id (fun x xs H Q => ∃ a, x = .str a ∧ xs = [] ∧ True ∧ Q (g a) H)) : MtR X id (ofS fun a xs H Q => xs = [] ∧ zPure g a H Q) :=
  mt_w h fun x vs H Q ⟨a, e, h1, h2⟩ => ⟨a, e, h1, trivial, h2⟩
theorem m_isascii : MtR X "str.isascii" (ofS fun a xs H Q => xs = [] ∧ zPure (fun a => .bl (Txt.isascii a)) a H Q) := m0_of mt_isascii
theorem m_isprintable : MtR X "str.isprintable" (ofS fun a xs H Q => xs = [] ∧ zPure (fun a => .bl (Txt.isprintable a)) a H Q) := m0_of mt_isprintable
theorem m_islower : MtR X "str.islower" (ofS fun a xs H Q => xs = [] ∧ zPure (fun a => .bl (Txt.islower a)) a H Q) := m0_of mt_islower
theorem m_isalpha : MtR X "str.isalpha" (ofS fun a xs H Q => xs = [] ∧ zPure (fun a => .bl (Txt.isalpha a)) a H Q) := m0_of mt_isalpha
theorem m_isdigit : MtR X "str.isdigit" (ofS fun a xs H Q => xs = [] ∧ zPure (fun a => .bl (Txt.isdigit a)) a H Q) := m0_of mt_isdigit
/-- a list's method -/
def tMl (K : PySem.W.Frag) (r : Addr → List V → Hp → VK → Prop) (to : TE) (t : TA) : TE := fun σ H Q => to σ H fun x H1 => match x with
  | .ref l => (∃ xs, SqL K H1 l xs) ∧ t σ H1 fun xs H2 => r l xs H2 Q
  | _ => False
def ofL (r : Addr → List V → Hp → VK → Prop) : V → List V → Hp → VK → Prop := fun x xs H Q => ∃ a, x = .ref a ∧ r a xs H Q
theorem pe_ml {r : Addr → List V → Hp → VK → Prop} (slot : Slot "list" name id) (hty : typeOf (.builtin id) = pure (.type "method_descriptor")) (hm : MtR X id (ofL r)) (ho : PE X o to) (ha : PA X (e :: es) t)
    (hbase : attributeBase o name X.env (eval o X.env) = eval o X.env := by rfl)
    (hfew : ((backTo cpos (starEach (e :: es) X.env)).all (fun x => !x.1) && (backToKw cpos (keywordEach [] X.env)).all (fun x => x.1.isSome)
      && decide ((e :: es).length + ([] : List Keyword).length + (if ([] : List Keyword).isEmpty then 0 else 1) < 30)) = true := by rfl)
    (hline : (apos.endLine == cpos.line) = true := by rfl) (hs : starEach (e :: es) X.env = (false, eval e X.env) :: starEach es X.env := by rfl) (hplain : (backTo cpos (starEach es X.env)).any (·.1) = false := by rfl) :
    PE X (.Call (.Attribute o name apos) (e :: es) [] cpos) (tMl X.K r to t) :=
  pe_w (pe_bm PySem.F.plainAttrs_list slot hty hm (pe_mon ho) (pa_mon ha) hbase hfew hline hs hplain) fun σ H Q h => ⟨_, h, fun x H1 h1 => by
    split at h1
    · exact ⟨.inl ⟨rfl, h1.1⟩, _, h1.2, fun xs H2 h2 => ⟨_, rfl, h2⟩⟩
    · exact h1.elim⟩
def zApp : Addr → List V → Hp → VK → Prop := fun l ys H Q => match ys with
  | [y] => ∃ xs, H l = some (.lst xs) ∧ xs.length < sizeLine ∧ ∀ H2, Wr H l (.lst (xs ++ [y])) H2 → Q .non H2
  | _ => False
theorem m_append : MtR X "list.append" (ofL zApp) := mt_w mt_append fun x vs H Q ⟨a, e, h⟩ => by
  unfold zApp at h
  split at h
  · obtain ⟨xs, h1, h2, q⟩ := h
    exact ⟨a, xs, _, e, rfl, h1, h2, q _ wr⟩
  · exact h.elim
end

/-! ### targets and statements -/
section
variable {X : Cx} {a b e o i : Expr} {es : List Expr} {te to ti : TE} {pos : Pos}
def zSetL : V → V → V → Hp → (Hp → Prop) → Prop := fun o i v H Q => match o, i with
  | .ref p, .int k => ∃ xs j, H p = some (.lst xs) ∧ ixN xs.length k = some j ∧ ∀ H2, Wr H p (.lst (xs.set j v)) H2 → Q H2
  | _, _ => False
theorem s_list : PSet X zSetL := by
  intro pins s σ H o i v ov iv u Q I ro ri rv h
  unfold zSetL at h
  split at h
  · obtain ⟨xs, j, h1, h2, q⟩ := h
    exact set_list pins s σ H _ _ v ov iv u Q I ro ri rv ⟨_, xs, _, j, rfl, rfl, h1, h2, q _ wr⟩
  · exact h.elim
def gCz (t : TG) (u : TGs) : TGs := fun vs σ H Q => match vs with
  | v :: r => t v σ H fun σ' H' => u r σ' H' Q
  | [] => False
def gNz : TGs := fun vs σ H Q => match vs with
  | [] => Q σ H
  | _ => False
theorem pgs_w {g : List Expr} {t t' : TGs} (h : PGs X g t) (i : ∀ v σ H Q, t' v σ H Q → t v σ H Q) : PGs X g t' := ⟨fun pins s σ H v u Q I r q => h.run pins s σ H v u Q I r (i v σ H Q q)⟩
theorem pgs_nz : PGs X [] gNz := pgs_w pgs_nil fun v σ H Q h => by
  unfold gNz at h
  split at h
  · exact ⟨rfl, h⟩
  · exact h.elim
theorem pgs_cz {t : TG} {u : TGs} (ht : PG X e t) (hu : PGs X es u) (hs : (assignEach (e :: es) X.env).map (·.2) = assign e X.env :: (assignEach es X.env).map (·.2) := by rfl) : PGs X (e :: es) (gCz t u) :=
  pgs_w (pgs_cons ht hu hs) fun v σ H Q h => by
    unfold gCz at h
    split at h
    · exact ⟨_, _, rfl, h⟩
    · exact h.elim
def gTz (K : PySem.W.Frag) (n : Nat) (t : TGs) : TG := fun v σ H Q => match v with
  | .ref a => ∃ xs, SqT K H a xs ∧ xs.length = n ∧ t xs σ H Q
  | _ => False
theorem pg_tz {k : Nat} {t : TGs} {n : Nat} (hc : X.calm = true) (h : PGs X es t) (hn : (assignEach es X.env).length = n := by rfl) (hst : (assignEach es X.env).findIdx? (·.1) = none := by rfl) : PG X (.Tuple es k pos) (gTz X.K n t) :=
  pg_w (pg_tup hc h hn hst) fun v σ H Q h => by
    unfold gTz at h
    split at h
    · obtain ⟨xs, h1, h2, q⟩ := h
      exact ⟨_, xs, rfl, h1, h2, q⟩
    · exact h.elim
def tPrz (i j : Nat) (ta : TA) : TS := fun D σ H => ta σ H fun vs H1 => match vs with
  | [v, w] => D.nx ((σ.set i (some v)).set j (some w)) H1
  | _ => False
theorem ps_parZ {i j : Nat} {x y : Str} {ta : TA} {px py pt : Pos} {kt k2 pt2} (hc : X.calm = true) (hN : X.N.Nodup) (hi : X.N[i]? = some x) (hj : X.N[j]? = some y) (hij : i ≠ j)
    (hx : X.env.scope.names.lookup x = some .local) (hy : X.env.scope.names.lookup y = some .local) (ha : PA X [a, b] ta)
    (hw : swappedStores [.Tuple [.Name x px, .Name y py] kt pt] (.Tuple [a, b] k2 pt2) X.env = pure (some [x, y]))
    (hs : swapsWithSole [.Tuple [.Name x px, .Name y py] kt pt] (.Tuple [a, b] k2 pt2) pos.line X.env = pure false := by rfl) :
    PS X (.Assign [.Tuple [.Name x px, .Name y py] kt pt] (.Tuple [a, b] k2 pt2) pos) (tPrz i j ta) :=
  ps_w (ps_par hc hN hi hj hij hx hy (pa_mon ha) hw hs) fun D σ H h => ⟨_, h, fun vs H1 h1 => by
    split at h1
    · exact ⟨_, _, rfl, h1⟩
    · exact h1.elim⟩
def tRngZ (ta : TA) : TI := fun σ H R => ta σ H fun vs H1 => match vs with
  | [.int j] => -(2 ^ 62) ≤ j ∧ j < 2 ^ 62 ∧ R (Itr 0 j.toNat) H1
  | _ => False
theorem pi_rngZ {tg : Expr} {p : Pos} {ta : TA} (hg : Gl X "range") (hm : X.mg "range" = none) (ha : PA X [a] ta) (hs : starEach [a] X.env = [(false, eval a X.env)] := by rfl) : PI X tg (.Call (.Name "range" p) [a] [] pos) (tRngZ ta) :=
  pi_w (pi_range1 hg hm (pa_mon ha) hs) fun σ H R h => ⟨_, h, fun vs H1 h1 => by
    split at h1
    · exact ⟨_, rfl, h1⟩
    · exact h1.elim⟩
def tItL (K : PySem.W.Frag) (te : TE) : TI := fun σ H R => te σ H fun x H1 => match x with
  | .ref a => (∃ xs, SqL K H1 a xs) ∧ R (Itl K a) H1
  | _ => False
theorem pi_lz {tg : Expr} (h : PE X e te) : PI X tg e (tItL X.K te) := pi_w (pi_list (pe_mon h)) fun σ H R h => ⟨_, h, fun x H1 h1 => by
  split at h1
  · exact ⟨_, rfl, h1.1, h1.2⟩
  · exact h1.elim⟩
def tItT (K : PySem.W.Frag) (te : TE) : TI := fun σ H R => te σ H fun x H1 => match x with
  | .ref a => (∃ xs, SqT K H1 a xs) ∧ R (Itt K a) H1
  | _ => False
theorem pi_tz {tg : Expr} (h : PE X e te) : PI X tg e (tItT X.K te) := pi_w (pi_tup (pe_mon h)) fun σ H R h => ⟨_, h, fun x H1 h1 => by
  split at h1
  · exact ⟨_, rfl, h1.1, h1.2⟩
  · exact h1.elim⟩
def tItS (te : TE) : TI := fun σ H R => te σ H fun x H1 => match x with
  | .str a => R (Its a) H1
  | _ => False
theorem pi_sz {tg : Expr} (h : PE X e te) : PI X tg e (tItS te) := pi_w (pi_str (pe_mon h)) fun σ H R h => ⟨_, h, fun x H1 h1 => by
  split at h1
  · exact ⟨_, rfl, h1⟩
  · exact h1.elim⟩
end

/-! ### defs -/
/-- a def that stands under its name: its contract -/
structure Ct (P : Program) (w : World) (K : PySem.W.Frag) (mg : Str → Option Value) (base : Heap) (CX : CXT) (k : Nat) (x : Str) (ps : List Str) (sp : Sp) : Prop where
  ex : ∃ f fd, mg x = some (.ref f) ∧ PySem.W.keepIn K (.ref f) = true ∧ Binds K fd ps [] ∧ FnOk P w K mg base CX k f fd ps sp ∧ ∃ oc od osl, K.lookup f = some ⟨oc, od, .func fd, osl⟩
/-- a def of the top as it stands -/
structure Df (K : PySem.W.Frag) (mg : Str → Option Value) (x : Str) (st : Stmt) (ps : List Str) : Prop where
  ex : ∃ f fd, Fun K x x st f fd ∧ mg x = some (.ref f) ∧ Binds K fd ps []
def tCl (sp : Sp) (E : XK) (t : TA) : TE := fun σ H Q => t σ H fun vs H1 => sp vs H1 Q E
section
variable {X : Cx} {CX : CXT} {k : Nat} {x : Str} {ps : List Str} {sp : Sp} {E : XK} {p pos : Pos} {e : Expr} {es : List Expr} {t : TA}
theorem pe_cl (C : Ct X.prog X.w X.K X.mg X.base CX k x ps sp) (hr : Room k X.A) (hx : Passes CX X E) (ha : PA X (e :: es) t) (hg : Gl X x := by rfl)
    (hdb : (x == ("__debug__" : Str)) = false := by decide)
    (he : starEach (e :: es) X.env = (false, eval e X.env) :: starEach es X.env := by rfl) (hpl : (backTo pos (starEach es X.env)).any (·.1) = false := by rfl) : PE X (.Call (.Name x p) (e :: es) [] pos) (tCl sp E t) := by
  obtain ⟨f, fd, hm, hk, hb, F, _⟩ := C.ex
  refine pe_w (pe_call F hr hg hm hk hb .nil hx ha hdb he hpl) fun σ H Q h => ?_
  show t σ H fun vs H1 => sp (vs ++ []) H1 Q E
  have e : (fun (vs : List V) (H1 : Hp) => sp (vs ++ []) H1 Q E) = fun vs H1 => sp vs H1 Q E := by
    funext vs H1
    rw [List.append_nil]
  rw [e]
  exact h
theorem pe_cl0 (C : Ct X.prog X.w X.K X.mg X.base CX k x ps sp) (hr : Room k X.A) (hx : Passes CX X E) (hg : Gl X x := by rfl) (hdb : (x == ("__debug__" : Str)) = false := by decide) : PE X (.Call (.Name x p) [] [] pos) (tCl sp E tNil) := by
  obtain ⟨f, fd, hm, hk, hb, F, _⟩ := C.ex
  exact pe_call0 F hr hg hm hk hb .nil hx hdb
end
/-- promises by the parameters -/
def sp1 (p : V → Hp → VK → XK → Prop) : Sp := fun vs H Q E => match vs with
  | [a] => p a H Q E
  | _ => False
def sp2 (p : V → V → Hp → VK → XK → Prop) : Sp := fun vs H Q E => match vs with
  | [a, b] => p a b H Q E
  | _ => False
def sp3 (p : V → V → V → Hp → VK → XK → Prop) : Sp := fun vs H Q E => match vs with
  | [a, b, c] => p a b c H Q E
  | _ => False
def sp4 (p : V → V → V → V → Hp → VK → XK → Prop) : Sp := fun vs H Q E => match vs with
  | [a, b, c, d] => p a b c d H Q E
  | _ => False
theorem sp1_of {p : V → Hp → VK → XK → Prop} {vs : List V} {H : Hp} {Q : VK} {E : XK} (h : sp1 p vs H Q E) : ∃ a, vs = [a] ∧ p a H Q E := by
  unfold sp1 at h
  split at h
  · exact ⟨_, rfl, h⟩
  · exact h.elim
theorem sp2_of {p : V → V → Hp → VK → XK → Prop} {vs : List V} {H : Hp} {Q : VK} {E : XK} (h : sp2 p vs H Q E) : ∃ a b, vs = [a, b] ∧ p a b H Q E := by
  unfold sp2 at h
  split at h
  · exact ⟨_, _, rfl, h⟩
  · exact h.elim
theorem sp3_of {p : V → V → V → Hp → VK → XK → Prop} {vs : List V} {H : Hp} {Q : VK} {E : XK} (h : sp3 p vs H Q E) : ∃ a b c, vs = [a, b, c] ∧ p a b c H Q E := by
  unfold sp3 at h
  split at h
  · exact ⟨_, _, _, rfl, h⟩
  · exact h.elim
theorem sp4_of {p : V → V → V → V → Hp → VK → XK → Prop} {vs : List V} {H : Hp} {Q : VK} {E : XK} (h : sp4 p vs H Q E) : ∃ a b c d, vs = [a, b, c, d] ∧ p a b c d H Q E := by
  unfold sp4 at h
  split at h
  · exact ⟨_, _, _, _, rfl, h⟩
  · exact h.elim
section
variable {P : Program} {w : World} {K : PySem.W.Frag} {mg : Str → Option Value} {base : Heap}
theorem fun_at {x q : Str} {st : Stmt} {f : Addr} {fd : FuncData} (F : Fun K x q st f fd) : ∃ oc od osl, K.lookup f = some ⟨oc, od, .func fd, osl⟩ := by
  obtain ⟨oc, od, _, _, _, _, _, _, osl, _, h, _⟩ := F.ex
  exact ⟨oc, od, osl, h⟩
/-- the same def called by names alone, the names in the order ks: g puts the values in the parameters' order -/
structure CtK (P : Program) (w : World) (K : PySem.W.Frag) (mg : Str → Option Value) (base : Heap) (CX : CXT) (k : Nat) (x : Str) (ps ks : List Str) (g : {α : Type} → List α → List α) (sp : Sp) : Prop where
  ex : ∃ f fd, mg x = some (.ref f) ∧ PySem.W.keepIn K (.ref f) = true ∧ (∀ (s : Shared) (ws : List Value), (g ws).length = ps.length → BindsTo s fd ⟨[], ks.zip ws⟩ (ps.zip (g ws))) ∧
    (∀ {zs : List V} {ws : List Value}, Vals zs ws → Vals (g zs) (g ws)) ∧ FnOk P w K mg base CX k f fd ps sp
theorem Ct.kw {CX : CXT} {k : Nat} {x : Str} {st : Stmt} {ps ks : List Str} {g : {α : Type} → List α → List α} {sp : Sp} (C : Ct P w K mg base CX k x ps sp) (D : Df K mg x st ps)
    (h : ∀ (kV doc pm : Value) (an : Option Addr) (cdv ct : Value) (ws : List Value), (g ws).length = ps.length → bindArgs (PySem.W.fnOf x x (defArgs st) (defBody st) (defScope st) .none kV doc pm an cdv ct) ⟨[], ks.zip ws⟩ = pure (ps.zip (g ws)))
    (hg : ∀ {zs : List V} {ws : List Value}, Vals zs ws → Vals (g zs) (g ws)) : CtK P w K mg base CX k x ps ks g sp := by
  obtain ⟨f, fd, hm, hk, hb, F, oc, od, osl, hl⟩ := C.ex
  obtain ⟨f', fd', F', hm', _⟩ := D.ex
  have e : f = f' := by
    rw [hm] at hm'
    cases hm'
    rfl
  subst e
  obtain ⟨oc', od', kV, doc, pm, an, cdv, ct, osl', rfl, hl', _⟩ := F'.ex
  have e2 : fd = PySem.W.fnOf x x (defArgs st) (defBody st) (defScope st) .none kV doc pm an cdv ct := by
    rw [hl] at hl'
    cases hl'
    rfl
  subst e2
  exact ⟨f, _, hm, hk, fun s ws hlen => .of_eq (h kV doc pm an cdv ct ws hlen), hg, F⟩
/-- f(k = v, ..) -/
def tClK (g : {α : Type} → List α → List α) (sp : Sp) (E : XK) (t : TA) : TE := fun σ H Q => t σ H fun zs H1 => sp (g zs) H1 Q E
theorem pe_clK {X : Cx} {CX : CXT} {k : Nat} {x : Str} {ps ks : List Str} {g : {α : Type} → List α → List α} {sp : Sp} {E : XK} {p pos : Pos} {kws : List Keyword} {t : TA} (C : CtK X.prog X.w X.K X.mg X.base CX k x ps ks g sp) (hr : Room k X.A) (hx : Passes CX X E)
    (hkw : PK X kws t) (hg : Gl X x := by rfl) (hall : (backToKw pos (keywordEach kws X.env)).all (·.1.isSome) = true := by rfl) (hks : (backToKw pos (keywordEach kws X.env)).filterMap (·.1) = ks := by rfl)
    (hdb : (x == ("__debug__" : Str)) = false := by decide)
    (hpl : ((backTo pos (starEach [] X.env)).any (·.1) || (backToKw pos (keywordEach kws X.env)).any (·.1.isNone)) = false := by rfl) :
    PE X (.Call (.Name x p) [] kws pos) (tClK g sp E t) := by
  obtain ⟨f, fd, hm, hk, hb, hrel, F⟩ := C.ex
  refine ⟨fun pins s σ H Q I h => wpAny_Call_Name_kw (ld_glob I hg hm ?_ hdb)⟩
  refine PySem.W.callWith_KW0 (h₀ := X.base) I.ok.mod.kin hk hall (thn (hkw.run pos pins s σ H _ I h) fun ws s1 ⟨zs, H1, I1, rz, q⟩ => ⟨I1.kIn, ?_⟩) hpl
  rw [hks]
  have r2 := hrel rz
  have hl : (g ws).length = ps.length := by
    rw [← r2.length]
    exact F.len _ _ _ _ q
  refine wpAny_call (codeAny_mono (F.run X.A X.stack s1 H1 ⟨[], ks.zip ws⟩ (g ws) (g zs) Q E hr I1.env0 (hb s1 ws hl) r2 q) fun r s' hq => ?_)
  match r, hq with
  | .error e, hq => exact hx pins σ H1 s1 e s' I1 hq
  | .ok (.ret u), hq => exact I1.after hq
  | .ok .next, hq => exact False.elim hq
  | .ok .brk, hq => exact False.elim hq
  | .ok .cont, hq => exact False.elim hq
/-- a def that raises nothing, one parameter -/
theorem ct1 {x : Str} {st : Stmt} {a : Str} {N : List Str} {k : Nat} {p : V → Hp → VK → XK → Prop} (D : Df K mg x st [a]) (S : FnScope N [a] (defScope st))
    (body : ∀ (f : Addr) (cdv : Value) (A : Around) (outer : List Env) (s : Shared) (H : Hp) (u : V) (Q : VK) (E : XK), Room k (A.deeper (envOfC x (defScope st) s.heap.objs.size f cdv)) → p u H Q E →
      ∃ t, PSs (cxOf CX0 P w K mg base N x (defScope st) f cdv A outer s H E).nox (defBody st) t ∧ t { nx := fun _ H' => Q .non H', rt := Q } (start N [u]) H) : Ct P w K mg base CX0 (k + 1) x [a] (sp1 p) := by
  obtain ⟨f, fd, F, hm, hb⟩ := D.ex
  refine ⟨f, fd, hm, F.kp, hb, F.ok S (fun vs H Q E h => ?_) (fun cdv A outer s H vs Q E hr h => ?_), fun_at F⟩
  · obtain ⟨u, rfl, _⟩ := sp1_of h
    rfl
  · obtain ⟨u, rfl, h⟩ := sp1_of h
    exact body f cdv A outer s H u Q E hr h
theorem ct2 {x : Str} {st : Stmt} {a b : Str} {N : List Str} {k : Nat} {p : V → V → Hp → VK → XK → Prop} (D : Df K mg x st [a, b]) (S : FnScope N [a, b] (defScope st))
    (body : ∀ (f : Addr) (cdv : Value) (A : Around) (outer : List Env) (s : Shared) (H : Hp) (u v : V) (Q : VK) (E : XK), Room k (A.deeper (envOfC x (defScope st) s.heap.objs.size f cdv)) → p u v H Q E →
      ∃ t, PSs (cxOf CX0 P w K mg base N x (defScope st) f cdv A outer s H E).nox (defBody st) t ∧ t { nx := fun _ H' => Q .non H', rt := Q } (start N [u, v]) H) : Ct P w K mg base CX0 (k + 1) x [a, b] (sp2 p) := by
  obtain ⟨f, fd, F, hm, hb⟩ := D.ex
  refine ⟨f, fd, hm, F.kp, hb, F.ok S (fun vs H Q E h => ?_) (fun cdv A outer s H vs Q E hr h => ?_), fun_at F⟩
  · obtain ⟨u, v, rfl, _⟩ := sp2_of h
    rfl
  · obtain ⟨u, v, rfl, h⟩ := sp2_of h
    exact body f cdv A outer s H u v Q E hr h
theorem ct3 {x : Str} {st : Stmt} {a b c : Str} {N : List Str} {k : Nat} {p : V → V → V → Hp → VK → XK → Prop} (D : Df K mg x st [a, b, c]) (S : FnScope N [a, b, c] (defScope st))
    (body : ∀ (f : Addr) (cdv : Value) (A : Around) (outer : List Env) (s : Shared) (H : Hp) (u v y : V) (Q : VK) (E : XK), Room k (A.deeper (envOfC x (defScope st) s.heap.objs.size f cdv)) → p u v y H Q E →
      ∃ t, PSs (cxOf CX0 P w K mg base N x (defScope st) f cdv A outer s H E).nox (defBody st) t ∧ t { nx := fun _ H' => Q .non H', rt := Q } (start N [u, v, y]) H) : Ct P w K mg base CX0 (k + 1) x [a, b, c] (sp3 p) := by
  obtain ⟨f, fd, F, hm, hb⟩ := D.ex
  refine ⟨f, fd, hm, F.kp, hb, F.ok S (fun vs H Q E h => ?_) (fun cdv A outer s H vs Q E hr h => ?_), fun_at F⟩
  · obtain ⟨u, v, y, rfl, _⟩ := sp3_of h
    rfl
  · obtain ⟨u, v, y, rfl, h⟩ := sp3_of h
    exact body f cdv A outer s H u v y Q E hr h
theorem ct4 {x : Str} {st : Stmt} {a b c d : Str} {N : List Str} {k : Nat} {p : V → V → V → V → Hp → VK → XK → Prop} (D : Df K mg x st [a, b, c, d]) (S : FnScope N [a, b, c, d] (defScope st))
    (body : ∀ (f : Addr) (cdv : Value) (A : Around) (outer : List Env) (s : Shared) (H : Hp) (u v y z : V) (Q : VK) (E : XK), Room k (A.deeper (envOfC x (defScope st) s.heap.objs.size f cdv)) → p u v y z H Q E →
      ∃ t, PSs (cxOf CX0 P w K mg base N x (defScope st) f cdv A outer s H E).nox (defBody st) t ∧ t { nx := fun _ H' => Q .non H', rt := Q } (start N [u, v, y, z]) H) : Ct P w K mg base CX0 (k + 1) x [a, b, c, d] (sp4 p) := by
  obtain ⟨f, fd, F, hm, hb⟩ := D.ex
  refine ⟨f, fd, hm, F.kp, hb, F.ok S (fun vs H Q E h => ?_) (fun cdv A outer s H vs Q E hr h => ?_), fun_at F⟩
  · obtain ⟨u, v, y, z, rfl, _⟩ := sp4_of h
    rfl
  · obtain ⟨u, v, y, z, rfl, h⟩ := sp4_of h
    exact body f cdv A outer s H u v y z Q E hr h
end

/-! ### loops over known items -/
/-- the iterator J gives these items while S stands -/
structure Wk (J : It) (items : List V) (S : Hp → Prop) : Prop where
  go : ∀ i H, S H → i < items.length → J.go i H
  stop : ∀ H, S H → J.stop items.length H
  yld : ∀ i H x H', S H → i < items.length → J.yld i H x H' → H' = H ∧ items[i]? = some x
theorem wk_list {K : PySem.W.Frag} {a : Addr} (xs : List V) : Wk (Itl K a) xs (fun H => SqL K H a xs) where
  go i H s h := ⟨xs, xs[i], s, by simp [h]⟩
  stop H s := ⟨xs, s, Nat.le_refl _⟩
  yld i H x H' s _ y := ⟨y.1, y.2 xs s⟩
theorem wk_tup {K : PySem.W.Frag} {a : Addr} (xs : List V) : Wk (Itt K a) xs (fun H => SqT K H a xs) where
  go i H s h := ⟨xs, xs[i], s, by simp [h]⟩
  stop H s := ⟨xs, s, Nat.le_refl _⟩
  yld i H x H' s _ y := ⟨y.1, y.2 xs s⟩
def rngV (lo : Int) (n : Nat) : List V := (List.range n).map fun (i : Nat) => V.int (lo + i)
theorem rngV_len (lo : Int) (n : Nat) : (rngV lo n).length = n := by simp [rngV]
theorem rngV_get {lo : Int} {n i : Nat} (h : i < n) : (rngV lo n)[i]? = some (.int (lo + i)) := by
  rw [rngV, List.getElem?_map, List.getElem?_range h]
  rfl
theorem rngV_at {lo : Int} {n i : Nat} {x : V} (h : (rngV lo n)[i]? = some x) : i < n ∧ x = .int (lo + i) := by
  have hi : i < n := by
    have q := (List.getElem?_eq_some_iff.mp h).1
    rw [rngV_len] at q
    exact q
  rw [rngV_get hi] at h
  exact ⟨hi, (Option.some.inj h).symm⟩
theorem wk_rng (lo : Int) (n : Nat) : Wk (Itr lo n) (rngV lo n) (fun _ => True) where
  go i H _ h := by
    rw [rngV_len] at h
    exact h
  stop H _ := by
    show n ≤ (rngV lo n).length
    rw [rngV_len]
    exact Nat.le_refl n
  yld i H x H' s h y := by
    rw [rngV_len] at h
    obtain ⟨y1, y2⟩ := y
    exact ⟨y1, by rw [y2, rngV_get h]⟩
def signV (c : Nat) : V := V.str ⟨#[c]⟩
def signsV (x : Str) : List V := x.cps.toList.map signV
theorem wk_str (x : Str) : Wk (Its x) (signsV x) (fun _ => True) where
  go i H _ h := by
    rw [signsV, List.length_map, Array.length_toList] at h
    exact h
  stop H _ := by
    show x.cps.size ≤ (signsV x).length
    rw [signsV, List.length_map, Array.length_toList]
    exact Nat.le_refl _
  yld i H v H' s h y := by
    obtain ⟨y1, c, y2, y3⟩ := y
    refine ⟨y1, ?_⟩
    rw [signsV, List.getElem?_map, Array.getElem?_toList, y2, y3]
    rfl
/-- for: the invariant by the turn -/
theorem for_w {J : It} {items : List V} {S : Hp → Prop} (wk : Wk J items S) {g : TG} {tb : TS} {D : Ends} {σ : L2.St} {H : Hp} (Pv : Nat → L2.St → Hp → Prop) (h0 : Pv 0 σ H) (hS : ∀ i σ H, Pv i σ H → S H)
    (hs : ∀ i x σ H, items[i]? = some x → Pv i σ H → g x σ H fun σ2 H2 => tb { D with nx := Pv (i + 1), ct := Pv (i + 1), bk := D.nx } σ2 H2) (hd : ∀ σ H, Pv items.length σ H → D.nx σ H) :
    ∃ W : Nat → Nat → L2.St → Hp → Prop, (∃ m, W 0 m σ H) ∧ ∀ i m σ H, W i m σ H →
      (J.stop i H ∧ D.nx σ H) ∨ (J.go i H ∧ ∃ N : L2.St → Hp → Prop, (∀ σ' H', N σ' H' → ∃ m', m' < m ∧ W (i + 1) m' σ' H') ∧ ∀ x H', J.yld i H x H' → g x σ H' fun σ2 H2 => tb { D with nx := N, ct := N, bk := D.nx } σ2 H2) := by
  refine ⟨fun i m σ H => m = items.length - i ∧ i ≤ items.length ∧ Pv i σ H, ⟨_, rfl, Nat.zero_le _, h0⟩, ?_⟩
  rintro i m σ H ⟨rfl, hi, p⟩
  have s := hS i σ H p
  rcases Nat.lt_or_ge i items.length with hlt | hge
  · refine .inr ⟨wk.go i H s hlt, Pv (i + 1), fun σ' H' p' => ⟨items.length - (i + 1), by omega, rfl, hlt, p'⟩, fun x H' y => ?_⟩
    obtain ⟨rfl, hx⟩ := wk.yld i H x H' s hlt y
    exact hs i x σ _ hx p
  · have e : i = items.length := Nat.le_antisymm hi hge
    subst e
    exact .inl ⟨wk.stop H s, hd σ H p⟩

/-! ### comprehensions -/
def monI (t : TI) : TI := fun σ H R => ∃ R0 : It → Hp → Prop, t σ H R0 ∧ ∀ J H1, R0 J H1 → R J H1
def monG (t : TG) : TG := fun v σ H Q => ∃ Q0 : L2.St → Hp → Prop, t v σ H Q0 ∧ ∀ σ1 H1, Q0 σ1 H1 → Q σ1 H1
def monT (t : TT) : TT := fun σ H Q => ∃ Q0 : Bool → Hp → Prop, t σ H Q0 ∧ ∀ b H1, Q0 b H1 → Q b H1
theorem pi_mon {X : Cx} {g e : Expr} {t : TI} (h : PI X g e t) : PI X g e (monI t) := ⟨fun pins s σ H R I ⟨R0, q, i⟩ =>
  thn (h.run pins s σ H R0 I q) fun v s1 h1 => thn h1 fun u s2 ⟨it, fp, tn, J, H', a1, a2, a3, a4, a5, a6⟩ => ⟨it, fp, tn, J, H', a1, a2, a3, a4, a5, i _ _ a6⟩⟩
theorem pg_mon {X : Cx} {g : Expr} {t : TG} (h : PG X g t) : PG X g (monG t) := ⟨fun pins s σ H v u Q I r ⟨Q0, q, i⟩ =>
  thn (h.run pins s σ H v u Q0 I r q) fun _ s1 ⟨σ', H', a, b⟩ => ⟨σ', H', a, i _ _ b⟩⟩
theorem pts_mon {X : Cx} {es : List Expr} {t : TT} (h : PTs X es t) : PTs X es (monT t) := ⟨fun pins s σ H Q I ⟨Q0, q, i⟩ =>
  thn (h.run pins s σ H Q0 I q) fun b s1 ⟨H', a, c⟩ => ⟨H', a, i _ _ c⟩⟩
/-- [te for g in wi if tt]: W by the turn, a measure, the list so far -/
def tLcz (wi : TI) (g : TG) (tt : TT) (te : TE) (vs : List Nat) : TE := fun σ H Q => wi σ H fun J H1 => ∀ D, H1 D = none → ∃ W : Nat → Nat → List V → Hp → Prop, (∃ m, ∀ H2, Nw H1 D (.lst []) H2 → W 0 m [] H2) ∧
  ∀ i m acc H, H D = some (.lst acc) → W i m acc H → (J.stop i H ∧ Q (.ref D) H) ∨
    (acc.length < sizeLine ∧ J.go i H ∧ ∃ Nx : List V → Hp → Prop, (∀ a' H', Nx a' H' → ∃ m', m' < m ∧ W (i + 1) m' a' H') ∧ ∀ x H', J.yld i H x H' → g x (wipe σ vs) H' fun σ2 H2 => wipe σ2 vs = wipe σ vs ∧ tt σ2 H2 fun b H3 =>
      if b = true then te σ2 H3 fun y H4 => H4 D = some (.lst acc) ∧ ∀ H5, Wr H4 D (.lst (acc ++ [y])) H5 → Nx (acc ++ [y]) H5 else H3 D = some (.lst acc) ∧ Nx acc H3)
theorem tLcz_of {wi : TI} {g : TG} {tt : TT} {te : TE} {vs : List Nat} {σ : L2.St} {H : Hp} {Q : VK} (h : tLcz wi g tt te vs σ H Q) : tLc (monI wi) (monG g) (monT tt) (mon te) vs σ H Q := by
  refine ⟨_, h, fun J H1 h1 D hD => ?_⟩
  obtain ⟨W, ⟨m, w0⟩, step⟩ := h1 D hD
  refine ⟨fun i m H => ∃ acc, H D = some (.lst acc) ∧ W i m acc H, ⟨m, [], upd_same, w0 _ (nw hD)⟩, ?_⟩
  rintro i m H ⟨acc, hacc, w⟩
  rcases step i m acc H hacc w with q | ⟨hz, go, Nx, hN, body⟩
  · exact .inl q
  · refine .inr ⟨go, fun H' => ∃ acc, H' D = some (.lst acc) ∧ Nx acc H', fun H' ⟨a', e, n⟩ => ?_, fun x H' y => ?_⟩
    · obtain ⟨m', l, w'⟩ := hN a' H' n
      exact ⟨m', l, a', e, w'⟩
    · refine ⟨_, body x H' y, fun σ2 H2 ⟨e, h2⟩ => ⟨e, _, h2, fun b H3 h3 => ?_⟩⟩
      cases b with
      | true =>
        rw [if_pos rfl] at h3 ⊢
        exact ⟨_, h3, fun z H4 h4 => ⟨acc, h4.1, hz, _, upd_same, h4.2 _ wr⟩⟩
      | false =>
        rw [if_neg Bool.false_ne_true] at h3 ⊢
        exact ⟨acc, h3.1, h3.2⟩
theorem pe_lcz {X : Cx} {elt tg iter : Expr} {ifs : List Expr} {scope : Scope} {own : List (Str × Nat)} {pos : Pos} {wi : TI} {g : TG} {tt : TT} {te : TE} (hc : X.calm = true) (hN : X.N.Nodup) (hi : PI X tg iter wi) (ok : BlkOk X.N X.env.scope scope own)
    (hg : ∀ (s : Shared) (H : Hp) (C : Addr) (cl : List (Str × Addr)) (fp : List Addr), PG (X.blk s H scope (compEnvC scope cl C X.env) fp) tg g) (ht : ∀ (s : Shared) (H : Hp) (C : Addr) (cl : List (Str × Addr)) (fp : List Addr), PTs (X.blk s H scope (compEnvC scope cl C X.env) fp) ifs tt)
    (he : ∀ (s : Shared) (H : Hp) (C : Addr) (cl : List (Str × Addr)) (fp : List Addr), PE (X.blk s H scope (compEnvC scope cl C X.env) fp) elt te) (hs : ∀ x, foldedSetIterable iter X.env x = pure x := by intro _; rfl) :
    PE X (.ListComp elt [⟨tg, iter, ifs, 0⟩] scope pos) (tLcz wi g tt te (own.map (·.2))) :=
  pe_w (pe_lc hc hN (pi_mon hi) ok (fun s H C cl fp => pg_mon (hg s H C cl fp)) (fun s H C cl fp => pts_mon (ht s H C cl fp)) (fun s H C cl fp => pe_mon (he s H C cl fp)) hs) fun σ H Q h => tLcz_of h
theorem ps_setLcz {X : Cx} {i : Nat} {y : Str} {py : Pos} {elt tg iter : Expr} {ifs : List Expr} {scope : Scope} {own : List (Str × Nat)} {pos spos : Pos} {wi : TI} {g : TG} {tt : TT} {te : TE} (hc : X.calm = true) (hN : X.N.Nodup) (hy : X.N[i]? = some y) (hyl : X.env.scope.names.lookup y = some .local)
    (hsw : swapsWith (.ListComp elt [⟨tg, iter, ifs, 0⟩] scope pos) (some (.Name y py)) spos.line X.env = pure true) (hi : PI X tg iter wi) (ok : BlkOk X.N X.env.scope scope own)
    (hg : ∀ (s : Shared) (H : Hp) (C : Addr) (cl : List (Str × Addr)) (fp : List Addr), PG (X.blk s H scope (compEnvC scope cl C X.env) fp) tg g) (ht : ∀ (s : Shared) (H : Hp) (C : Addr) (cl : List (Str × Addr)) (fp : List Addr), PTs (X.blk s H scope (compEnvC scope cl C X.env) fp) ifs tt)
    (he : ∀ (s : Shared) (H : Hp) (C : Addr) (cl : List (Str × Addr)) (fp : List Addr), PE (X.blk s H scope (compEnvC scope cl C X.env) fp) elt te) (hs : ∀ x, foldedSetIterable iter X.env x = pure x := by intro _; rfl) :
    PS X (.Assign [.Name y py] (.ListComp elt [⟨tg, iter, ifs, 0⟩] scope pos) spos) (tAsg (tLcz wi g tt te (own.map (·.2))) (gName i)) :=
  ps_w (ps_setLc hc hN hy hyl hsw (pi_mon hi) ok (fun s H C cl fp => pg_mon (hg s H C cl fp)) (fun s H C cl fp => pts_mon (ht s H C cl fp)) (fun s H C cl fp => pe_mon (he s H C cl fp)) hs) fun D σ H h => tLcz_of h
/-- a comprehension over known items: the invariant by the turn and the list so far -/
theorem lc_w {J : It} {items : List V} {S : Hp → Prop} (wk : Wk J items S) (hz : items.length ≤ 1000000) {g : TG} {tt : TT} {te : TE} {vs : List Nat} {σ : L2.St} {H1 : Hp} {D : Addr} {Qd : Hp → Prop} (Pv : Nat → List V → Hp → Prop) (h0 : ∀ H2, Nw H1 D (.lst []) H2 → Pv 0 [] H2)
    (hS : ∀ i acc H, Pv i acc H → S H) (hL : ∀ i acc H, Pv i acc H → acc.length ≤ i)
    (hs : ∀ i x acc H, items[i]? = some x → H D = some (.lst acc) → Pv i acc H → g x (wipe σ vs) H fun σ2 H2 => wipe σ2 vs = wipe σ vs ∧ tt σ2 H2 fun b H3 =>
      if b = true then te σ2 H3 fun y H4 => H4 D = some (.lst acc) ∧ ∀ H5, Wr H4 D (.lst (acc ++ [y])) H5 → Pv (i + 1) (acc ++ [y]) H5 else H3 D = some (.lst acc) ∧ Pv (i + 1) acc H3)
    (hd : ∀ acc H, acc.length ≤ items.length → H D = some (.lst acc) → Pv items.length acc H → Qd H) :
    ∃ W : Nat → Nat → List V → Hp → Prop, (∃ m, ∀ H2, Nw H1 D (.lst []) H2 → W 0 m [] H2) ∧
  ∀ i m acc H, H D = some (.lst acc) → W i m acc H → (J.stop i H ∧ Qd H) ∨
    (acc.length < sizeLine ∧ J.go i H ∧ ∃ Nx : List V → Hp → Prop, (∀ a' H', Nx a' H' → ∃ m', m' < m ∧ W (i + 1) m' a' H') ∧ ∀ x H', J.yld i H x H' → g x (wipe σ vs) H' fun σ2 H2 => wipe σ2 vs = wipe σ vs ∧ tt σ2 H2 fun b H3 =>
      if b = true then te σ2 H3 fun y H4 => H4 D = some (.lst acc) ∧ ∀ H5, Wr H4 D (.lst (acc ++ [y])) H5 → Nx (acc ++ [y]) H5 else H3 D = some (.lst acc) ∧ Nx acc H3) := by
  have hs1 : 1000000 < sizeLine := by decide
  -- the list is never longer than the turns done
  refine ⟨fun i m acc H => m = items.length - i ∧ i ≤ items.length ∧ Pv i acc H, ⟨items.length, fun H2 n => ⟨by omega, Nat.zero_le _, h0 H2 n⟩⟩, ?_⟩
  rintro i m acc H hacc ⟨rfl, hi, p⟩
  have hl := hL i acc H p
  have s := hS i acc H p
  rcases Nat.lt_or_ge i items.length with hlt | hge
  · refine .inr ⟨by omega, wk.go i H s hlt, Pv (i + 1), fun a' H' p' => ⟨items.length - (i + 1), by omega, rfl, hlt, p'⟩, fun x H' y => ?_⟩
    obtain ⟨rfl, hx⟩ := wk.yld i H x H' s hlt y
    exact hs i x acc _ hx hacc p
  · have e : i = items.length := Nat.le_antisymm hi hge
    subst e
    exact .inl ⟨wk.stop H s, hd acc H hl hacc p⟩

/-! ### constants of the module, permutations -/
theorem pe_gk {X : Cx} {x : Str} {v : V} {pos : Pos} (h : ∃ u, X.mg x = some u ∧ RelV v u) (hg : Gl X x := by rfl) (hd : (x == ("__debug__" : Str)) = false := by decide) : PE X (.Name x pos) (tC v) := by
  obtain ⟨u, hm, r⟩ := h
  exact pe_glob hg hm r hd
def zNeg : V → Hp → VK → Prop := fun x H Q => match x with
  | .int i => Q (.int (-i)) H
  | _ => False
theorem un_negZ {X : Cx} : UnR X (unaryOp .USub) zNeg :=
  fun pins s σ H x v Q I r h => by
    unfold zNeg at h
    split at h
    · exact un_neg pins s σ H _ v Q I r ⟨_, rfl, h⟩
    · exact h.elim
def perm_0 {α : Type} (l : List α) : List α := l
theorem perm_0_ok {zs : List V} {ws : List Value} (r : Vals zs ws) : Vals (perm_0 zs) (perm_0 ws) := r
def perm_1_0 {α : Type} : List α → List α
  | [a, b] => [b, a]
  | _ => []
theorem perm_1_0_ok {zs : List V} {ws : List Value} (r : Vals zs ws) : Vals (perm_1_0 zs) (perm_1_0 ws) := by
  match zs, ws, r with
  | [], [], _ => exact .nil
  | [_], [_], _ => exact .nil
  | [_, _], [_, _], .cons a (.cons b .nil) => exact .cons b (.cons a .nil)
  | _ :: _ :: _ :: _, _ :: _ :: _ :: _, _ => exact .nil

/-! ### the same rules over the written part by its own name (a block's rules must not speak of the block) -/
section
variable {X : Cx} (K : PySem.W.Frag)
theorem k_add (hK : X.K = K := by rfl) : OpR X (binaryOp .Add) (zAdd K) := hK ▸ o_add
theorem k_eq (hu : X.A.units + 64 < cLine) (hK : X.K = K := by rfl) : OpR X (compareOp .Eq) (zEq K false) := hK ▸ o_eq hu
theorem k_ne (hu : X.A.units + 64 < cLine) (hK : X.K = K := by rfl) : OpR X (compareOp .NotEq) (zEq K true) := hK ▸ o_ne hu
theorem k_in (hK : X.K = K := by rfl) : OpR X (compareOp .In) (zIn K false) := hK ▸ o_in
theorem k_nin (hK : X.K = K := by rfl) : OpR X (compareOp .NotIn) (zIn K true) := hK ▸ o_nin
theorem k_ix (hK : X.K = K := by rfl) : IxR X (zIx K) := hK ▸ o_ix
theorem k_sl (hK : X.K = K := by rfl) : SlR X (zSl K) := hK ▸ o_sl
theorem k_len (hK : X.K = K := by rfl) : CallR X (.builtin "len") (zLen K) := hK ▸ c_len
theorem k_sum (hc : X.calm = true) (hK : X.K = K := by rfl) : CallR X (.builtin "sum") (zSum K) := hK ▸ c_sum hc
theorem k_all (hc : X.calm = true) (hK : X.K = K := by rfl) : CallR X (.builtin "all") (zAll K) := hK ▸ c_all hc
theorem k_list (hK : X.K = K := by rfl) : CallR X (.type "list") (zList K) := hK ▸ c_list
theorem k_tuple (hK : X.K = K := by rfl) : CallR X (.type "tuple") (zTuple K) := hK ▸ c_tuple
theorem k_isi (hK : X.K = K := by rfl) : CallR X (.builtin "isinstance") (zIsi K) := hK ▸ c_isi
theorem mk_join (hK : X.K = K := by rfl) : MtR X "str.join" (ofS (zJoin K)) := hK ▸ m_join
theorem pt_trK {a : Expr} {ta : TE} (h : PE X a ta) (hK : X.K = K := by rfl) (he : ∀ whole, isTrue a X.env whole = (do let v ← whole; standAt a.pos; holding [v] (truthy v)) := by intro _; rfl) : PT X a (tTr K ta) := hK ▸ pt_tr h he
theorem pi_lzK {tg e : Expr} {te : TE} (h : PE X e te) (hK : X.K = K := by rfl) : PI X tg e (tItL K te) := hK ▸ pi_lz h
theorem pi_tzK {tg e : Expr} {te : TE} (h : PE X e te) (hK : X.K = K := by rfl) : PI X tg e (tItT K te) := hK ▸ pi_tz h
theorem pg_tzK {es : List Expr} {k : Nat} {pos : Pos} {t : TGs} {n : Nat} (hc : X.calm = true) (h : PGs X es t) (hK : X.K = K := by rfl) (hn : (assignEach es X.env).length = n := by rfl) (hst : (assignEach es X.env).findIdx? (·.1) = none := by rfl) : PG X (.Tuple es k pos) (gTz K n t) :=
  hK ▸ pg_tz hc h hn hst
theorem pe_mlK {e o : Expr} {es : List Expr} {to : TE} {t : TA} {name : Str} {apos cpos : Pos} {id : String} {r : Addr → List V → Hp → VK → Prop} (slot : Slot "list" name id) (hty : typeOf (.builtin id) = pure (.type "method_descriptor")) (hm : MtR X id (ofL r)) (ho : PE X o to) (ha : PA X (e :: es) t)
    (hK : X.K = K := by rfl) (hbase : attributeBase o name X.env (eval o X.env) = eval o X.env := by rfl)
    (hfew : ((backTo cpos (starEach (e :: es) X.env)).all (fun x => !x.1) && (backToKw cpos (keywordEach [] X.env)).all (fun x => x.1.isSome)
      && decide ((e :: es).length + ([] : List Keyword).length + (if ([] : List Keyword).isEmpty then 0 else 1) < 30)) = true := by rfl)
    (hline : (apos.endLine == cpos.line) = true := by rfl) (hs : starEach (e :: es) X.env = (false, eval e X.env) :: starEach es X.env := by rfl) (hplain : (backTo cpos (starEach es X.env)).any (·.1) = false := by rfl) :
    PE X (.Call (.Attribute o name apos) (e :: es) [] cpos) (tMl K r to t) := hK ▸ pe_ml slot hty hm ho ha hbase hfew hline hs hplain
end

/-! ### items at a place -/
theorem atI_some {α : Type} {xs : List α} {r : Int} (h0 : 0 ≤ r) (h : r < (xs.length : Int)) : ∃ v, atI xs r = some v ∧ v ∈ xs ∧ xs[r.toNat]? = some v := by
  have hl : r.toNat < xs.length := by omega
  have q := atI_nat (List.getElem?_eq_getElem hl)
  rw [Int.toNat_of_nonneg h0] at q
  exact ⟨xs[r.toNat], q, List.getElem_mem hl, List.getElem?_eq_getElem hl⟩
/-- an int of a written list -/
theorem menuI (ms : List Int) {r : Int} (h0 : 0 ≤ r) (h : r < (ms.length : Int)) : ∃ v, atI (ms.map V.int) r = some (.int v) ∧ v ∈ ms := by
  obtain ⟨v, h1, h2, _⟩ := atI_some (xs := ms.map V.int) h0 (by rw [List.length_map]; exact h)
  obtain ⟨i, hi, rfl⟩ := List.mem_map.mp h2
  exact ⟨i, h1, hi⟩
theorem iteY {c : Bool} {A B : Prop} (h : c = true) (a : A) : if c = true then A else B := by
  rw [if_pos h]
  exact a
theorem iteN {c : Bool} {A B : Prop} (h : c = false) (b : B) : if c = true then A else B := by
  rw [if_neg (by rw [h]; exact Bool.false_ne_true)]
  exact b
/-- one of two walks -/
def tIor (a b : TI) : TI := fun σ H R => a σ H R ∨ b σ H R
theorem pi_or {X : Cx} {tg e : Expr} {a b : TI} (ha : PI X tg e a) (hb : PI X tg e b) : PI X tg e (tIor a b) := ⟨fun pins s σ H R I h => by
  rcases h with h | h
  · exact ha.run pins s σ H R I h
  · exact hb.run pins s σ H R I h⟩
theorem dT {p : Prop} [Decidable p] (h : decide p = true) : p := of_decide_eq_true h
theorem dF {p : Prop} [Decidable p] (h : ¬ decide p = true) : ¬ p := fun q => h (decide_eq_true q)
theorem signsV_len (x : Str) : (signsV x).length = x.length := by
  rw [signsV, List.length_map, Array.length_toList]
  rfl
theorem signsV_at {x : Str} {i : Nat} {v : V} (h : (signsV x)[i]? = some v) : ∃ c, x.cps.toList[i]? = some c ∧ v = signV c := by
  rw [signsV, List.getElem?_map] at h
  cases e : x.cps.toList[i]? with
  | none => rw [e] at h; cases h
  | some c =>
    rw [e] at h
    exact ⟨c, rfl, (Option.some.inj h).symm⟩

/-! ### the end -/
section
variable {P : Program} {w : World} {K : PySem.W.Frag} {mg : Str → Option Value} {base : Heap}
theorem df_mk {h : Heap} (X : K.In h) (G : h.Ns mainGlobals mg) {x : Str} {st : Stmt} {ps : List Str} {f : Addr} {oc : Value} {od an : Option Addr} {osl : Array (Option Value)} {kV doc pm cdv ct : Value} (a : PySem.W.nsIn K mainGlobals x = some (some (.ref f)))
    (l : K.lookup f = some ⟨oc, od, .func (PySem.W.fnOf x x (defArgs st) (defBody st) (defScope st) .none kV doc pm an cdv ct), osl⟩) (c : PySem.W.codeIn K cdv x = true) (k : PySem.W.keepIn K (.ref f) = true)
    (b : ∀ (kV doc pm : Value) (an : Option Addr) (cdv ct : Value) (us : List Value), us.length = ps.length → bindArgs (PySem.W.fnOf x x (defArgs st) (defBody st) (defScope st) .none kV doc pm an cdv ct) ⟨us, []⟩ = pure (ps.zip us)) : Df K mg x st ps :=
  ⟨f, _, fun_mk l c k, PySem.W.mg_of X G a, (fun_mk l c k).binds b⟩
theorem law_fn {CX : CXT} {k : Nat} {x : Str} {ps : List Str} {sp : Sp} {fa : Addr} {fd : FuncData} {oc : Value} {od : Option Addr} {osl : Array (Option Value)} (C : Ct P w K mg base CX k x ps sp) (hfa : mg x = some (.ref fa))
    (l : K.lookup fa = some ⟨oc, od, .func fd, osl⟩) : FnOk P w K mg base CX k fa fd ps sp := by
  obtain ⟨f, fd', hm, _, _, F, oc', od', osl', hl⟩ := C.ex
  have e : f = fa := by
    rw [hm] at hfa
    cases hfa
    rfl
  subst e
  have e2 : fd' = fd := by
    rw [hl] at l
    cases l
    rfl
  subst e2
  exact F
end
end Z

/-! G: defs that call repr: what the room says of the guards is known. -/
namespace Z
open PySem PySem.Spec PyProof.Rows L2

/-- room, and nothing is being shown -/
structure RoomG (k : Nat) (A : Around) : Prop where
  room : Room k A
  free : A.guards = some []
theorem RoomG.mono {j k : Nat} {A : Around} (r : RoomG k A) (h : j ≤ k) : RoomG j A := ⟨r.room.mono h, r.free⟩
theorem RoomG.down {k : Nat} {A : Around} (r : RoomG (k + 1) A) (env : Env) : RoomG k (A.deeper env) := ⟨r.room.deeper env, r.free⟩
/-- one call of a def, at one place -/
theorem one_call {CX : CXT} {P : Program} {w : World} {K : PySem.W.Frag} {mg : Str → Option Value} {base : Heap} {k : Nat} {x qual : Str} {st : Stmt} {f : Addr} {fd : FuncData} {N ps : List Str} (F : Fun K x qual st f fd) (S : FnScope N ps (defScope st))
    {A : Around} {outer : List Env} {s : Shared} {H : Hp} {args : Args} {us : List Value} {vs : List V} {Q : VK} {E : XK} (hr : Room (k + 1) A) (e0 : Env0 P w K mg base A outer s H) (hb : BindsTo s fd args (ps.zip us)) (r : Vals vs us) (hl : vs.length = ps.length)
    (body : ∀ cdv : Value, ∃ t, PSs (cxOf CX P w K mg base N qual (defScope st) f cdv A outer s H E) (defBody st) t ∧ t { nx := fun _ H' => Q .non H', rt := Q } (start N vs) H) :
    codeAny (model P w) A (.call (.ref f) args) (CR CX outer P w H s Q E) s := by
  obtain ⟨oc, od, kV, doc, pm, an, cdv, ct, osl, e, lk, hcd⟩ := F.ex
  subst e
  obtain ⟨t, ht, hq⟩ := body cdv
  have grow : ∀ b o, base.get? b = some o → s.heap.get? b = some o := fun b o q => (e0.bs b o q).1
  have inK := e0.mod.kin.keeps grow
  have seen : ∀ y ∈ ps.zip us, (defScope st).names.lookup y.1 = some .local ∨ ((defScope st).names.lookup y.1 = some .cell ∧ ((cellsFrom (s.heap.objs.size + 1) (defScope st).names []).lookup y.1).isSome = true) := by
    intro y hy
    exact (S.par y.1 (List.of_mem_zip (a := y.1) (b := y.2) hy).1).imp_right fun q => ⟨q, PySem.W.cellsFrom_some _ _ _ (.inl q)⟩
  apply codeAny_call_function hr.depth (inK _ _ lk) rfl S.co S.gen rfl (PySem.W.codeRec_of inK hcd)
  apply hb
  apply wpAny_newFunctionEnv_cells S.kind seen
  rintro env rfl s1 x1
  refine And.intro ((e0.mod.nolimit.keeps grow).keeps x1.toInCall.keep) (codeAny_func ?_)
  have I := inv_start (CX := CX) (E := E) S hr.hd e0 hl r x1
  refine wpAny_mono (ht.run [] s1 (start N vs) H _ I hq) ?_ (fun _ _ z => z)
  have out : ∀ (s' : Shared) (σ' : L2.St) (H' : Hp) (v : V) (u : Value), Inv (cxOf CX P w K mg base N qual (defScope st) f cdv A outer s H E) [] σ' H' s' → RelV v u → Q v H' → CE outer P w H s Q u s' :=
    fun s' σ' H' v u J rv z => ⟨v, H', J.os, J.bare, J.base, J.hok, rv, z⟩
  intro fl s' hs
  match fl, hs with
  | .ret u, ⟨v, σ', H', J, rv, z⟩ => exact out s' σ' H' v u J rv z
  | .next, ⟨σ', H', J, z⟩ => exact out s' σ' H' .non .none J rfl z
  | .brk, ⟨_, _, _, z⟩ => exact z.elim
  | .cont, ⟨_, _, _, z⟩ => exact z.elim
/-- a def's promise where nothing is being shown -/
structure FnG (P : Program) (w : World) (K : PySem.W.Frag) (mg : Str → Option Value) (base : Heap) (CX : CXT) (k : Nat) (f : Addr) (fd : FuncData) (ps : List Str) (sp : Sp) : Prop where
  many : ∀ vs H Q E, sp vs H Q E → vs.length = ps.length
  call : ∀ (A : Around) (outer : List Env) (s : Shared) (H : Hp) (args : Args) (us : List Value) (vs : List V) (Q : VK) (E : XK), RoomG k A → Env0 P w K mg base A outer s H → BindsTo s fd args (ps.zip us) → Vals vs us → sp vs H Q E →
    codeAny (model P w) A (.call (.ref f) args) (CR CX outer P w H s Q E) s
structure Cg (P : Program) (w : World) (K : PySem.W.Frag) (mg : Str → Option Value) (base : Heap) (CX : CXT) (k : Nat) (x : Str) (ps : List Str) (sp : Sp) : Prop where
  ex : ∃ f fd, mg x = some (.ref f) ∧ PySem.W.keepIn K (.ref f) = true ∧ Binds K fd ps [] ∧ FnG P w K mg base CX k f fd ps sp ∧ ∃ oc od osl, K.lookup f = some ⟨oc, od, .func fd, osl⟩
theorem Ct.g {P : Program} {w : World} {K : PySem.W.Frag} {mg : Str → Option Value} {base : Heap} {CX : CXT} {k : Nat} {x : Str} {ps : List Str} {sp : Sp} (C : Ct P w K mg base CX k x ps sp) : Cg P w K mg base CX k x ps sp := by
  obtain ⟨f, fd, a, b, c, F, d⟩ := C.ex
  exact ⟨f, fd, a, b, c, ⟨F.len, fun A outer s H args us vs Q E r => F.run A outer s H args us vs Q E r.room⟩, d⟩
section
variable {X : Cx} {CX : CXT} {k : Nat} {x : Str} {ps : List Str} {sp : Sp} {E : XK} {p pos : Pos} {e : Expr} {es : List Expr} {t : TA}
/-- the callee runs -/
theorem fng_at {f : Addr} {fd : FuncData} {pins : List (Addr × Obj)} {σ : L2.St} {H : Hp} {s : Shared} {Q : VK} {us : List Value} {vs : List V} (F : FnG X.prog X.w X.K X.mg X.base CX k f fd ps sp) (hr : RoomG k X.A) (hb : Binds X.K fd ps []) (hx : Passes CX X E)
    (I : Inv X pins σ H s) (r : Vals vs us) (h : sp vs H Q E) : wpAny (model X.prog X.w) X.A (call (.ref f) us) (EP X pins σ Q) X.xe s := by
  have hl : us.length = ps.length := r.length.symm.trans (F.many _ _ _ _ h)
  have b := hb s us I.kIn (by simpa using hl)
  rw [List.append_nil] at b
  refine wpAny_call (codeAny_mono (F.call X.A X.stack s H ⟨us, []⟩ us vs Q E hr I.env0 b r h) ?_)
  intro r s' hq
  match r, hq with
  | .error e, hq => exact hx pins σ H s e s' I hq
  | .ok (.ret u), hq => exact I.after hq
  | .ok .next, hq => exact False.elim hq
  | .ok .brk, hq => exact False.elim hq
  | .ok .cont, hq => exact False.elim hq
theorem pe_cg (C : Cg X.prog X.w X.K X.mg X.base CX k x ps sp) (hr : RoomG k X.A) (hx : Passes CX X E) (ha : PA X (e :: es) t) (hg : Gl X x := by rfl)
    (hdb : (x == ("__debug__" : Str)) = false := by decide)
    (he : starEach (e :: es) X.env = (false, eval e X.env) :: starEach es X.env := by rfl) (hpl : (backTo pos (starEach es X.env)).any (·.1) = false := by rfl) : PE X (.Call (.Name x p) (e :: es) [] pos) (tCl sp E t) := by
  obtain ⟨f, fd, hm, hk, hb, F, _⟩ := C.ex
  exact ⟨fun pins s σ H Q I h => wpAny_Call_Name_kw (ld_glob I hg hm (PySem.W.callWith_K (h₀ := X.base) I.ok.mod.kin hk (thn (ha.run pos pins s σ H _ I h) fun us s1 ⟨vs, H1, I1, r, q⟩ => ⟨I1.kIn, fng_at F hr hb hx I1 r q⟩) he hpl) hdb)⟩
end
section
variable {P : Program} {w : World} {K : PySem.W.Frag} {mg : Str → Option Value} {base : Heap}
theorem fng {x : Str} {st : Stmt} {f : Addr} {fd : FuncData} {N ps : List Str} {k : Nat} {sp : Sp} (F : Fun K x x st f fd) (S : FnScope N ps (defScope st)) (len : ∀ vs H Q E, sp vs H Q E → vs.length = ps.length)
    (body : ∀ (cdv : Value) (A : Around) (outer : List Env) (s : Shared) (H : Hp) (vs : List V) (Q : VK) (E : XK), RoomG k (A.deeper (envOfC x (defScope st) s.heap.objs.size f cdv)) → sp vs H Q E →
      ∃ t, PSs (cxOf CX0 P w K mg base N x (defScope st) f cdv A outer s H E).nox (defBody st) t ∧ t { nx := fun _ H' => Q .non H', rt := Q } (start N vs) H) : FnG P w K mg base CX0 (k + 1) f fd ps sp :=
  ⟨len, fun A outer s H args us vs Q E hr e0 hb r h => one_call F S hr.room e0 hb r (len _ _ _ _ h) fun cdv => by
    obtain ⟨t, a, b⟩ := body cdv A outer s H vs Q E (hr.down _) h
    exact ⟨t, a.nox, b⟩⟩
theorem cg0 {x : Str} {st : Stmt} {N : List Str} {k : Nat} {p : Hp → VK → XK → Prop} (D : Df K mg x st []) (S : FnScope N [] (defScope st))
    (body : ∀ (f : Addr) (cdv : Value) (A : Around) (outer : List Env) (s : Shared) (H : Hp) (Q : VK) (E : XK), RoomG k (A.deeper (envOfC x (defScope st) s.heap.objs.size f cdv)) → p H Q E →
      ∃ t, PSs (cxOf CX0 P w K mg base N x (defScope st) f cdv A outer s H E).nox (defBody st) t ∧ t { nx := fun _ H' => Q .non H', rt := Q } (start N []) H) : Cg P w K mg base CX0 (k + 1) x [] (fun vs H Q E => vs = [] ∧ p H Q E) := by
  obtain ⟨f, fd, F, hm, hb⟩ := D.ex
  refine ⟨f, fd, hm, F.kp, hb, fng F S (fun vs H Q E h => by rw [h.1]; rfl) (fun cdv A outer s H vs Q E hr h => ?_), fun_at F⟩
  obtain ⟨rfl, h⟩ := h
  exact body f cdv A outer s H Q E hr h
theorem cg1 {x : Str} {st : Stmt} {a : Str} {N : List Str} {k : Nat} {p : V → Hp → VK → XK → Prop} (D : Df K mg x st [a]) (S : FnScope N [a] (defScope st))
    (body : ∀ (f : Addr) (cdv : Value) (A : Around) (outer : List Env) (s : Shared) (H : Hp) (u : V) (Q : VK) (E : XK), RoomG k (A.deeper (envOfC x (defScope st) s.heap.objs.size f cdv)) → p u H Q E →
      ∃ t, PSs (cxOf CX0 P w K mg base N x (defScope st) f cdv A outer s H E).nox (defBody st) t ∧ t { nx := fun _ H' => Q .non H', rt := Q } (start N [u]) H) : Cg P w K mg base CX0 (k + 1) x [a] (sp1 p) := by
  obtain ⟨f, fd, F, hm, hb⟩ := D.ex
  refine ⟨f, fd, hm, F.kp, hb, fng F S (fun vs H Q E h => ?_) (fun cdv A outer s H vs Q E hr h => ?_), fun_at F⟩
  · obtain ⟨u, rfl, _⟩ := sp1_of h
    rfl
  · obtain ⟨u, rfl, h⟩ := sp1_of h
    exact body f cdv A outer s H u Q E hr h
theorem cg2 {x : Str} {st : Stmt} {a b : Str} {N : List Str} {k : Nat} {p : V → V → Hp → VK → XK → Prop} (D : Df K mg x st [a, b]) (S : FnScope N [a, b] (defScope st))
    (body : ∀ (f : Addr) (cdv : Value) (A : Around) (outer : List Env) (s : Shared) (H : Hp) (u v : V) (Q : VK) (E : XK), RoomG k (A.deeper (envOfC x (defScope st) s.heap.objs.size f cdv)) → p u v H Q E →
      ∃ t, PSs (cxOf CX0 P w K mg base N x (defScope st) f cdv A outer s H E).nox (defBody st) t ∧ t { nx := fun _ H' => Q .non H', rt := Q } (start N [u, v]) H) : Cg P w K mg base CX0 (k + 1) x [a, b] (sp2 p) := by
  obtain ⟨f, fd, F, hm, hb⟩ := D.ex
  refine ⟨f, fd, hm, F.kp, hb, fng F S (fun vs H Q E h => ?_) (fun cdv A outer s H vs Q E hr h => ?_), fun_at F⟩
  · obtain ⟨u, v, rfl, _⟩ := sp2_of h
    rfl
  · obtain ⟨u, v, rfl, h⟩ := sp2_of h
    exact body f cdv A outer s H u v Q E hr h
theorem cg3 {x : Str} {st : Stmt} {a b c : Str} {N : List Str} {k : Nat} {p : V → V → V → Hp → VK → XK → Prop} (D : Df K mg x st [a, b, c]) (S : FnScope N [a, b, c] (defScope st))
    (body : ∀ (f : Addr) (cdv : Value) (A : Around) (outer : List Env) (s : Shared) (H : Hp) (u v v3 : V) (Q : VK) (E : XK), RoomG k (A.deeper (envOfC x (defScope st) s.heap.objs.size f cdv)) → p u v v3 H Q E →
      ∃ t, PSs (cxOf CX0 P w K mg base N x (defScope st) f cdv A outer s H E).nox (defBody st) t ∧ t { nx := fun _ H' => Q .non H', rt := Q } (start N [u, v, v3]) H) : Cg P w K mg base CX0 (k + 1) x [a, b, c] (sp3 p) := by
  obtain ⟨f, fd, F, hm, hb⟩ := D.ex
  refine ⟨f, fd, hm, F.kp, hb, fng F S (fun vs H Q E h => ?_) (fun cdv A outer s H vs Q E hr h => ?_), fun_at F⟩
  · obtain ⟨u, v, v3, rfl, _⟩ := sp3_of h
    rfl
  · obtain ⟨u, v, v3, rfl, h⟩ := sp3_of h
    exact body f cdv A outer s H u v v3 Q E hr h
end
end Z

/-! D: data with dicts, as it stands in the abstract heap; repr. -/
namespace Z
open PySem PySem.Spec PyProof.V PyProof.Rows L2

def keyD : Key → PyData
  | .inl i => .int i
  | .inr x => .str x
mutual
/-- a value as data; g: the lists do not lie where the modules do (what is asked where a dict is shown, too) -/
inductive Dz (g : Bool) (H : Hp) : V → PyData → Prop
  | non : Dz g H .non .none
  | bl (b : Bool) : Dz g H (.bl b) (.bool b)
  | int (i : Int) : Dz g H (.int i) (.int i)
  | str (x : Str) : Dz g H (.str x) (.str x)
  | lst {a : Addr} {xs : List V} {ds : List PyData} : H a = some (.lst xs) → (g = true → a ≠ sysModules) → DzAll g H xs ds → Dz g H (.ref a) (.list ds)
  | tup {a : Addr} {xs : List V} {ds : List PyData} : H a = some (.tup xs) → DzAll g H xs ds → Dz g H (.ref a) (.tuple ds)
  | dic {a : Addr} {kvs : List (Key × V)} {D : List (PyData × PyData)} : H a = some (.dK kvs) → DzKv g H kvs D → Dz g H (.ref a) (.dict D)
inductive DzAll (g : Bool) (H : Hp) : List V → List PyData → Prop
  | nil : DzAll g H [] []
  | cons {v : V} {vs : List V} {d : PyData} {ds : List PyData} : Dz g H v d → DzAll g H vs ds → DzAll g H (v :: vs) (d :: ds)
inductive DzKv (g : Bool) (H : Hp) : List (Key × V) → List (PyData × PyData) → Prop
  | nil : DzKv g H [] []
  | cons {k : Key} {v : V} {kvs : List (Key × V)} {d : PyData} {D : List (PyData × PyData)} : Dz g H v d → DzKv g H kvs D → DzKv g H ((k, v) :: kvs) ((keyD k, d) :: D)
end
mutual
theorem Dz.same {g : Bool} {H H2 : Hp} (s : Same H H2) : ∀ {v : V} {d : PyData}, Dz g H v d → Dz g H2 v d
  | _, _, .non => .non
  | _, _, .bl b => .bl b
  | _, _, .int i => .int i
  | _, _, .str x => .str x
  | _, _, .lst h n a => .lst (s _ _ h) n (DzAll.same s a)
  | _, _, .tup h a => .tup (s _ _ h) (DzAll.same s a)
  | _, _, .dic h a => .dic (s _ _ h) (DzKv.same s a)
theorem DzAll.same {g : Bool} {H H2 : Hp} (s : Same H H2) : ∀ {vs : List V} {ds : List PyData}, DzAll g H vs ds → DzAll g H2 vs ds
  | _, _, .nil => .nil
  | _, _, .cons h t => .cons (Dz.same s h) (DzAll.same s t)
theorem DzKv.same {g : Bool} {H H2 : Hp} (s : Same H H2) : ∀ {kvs : List (Key × V)} {D : List (PyData × PyData)}, DzKv g H kvs D → DzKv g H2 kvs D
  | _, _, .nil => .nil
  | _, _, .cons h t => .cons (Dz.same s h) (DzKv.same s t)
end
theorem key_reads {h : Heap} : ∀ (k : Key) (key : Value), keyIs k key = true → Reads h key (keyD k) [] := fun k key e => by
  rcases keyIs_shape e with ⟨i, t, rfl, rfl⟩ | ⟨x, t, rfl, rfl⟩
  · exact .int i t
  · exact .str x t
section
variable {g : Bool} {X : Cx} {pins : List (Addr × Obj)} {σ : L2.St} {H : Hp} {s : Shared}
mutual
theorem Dz.reads (I : Inv X pins σ H s) : ∀ {v : V} {d : PyData} (u : Value), Dz g H v d → RelV v u → ∃ as, Reads s.heap u d as ∧ (g = true → sysModules ∉ as)
  | _, _, u, .non, r => by
    cases r
    exact ⟨_, .none, fun _ => by simp⟩
  | _, _, u, .bl b, r => by
    cases r
    exact ⟨_, .bool b, fun _ => by simp⟩
  | _, _, u, .int i, r => by
    obtain ⟨t, rfl⟩ := r
    exact ⟨_, .int i t, fun _ => by simp⟩
  | _, _, u, .str x, r => by
    obtain ⟨t, rfl⟩ := r
    exact ⟨_, .str x t, fun _ => by simp⟩
  | _, _, u, .lst h n a, r => by
    cases r
    obtain ⟨_, its, m, rv, e⟩ := I.hok _ _ h
    obtain ⟨as, q, w⟩ := DzAll.reads I its a rv
    exact ⟨_, .list e rfl rfl (by simpa using q), fun e => by simp only [List.mem_cons, not_or]; exact ⟨fun z => n e z.symm, w e⟩⟩
  | _, _, u, .tup h a, r => by
    cases r
    obtain ⟨_, its, rv, o, ho, hc, m, hd⟩ := I.hok _ _ h
    obtain ⟨as, q, w⟩ := DzAll.reads I its a rv
    exact ⟨_, .tuple ho hc hd (by simpa using q), w⟩
  | _, _, u, .dic h a, r => by
    cases r
    obtain ⟨_, n, vs, rv, e⟩ := I.hok _ _ h
    obtain ⟨bs, q, w⟩ := DzKv.reads I vs a rv
    exact ⟨_, reads_dictOf key_reads e q, fun e => by simp only [List.mem_cons, not_or]; exact ⟨fun z => by rw [← z] at n; exact absurd n (by decide), w e⟩⟩
theorem DzAll.reads (I : Inv X pins σ H s) : ∀ {vs : List V} {ds : List PyData} (us : List Value), DzAll g H vs ds → Vals vs us → ∃ as, ReadsAll s.heap us ds as ∧ (g = true → sysModules ∉ as)
  | _, _, us, .nil, r => by
    cases r
    exact ⟨_, .nil, fun _ => by simp⟩
  | _, _, us, .cons h t, r => by
    cases r with
    | cons r1 r2 =>
      obtain ⟨as, q1, w1⟩ := Dz.reads I _ h r1
      obtain ⟨bs, q2, w2⟩ := DzAll.reads I _ t r2
      exact ⟨_, .cons q1 q2, fun e z => (List.mem_append.mp z).elim (w1 e) (w2 e)⟩
theorem DzKv.reads (I : Inv X pins σ H s) : ∀ {kvs : List (Key × V)} {D : List (PyData × PyData)} (vs : List (Key × Value)), DzKv g H kvs D → KV kvs vs → ∃ as, PairsRead s.heap keyD vs D as ∧ (g = true → sysModules ∉ as)
  | _, _, vs, .nil, r => by
    cases r
    exact ⟨_, .nil, fun _ => by simp⟩
  | _, _, vs, .cons h t, r => by
    cases r with
    | @cons _ b _ _ r1 r2 =>
      obtain ⟨k, u⟩ := b
      obtain ⟨rfl, r1⟩ := r1
      obtain ⟨as, q1, w1⟩ := Dz.reads I _ h r1
      obtain ⟨bs, q2, w2⟩ := DzKv.reads I _ t r2
      exact ⟨_, .cons q1 q2, fun e z => (List.mem_append.mp z).elim (w1 e) (w2 e)⟩
end
end
/-- repr(x) of data -/
def zRepr : List V → Hp → VK → Prop := fun vs H Q => match vs with
  | [v] => ∃ g d, Dz g H v d ∧ (d.hasDict = true → g = true) ∧ d.showable = true ∧ d.depth ≤ 60 ∧ d.shown.length ≤ sizeLine ∧ Q (.str d.shown) H
  | _ => False
theorem c_repr {X : Cx} {k : Nat} (hr : RoomG k X.A) : CallR X (.builtin "repr") zRepr := by
  intro pins s σ H xs us Q I r h
  unfold zRepr at h
  split at h
  · obtain ⟨g, d, hd, hg, hs, hp, hz, q⟩ := h
    obtain ⟨u, rfl, ru⟩ := vals1 r
    have un := hr.room.un
    obtain ⟨as, rd, w⟩ := Dz.reads I u hd ru
    have keep : ∀ {t : Nat} {h' : Heap}, (∀ b o, s.heap.get? b = some o → h'.get? b = some o) → ∀ t', EP X pins σ Q (.str d.shown t') { s with heap := h', toks := t } := fun hk t' => ⟨.str d.shown, H, I.kept hk, ⟨_, rfl⟩, q⟩
    cases rd with
    | none => exact PySem.P.repr_of_none ⟨.str _, H, I.tok _, ⟨_, rfl⟩, q⟩
    | bool b => exact PySem.P.repr_of_bool ⟨.str _, H, I.tok _, ⟨_, rfl⟩, by cases b <;> exact q⟩
    | int i t => exact PySem.P.repr_of_int (by simpa [PyData.showable] using hs) ⟨.str _, H, I.tok _, ⟨_, rfl⟩, q⟩
    | str x t => exact PySem.P.repr_of_str ⟨.str _, H, I.tok _, ⟨_, rfl⟩, q⟩ hz
    | list a b c e => exact repr_of_reads' (Reads.list a b c e) hs (fun z => w (hg z)) hr.free (by omega) (fun _ _ z => z) (fun h' u tk hk => keep hk _) hz
    | tuple a b c e => exact repr_of_reads' (Reads.tuple a b c e) hs (fun z => w (hg z)) hr.free (by omega) (fun _ _ z => z) (fun h' u tk hk => keep hk _) hz
    | dict a b c e f => exact repr_of_reads' (Reads.dict a b c e f) hs (fun z => w (hg z)) hr.free (by omega) (fun _ _ z => z) (fun h' u tk hk => keep hk _) hz
  · exact h.elim
/-- a list display, not where the modules are -/
def tLzS (t : TA) : TE := fun σ H Q => t σ H fun xs H1 => xs.length ≤ sizeLine ∧ ∀ p H2, Nw H1 p (.lst xs) H2 → p ≠ sysModules → Q (.ref p) H2
theorem pe_lzS {X : Cx} {es : List Expr} {t : TA} {pos : Pos} (h : PA X es t) : PE X (.List es pos) (tLzS t) := by
  constructor
  intro pins s σ H Q I hq
  refine wpAny_List_spliced (thn (h.run pos pins s σ H _ I hq) ?_)
  rintro us s1 ⟨xs, H1, I1, r, z, q⟩
  have free : H1 s1.heap.objs.size = none := I1.hok.fresh (Nat.le_refl _)
  have far : s1.heap.objs.size ≠ sysModules := Nat.ne_of_gt I1.big
  refine ⟨by rw [← r.length]; exact z, .ref _, _, I1.laid (t' := s1.toks) (o := .lst xs) (fun b u e => Heap.get?_push_of_some _ e) (Nat.le_refl _) ⟨z, us, 0, r, Heap.get?_push_size _ rfl⟩, rfl, q _ _ (nw free) far⟩
end Z

/-! E: the end of a law whose def calls repr. -/
namespace Z
open PySem PySem.Spec PyProof.Rows L2

/-- the script alone is tracked, if the object does not know it -/
def scriptH (K : PySem.W.Frag) (a : Addr) (o : Obj) (ns : List Int) : Hp := fun b => if b = a ∧ (K.lookup a).isNone = true then some (.frz o (.lst (ns.map V.int))) else none
theorem scriptH_at {K : PySem.W.Frag} {a b : Addr} {o : Obj} {ns : List Int} {u : HO} (h : scriptH K a o ns b = some u) : b = a ∧ K.lookup a = none ∧ u = .frz o (.lst (ns.map V.int)) := by
  unfold scriptH at h
  split at h
  · rename_i c
    exact ⟨c.1, Option.isNone_iff_eq_none.mp c.2, (Option.some.inj h).symm⟩
  · cases h
theorem walk_g {l : PySem.W.OpenLaw} {n k : Nat} {q : Program} {loose : List Str} {XP : (Str → Option Value) → Heap → Prop} {YP : World → Heap → Prop} {d : DefRec} {K : Params → PySem.W.Frag} {CX : CXT} {sp : World → Sp} {x : Str}
    (hn : l.most = some n) (hn2 : n ≤ sizeLine) (hdf : d.params.defaults = []) (hr : RoomG k callerA) (hY : ∀ (w : World) (h : Heap), YP w h → (K w.params).In h)
    (F : ∀ (w : World) (mg : Str → Option Value) (fa : Addr) (h : Heap), (K w.params).In h → h.Ns mainGlobals mg → mg d.name = some (.ref fa) →
      ∃ fd : FuncData, (∀ (s : Shared) (u : Value), BindsTo s fd ⟨[u], []⟩ [(x, u)]) ∧ ∀ base : Heap, (K w.params).In base → base.Ns mainGlobals mg → FnG l.prog w (K w.params) mg base CX k fa fd [x] (sp w))
    (hsp : ∀ (w : World) (H : Hp) (a : Addr) (ns : List Int), ns.length ≤ n → SqL (K w.params) H a (ns.map V.int) → sp w [.ref a] H (fun v _ => v = .bl true) fun _ _ _ => False)
    (hCX : ∀ (H : Hp) (s : Shared) (e : Value) (s' : Shared), CX [] H s (fun _ _ _ => False) e s' → False) :
    PySem.W.WalkO q loose XP YP l.row.toRowW d [] (fun f vs => PySem.call f vs) := by
  refine Att.attach_call hn hdf ?_
  intro w s₀ s₁ mg mb fa o pm cd doc a vs ns G Y _ _ _ hmg ha hints hlen hg
  have KX := hY w _ Y
  obtain ⟨fd, hbind, hF⟩ := F w mg fa _ KX G.T.g hmg
  have hspw := hsp w
  generalize K w.params = K at *
  generalize eo : ({ cls := .type "list", data := .seq vs.toArray } : Obj) = obj at ha
  have rv := vals_ints hints
  have lenV := hints.length
  have hS : SqL K (scriptH K a obj ns) a (ns.map V.int) := by
    cases hk : K.lookup a with
    | none => exact .inl (.inr ⟨obj, if_pos ⟨rfl, by rw [hk]; rfl⟩⟩)
    | some o2 =>
      have e2 := KX a o2 hk
      rw [ha] at e2
      cases e2
      subst eo
      exact .inr ⟨_, vs.toArray, _, hk, rfl, rfl, rfl, by rw [List.size_toArray, lenV]; exact Nat.le_trans hlen hn2, by simpa using rv⟩
  have seen : ∀ {b : Addr} {u : Obj}, s₁.heap.get? b = some u → (b = a → K.lookup a = some u ∨ False) → (hidT s₁.heap (scriptH K a obj ns)).get? b = some u := fun {b u} e c => hidT_get e (by
    cases z : scriptH K a obj ns b with
    | none => rfl
    | some v =>
      obtain ⟨e1, e2, _⟩ := scriptH_at z
      rcases c e1 with c | c
      · rw [e2] at c; cases c
      · exact c.elim)
  have inK : K.In (hidT s₁.heap (scriptH K a obj ns)) := fun b u e => seen (KX b u e) fun z => .inl (by rw [← z]; exact e)
  have names : ∀ {b : Addr} {m : Str → Option Value}, s₁.heap.Ns b m → (hidT s₁.heap (scriptH K a obj ns)).Ns b m := fun {b m} ⟨u, es, ep, e, dd, rest⟩ => ⟨u, es, ep, seen e (fun z => by
    subst z
    rw [ha] at e
    cases e
    subst eo
    exact nomatch dd), dd, rest⟩
  obtain ⟨mc, lim1, lim2⟩ := G.T.nolimit
  have world : Env0 l.prog w K mg (hidT s₁.heap (scriptH K a obj ns)) callerA [] s₁ (scriptH K a obj ns) := by
    constructor
    · rfl
    · exact ⟨inK, names G.T.g, ⟨mb, names G.T.b, G.T.builtins⟩, ⟨mc, names lim1, lim2⟩⟩
    · exact fun b u e => of_hidT e
    · exact Nat.le_of_eq (hidT_size _ _)
    · trivial
    · exact fun b z => absurd (show b ∈ ([] : List Addr) from z) List.not_mem_nil
    · intro b u e
      obtain ⟨rfl, _, rfl⟩ := scriptH_at e
      exact ⟨ha, by rw [List.length_map]; exact Nat.le_trans hlen hn2, vs, 0, rv, by rw [ha, ← eo]⟩
    · exact .of_eq hg
  have run := (hF _ inK (names G.T.g)).call callerA [] s₁ (scriptH K a obj ns) ⟨[.ref a], []⟩ [.ref a] [.ref a] (fun v _ => v = .bl true) (fun _ _ _ => False) hr world (hbind s₁ (.ref a)) (.cons rfl .nil) (hspw _ a ns hlen hS)
  refine codeAny_mono run ?_
  intro r s' h
  match r, h with
  | .error e, h => exact (hCX _ _ e s' h).elim
  | .ok .next, h => exact False.elim h
  | .ok .brk, h => exact False.elim h
  | .ok .cont, h => exact False.elim h
  | .ok (.ret u), ⟨v, H', os, bare, un, hok', r', hv⟩ =>
    have hv : v = .bl true := hv
    subst hv
    have r' : u = Value.bool true := r'
    subst r'
    refine ⟨rfl, OldK.of_keep ?_, os, bare⟩
    intro b u e
    cases z : scriptH K a obj ns b with
    | none => exact un.keep b u e z (fun c => absurd (show b ∈ ([] : List Addr) from c) List.not_mem_nil) List.not_mem_nil
    | some v =>
      obtain ⟨rfl, _, rfl⟩ := scriptH_at z
      have e2 := (hok' _ _ (un.frzs _ _ _ z)).1
      rw [ha] at e
      cases e
      exact e2
/-- dict(..) of a list of pairs, of a dict -/
def zDict (K : PySem.W.Frag) : List V → Hp → VK → Prop := fun vs H Q => match vs with
  | [.ref a] => (∃ (ps : List Addr) (kvs : List (Key × V)), SqL K H a (ps.map V.ref) ∧ Paired (fun p kv => SqT K H p [kV kv.1, kv.2]) ps kvs ∧ ∀ p H2, Nw H p (.dK (mergeK [] kvs)) H2 → Q (.ref p) H2) ∨
    ∃ kvs, H a = some (.dK kvs) ∧ ∀ p H2, Nw H p (.dK kvs) H2 → Q (.ref p) H2
  | _ => False
theorem c_dict {X : Cx} (hc : X.calm = true) : CallR X (.type "dict") (zDict X.K) := by
  intro pins s σ H xs us Q I r h
  unfold zDict at h
  split at h
  · rename_i a
    rcases h with ⟨ps, kvs, h1, h2, q⟩ | ⟨kvs, h1, q⟩
    · exact call_dictP hc pins s σ H _ us Q I r ⟨a, ps, kvs, rfl, h1, h2, fun p hp => q p _ (nw hp)⟩
    · obtain ⟨u, rfl, ru⟩ := vals1 r
      cases ru
      exact d_copyOf I (.inl h1) fun p s' hp J => ⟨.ref p, _, J, rfl, q p _ (nw hp)⟩
  · exact h.elim
theorem k_dict {X : Cx} (K : PySem.W.Frag) (hc : X.calm = true) (hK : X.K = K := by rfl) : CallR X (.type "dict") (zDict K) := hK ▸ c_dict hc
theorem law_gn {P : Program} {w : World} {K : PySem.W.Frag} {mg : Str → Option Value} {base : Heap} {CX : CXT} {k : Nat} {x : Str} {ps : List Str} {sp : Sp} {fa : Addr} {fd : FuncData} {oc : Value} {od : Option Addr} {osl : Array (Option Value)} (C : Cg P w K mg base CX k x ps sp) (hfa : mg x = some (.ref fa))
    (l : K.lookup fa = some ⟨oc, od, .func fd, osl⟩) : FnG P w K mg base CX k fa fd ps sp := by
  obtain ⟨f, fd', hm, _, _, F, oc', od', osl', hl⟩ := C.ex
  obtain rfl : f = fa := by
    rw [hm] at hfa
    cases hfa
    rfl
  obtain rfl : fd' = fd := by
    rw [hl] at l
    cases l
    rfl
  exact F
end Z

/-! M9: texts as lists of codes: signs, frames, their reading. -/
namespace M9
open PySem PySem.Spec PyProof.Rows L2 Z SX PySem.NumText

/-! ### signs -/
def Pr (l : List Nat) : Prop := ∀ c ∈ l, 32 ≤ c ∧ c ≤ 126
theorem pr_nil : Pr [] := fun _ h => by cases h
theorem pr_cons {c : Nat} {l : List Nat} (h : 32 ≤ c ∧ c ≤ 126) (t : Pr l) : Pr (c :: l) := fun d hd => by
  rcases List.mem_cons.mp hd with rfl | hd
  · exact h
  · exact t d hd
theorem pr_app {l m : List Nat} (a : Pr l) (b : Pr m) : Pr (l ++ m) := fun c hc => (List.mem_append.mp hc).elim (a c) (b c)
theorem pr_take {l : List Nat} (n : Nat) (a : Pr l) : Pr (l.take n) := fun c hc => a c (List.mem_of_mem_take hc)
theorem pr_drop {l : List Nat} (n : Nat) (a : Pr l) : Pr (l.drop n) := fun c hc => a c (List.mem_of_mem_drop hc)
theorem pr_rep {l : List Nat} (n : Nat) (a : Pr l) : Pr (List.replicate n l).flatten := fun c hc => by
  obtain ⟨m, hm, hc⟩ := List.mem_flatten.mp hc
  rw [(List.mem_replicate.mp hm).2] at hc
  exact a c hc
theorem pr_flat {ls : List (List Nat)} (a : ∀ l ∈ ls, Pr l) : Pr ls.flatten := fun c hc => by
  obtain ⟨m, hm, hc⟩ := List.mem_flatten.mp hc
  exact a m hm c hc
theorem pr_of {l : List Nat} (h : (l.all fun c => decide (32 ≤ c) && decide (c ≤ 126)) = true) : Pr l := fun c hc => by
  have q := (List.all_eq_true.mp h) c hc
  simpa using q
theorem printable_all : ∀ c : _root_.Fin 127, 32 ≤ c.val → Unicode.isPrintable c.val = true := by decide +kernel
theorem isascii_S {l : List Nat} (h : Pr l) : Txt.isascii (S l) = true := by
  show (l.toArray.all fun c => decide (c < 128)) = true
  rw [← Array.all_toList, List.all_eq_true]
  intro c hc
  have := h c (by simpa using hc)
  exact decide_eq_true (by omega)
theorem isprintable_S {l : List Nat} (h : Pr l) : Txt.isprintable (S l) = true := by
  show (l.toArray.all Unicode.isPrintable) = true
  rw [← Array.all_toList, List.all_eq_true]
  intro c hc
  have q := h c (by simpa using hc)
  exact printable_all ⟨c, by omega⟩ q.1
theorem S_lit {s : Str} {l : List Nat} (h : s.cps.toList = l) : s = S l := by
  rw [← h]
theorem length_S (l : List Nat) : (S l).length = l.length := S_len l
theorem cps_S (l : List Nat) : (S l).cps.toList = l := by simp [S]
theorem cut_S (l : List Nat) (lo hi : Option Int) : cutS (S l) lo hi = S ((l.drop (HT.sIx l.length 0 lo)).take (HT.sIx l.length l.length hi - HT.sIx l.length 0 lo)) := by
  unfold cutS
  rw [length_S]
theorem sIx_pos {n d : Nat} {i : Int} (h : 0 ≤ i) : HT.sIx n d (some i) = min i.toNat n := by
  show (if i < 0 then (i + (n : Int)).toNat else min i.toNat n) = min i.toNat n
  rw [if_neg (by omega)]
/-- l[a:b] for counts -/
theorem cut_nn {l : List Nat} {a b : Nat} : cutS (S l) (some (a : Int)) (some (b : Int)) = S ((l.drop a).take (b - a)) := by
  rw [cut_S, sIx_pos (by omega), sIx_pos (by omega), Int.toNat_natCast, Int.toNat_natCast]
  congr 1
  rcases Nat.le_total a l.length with h | h
  · rw [Nat.min_eq_left h]
    rcases Nat.le_total b l.length with h2 | h2
    · rw [Nat.min_eq_left h2]
    · rw [Nat.min_eq_right h2, List.take_of_length_le (by rw [List.length_drop]; omega), List.take_of_length_le (by rw [List.length_drop]; omega)]
  · rw [Nat.min_eq_right h, List.drop_of_length_le (Nat.le_refl _), List.drop_of_length_le h]
    simp
theorem cut_n {l : List Nat} {b : Nat} : cutS (S l) none (some (b : Int)) = S (l.take b) := by
  rw [cut_S, sIx_pos (by omega), Int.toNat_natCast]
  show S ((l.drop 0).take (min b l.length - 0)) = S (l.take b)
  rw [List.drop_zero, Nat.sub_zero]
  rcases Nat.le_total b l.length with h | h
  · rw [Nat.min_eq_left h]
  · rw [Nat.min_eq_right h, List.take_of_length_le (Nat.le_refl _), List.take_of_length_le h]
theorem cut_from {l : List Nat} {a : Nat} : cutS (S l) (some (a : Int)) none = S (l.drop a) := by
  rw [cut_S, sIx_pos (by omega), Int.toNat_natCast]
  show S ((l.drop (min a l.length)).take (l.length - min a l.length)) = S (l.drop a)
  rcases Nat.le_total a l.length with h | h
  · rw [Nat.min_eq_left h, List.take_of_length_le (by rw [List.length_drop]; omega)]
  · rw [Nat.min_eq_right h, List.drop_of_length_le (Nat.le_refl _), List.drop_of_length_le h]
    simp
theorem rep_S (l : List Nat) (n : Int) : rep (S l) n = S (List.replicate n.toNat l).flatten := by
  unfold rep
  rw [cps_S]
theorem rep_one (c : Nat) (n : Nat) : (List.replicate n [c]).flatten = List.replicate n c := by
  induction n with
  | zero => rfl
  | succ n ih => rw [List.replicate_succ, List.flatten_cons, ih]; rfl
theorem joinL_nil (ls : List (List Nat)) : TL.joinL [] ls = ls.flatten := by
  induction ls with
  | nil => rfl
  | cons a r ih =>
    cases r with
    | nil => simp [TL.joinL]
    | cons b r => rw [TL.joinL, ih]; simp
theorem join_flat {e : Str} (he : e = S []) (ls : List (List Nat)) : Txt.join e (ls.map S) = S ls.flatten := by
  rw [he, join_S, joinL_nil]

/-! ### frames -/
def frL (l : List Nat) : List Nat := List.replicate (5 - (TL.numL l.length).length) 48 ++ TL.numL l.length ++ [58] ++ l ++ [59]
theorem numL5 {n : Nat} (h : n < 100000) : (TL.numL n).length ≤ 5 ∧ 1 ≤ (TL.numL n).length := by
  refine ⟨TL.numL_len (by decide) (by simpa using h), ?_⟩
  rcases Nat.eq_zero_or_pos (TL.numL n).length with e | e
  · exact absurd (List.length_eq_zero_iff.mp e) (TL.numL_ne n)
  · exact e
theorem frL_len {l : List Nat} (h : l.length < 100000) : (frL l).length = l.length + 7 := by
  obtain ⟨h1, h2⟩ := numL5 h
  unfold frL
  simp only [List.length_append, List.length_replicate, List.length_singleton]
  omega
theorem numL_pr (n : Nat) : Pr (TL.numL n) := fun c hc => by
  have := TL.numL_digits n c hc
  omega
theorem frL_pr {l : List Nat} (h : Pr l) : Pr (frL l) := by
  unfold frL
  refine pr_app (pr_app (pr_app (pr_app (fun c hc => ?_) (numL_pr _)) (pr_of (by decide))) h) (pr_of (by decide))
  rw [(List.mem_replicate.mp hc).2]
  omega
/-- str(n).zfill(5) -/
theorem zfill_S {n : Nat} (h : n < 100000) : Txt.zfill (S (TL.numL n)) 5 = S (List.replicate (5 - (TL.numL n).length) 48 ++ TL.numL n) := by
  obtain ⟨h1, h2⟩ := numL5 h
  unfold Txt.zfill
  rw [length_S]
  by_cases h5 : (TL.numL n).length = 5
  · rw [if_pos (by omega), h5]
    rfl
  · rw [if_neg (by omega)]
    have e : (5 : Int).toNat - (TL.numL n).length = 5 - (TL.numL n).length := rfl
    rw [e]
    obtain ⟨c, r, hc⟩ : ∃ c r, TL.numL n = c :: r := by
      cases q : TL.numL n with
      | nil => exact absurd q (TL.numL_ne n)
      | cons c r => exact ⟨c, r, rfl⟩
    have hd := TL.numL_digits n c (by rw [hc]; exact List.mem_cons_self)
    unfold zfilled
    have e0 : (S (TL.numL n)).cps[0]? = some c := by
      rw [hc]
      simp [S]
    rw [e0]
    have pad : Builtin.Str.padded (S (TL.numL n)) (5 - (TL.numL n).length) 0 48 = S (List.replicate (5 - (TL.numL n).length) 48 ++ TL.numL n) := by
      unfold Builtin.Str.padded
      simp [S]
    split
    · rename_i q; cases q; omega
    · rename_i q; cases q; omega
    · exact pad

/-! ### reading frames -/
def digs (l : List Nat) : Bool := l.all fun c => decide (48 ≤ c) && decide (c ≤ 57)
/-- the number of a head -/
def headN (h : List Nat) : Option Nat := if h.length < 6 ∨ h[5]? ≠ some 58 ∨ digs (h.take 5) = false then none else some (digitsVal (h.take 5))
/-- the end of the frame that begins at i -/
def fEnd (l : List Nat) (i : Nat) : Option Nat := match headN ((l.drop i).take 6) with
  | none => none
  | some n => if n ≤ 80000 ∧ (l.drop (i + 6 + n)).take 1 = [59] then some (i + 6 + n + 1) else none
theorem take1 {l : List Nat} {i c : Nat} (h : (l.drop i).take 1 = [c]) : i < l.length ∧ l[i]? = some c := by
  have hl : i < l.length := by
    rcases Nat.lt_or_ge i l.length with q | q
    · exact q
    · rw [List.drop_of_length_le q] at h
      cases h
  rw [List.drop_eq_getElem_cons hl] at h
  have h2 : [l[i]] = [c] := h
  refine ⟨hl, ?_⟩
  rw [List.getElem?_eq_getElem hl]
  cases h2
  rfl
theorem fEnd_bounds {l : List Nat} {i e : Nat} (h : fEnd l i = some e) : i + 7 ≤ e ∧ e ≤ l.length := by
  unfold fEnd at h
  split at h
  · cases h
  · split at h
    · rename_i q
      cases h
      obtain ⟨h1, _⟩ := take1 q.2
      omega
    · cases h
def scan : Nat → List Nat → Nat → List (List Nat) × Nat
  | 0, _, i => ([], i)
  | f + 1, l, i => match fEnd l i with
    | none => ([], i)
    | some e => ((l.drop (i + 6)).take (e - 1 - (i + 6)) :: (scan f l e).1, (scan f l e).2)
theorem scan_stable : ∀ (f f' : Nat) (l : List Nat) (i : Nat), l.length + 1 ≤ i + f → l.length + 1 ≤ i + f' → scan f l i = scan f' l i
  | 0, 0, _, _, _, _ => rfl
  | 0, f' + 1, l, i, h, _ => by
    unfold scan
    cases q : fEnd l i with
    | none => rfl
    | some e => have := fEnd_bounds q; omega
  | f + 1, 0, l, i, _, h => by
    unfold scan
    cases q : fEnd l i with
    | none => rfl
    | some e => have := fEnd_bounds q; omega
  | f + 1, f' + 1, l, i, h, h' => by
    unfold scan
    cases q : fEnd l i with
    | none => rfl
    | some e =>
      have := fEnd_bounds q
      simp only
      rw [scan_stable f f' l e (by omega) (by omega)]
/-- the frames from i on -/
def sc (l : List Nat) (i : Nat) : List (List Nat) × Nat := scan (l.length + 1) l i
theorem sc_none {l : List Nat} {i : Nat} (h : fEnd l i = none) : sc l i = ([], i) := by
  unfold sc scan
  rw [h]
theorem sc_some {l : List Nat} {i e : Nat} (h : fEnd l i = some e) : sc l i = ((l.drop (i + 6)).take (e - 1 - (i + 6)) :: (sc l e).1, (sc l e).2) := by
  have b := fEnd_bounds h
  have e1 : scan l.length l e = scan (l.length + 1) l e := scan_stable _ _ _ _ (by omega) (by omega)
  show scan (l.length + 1) l i = _
  rw [scan, h]
  simp only
  rw [e1]
  rfl
theorem sc_le : ∀ (f : Nat) (l : List Nat) (i : Nat), i ≤ l.length → i ≤ (scan f l i).2 ∧ (scan f l i).2 ≤ l.length ∧ (scan f l i).1.length * 7 + i ≤ (scan f l i).2
  | 0, l, i, h => ⟨Nat.le_refl _, h, by simp [scan]⟩
  | f + 1, l, i, h => by
    unfold scan
    cases q : fEnd l i with
    | none => exact ⟨Nat.le_refl _, h, by simp⟩
    | some e =>
      have b := fEnd_bounds q
      have r := sc_le f l e b.2
      refine ⟨by simp only; omega, r.2.1, ?_⟩
      simp only [List.length_cons]
      omega
theorem sc_bounds {l : List Nat} {i : Nat} (h : i ≤ l.length) : i ≤ (sc l i).2 ∧ (sc l i).2 ≤ l.length ∧ (sc l i).1.length * 7 + i ≤ (sc l i).2 := sc_le _ l i h
theorem digitsVal_lt : ∀ (l : List Nat), digs l = true → digitsVal l < 10 ^ l.length := by
  intro l
  have gen : ∀ (l : List Nat) (a k : Nat), digs l = true → a < 10 ^ k → l.foldl (fun acc c => acc * 10 + (c - 48)) a < 10 ^ (k + l.length) := by
    intro l
    induction l with
    | nil => intro a k _ h; exact h
    | cons c r ih =>
      intro a k hd h
      have hd' : (decide (48 ≤ c) && decide (c ≤ 57) && digs r) = true := hd
      simp only [Bool.and_eq_true, decide_eq_true_eq] at hd'
      rw [List.foldl_cons, List.length_cons]
      have q := ih (a * 10 + (c - 48)) (k + 1) hd'.2 (by rw [Nat.pow_succ]; omega)
      rw [show k + (r.length + 1) = k + 1 + r.length by omega]
      exact q
  intro h
  have q := gen l 0 0 h (by decide)
  simpa [digitsVal] using q
theorem intText_head {h : List Nat} (h5 : h.length = 5) (hd : digs h = true) : intText? (S h) = some ((digitsVal h : Nat) : Int) := int_S hd (fun e => by rw [e] at h5; cases h5) (by omega)

/-! ### texts as data -/
def strsV (ls : List (List Nat)) : List V := (ls.map S).map V.str
theorem strsV_len (ls : List (List Nat)) : (strsV ls).length = ls.length := by simp [strsV]
theorem strsV_app (ls : List (List Nat)) (l : List Nat) : strsV (ls ++ [l]) = strsV ls ++ [.str (S l)] := by simp [strsV]
theorem strsV_at {ls : List (List Nat)} {i : Nat} {x : V} (h : (strsV ls)[i]? = some x) : ∃ l, ls[i]? = some l ∧ x = .str (S l) ∧ l ∈ ls := by
  unfold strsV at h
  rw [List.getElem?_map, List.getElem?_map] at h
  cases e : ls[i]? with
  | none => rw [e] at h; cases h
  | some l =>
    rw [e] at h
    exact ⟨l, rfl, (Option.some.inj h).symm, List.mem_of_getElem? e⟩
def strsD (ls : List (List Nat)) : PyData := .list (ls.map fun l => .str (S l))
theorem dpAll_strs {K : PySem.W.Frag} {H : Hp} : ∀ ls : List (List Nat), DpAll K H (strsV ls) (ls.map fun l => .str (S l))
  | [] => .nil
  | l :: r => .cons (.str (S l)) (dpAll_strs r)
theorem dp_strs {K : PySem.W.Frag} {H : Hp} {a : Addr} {ls : List (List Nat)} (h : SqL K H a (strsV ls)) : Dp K H (.ref a) (strsD ls) := .lst h (dpAll_strs ls)
theorem strOk_S {l : List Nat} (h : Pr l) : PyData.strOk (S l) = true := by
  show (l.toArray.all fun c => decide (c < 0x110000)) = true
  rw [← Array.all_toList, List.all_eq_true]
  intro c hc
  have := h c (by simpa using hc)
  exact decide_eq_true (by omega)
theorem lay_strs : ∀ {ls : List (List Nat)}, (∀ l ∈ ls, Pr l) → PyData.canLayAll0 (ls.map fun l => .str (S l)) = true
  | [], _ => rfl
  | l :: r, h => by
    show (PyData.strOk (S l) && PyData.canLayAll0 (r.map fun l => .str (S l))) = true
    rw [strOk_S (h l List.mem_cons_self), lay_strs fun l hl => h l (List.mem_cons_of_mem _ hl)]
    rfl
theorem depth_strs : ∀ ls : List (List Nat), PyData.depthAll (ls.map fun l => .str (S l)) = 0
  | [] => rfl
  | l :: r => by
    show max 0 (PyData.depthAll (r.map fun l => .str (S l))) = 0
    rw [depth_strs r]
    rfl
theorem shaped_strs {ls : List (List Nat)} (h : ∀ l ∈ ls, Pr l) : SeqAt.shaped (strsD ls) = true := by
  show (PyData.canLayAll0 _ && decide (PyData.depthAll (ls.map fun l => .str (S l)) + 1 ≤ 64)) = true
  rw [lay_strs h, depth_strs]
  rfl
theorem shaped_pair {d : PyData} {i : Int} (h : SeqAt.shaped d = true) (hd : d.depth ≤ 10) : SeqAt.shaped (.tuple [d, .int i]) = true := by
  have h1 : (d.canLay0 && decide (d.depth ≤ 64)) = true := h
  rw [Bool.and_eq_true] at h1
  show ((d.canLay0 && true) && decide (max d.depth (max 0 0) + 1 ≤ 64)) = true
  rw [h1.1]
  simp
  omega
theorem depth_strsD (ls : List (List Nat)) : (strsD ls).depth = 1 := by
  show PyData.depthAll (ls.map fun l => .str (S l)) + 1 = 1
  rw [depth_strs]
theorem sc_pr {l : List Nat} (h : Pr l) : ∀ (f i : Nat), ∀ m ∈ (scan f l i).1, Pr m
  | 0, _, m, hm => by cases hm
  | f + 1, i, m, hm => by
    unfold scan at hm
    cases q : fEnd l i with
    | none => rw [q] at hm; cases hm
    | some e =>
      rw [q] at hm
      rcases List.mem_cons.mp hm with rfl | hm
      · exact pr_take _ (pr_drop _ h)
      · exact sc_pr h f e m hm
theorem eqv_self {d : PyData} (h : SeqAt.shaped d = true) : PyData.eqv d d = true := SeqAt.eqv_refl d (SeqAt.canLay_of_shaped h)
theorem eqv_nil (ds : List PyData) : PyData.eqv (.list ds) (.list []) = ds.isEmpty := by
  rw [PyData.eqv]
  cases ds <;> rfl
def isdig (c : Nat) : Bool := decide (48 ≤ c) && decide (c ≤ 57)
theorem digits_list : ("0123456789" : Str).cps.toList = [48, 49, 50, 51, 52, 53, 54, 55, 56, 57] := by decide +kernel
theorem dig_in (c : Nat) : decide (c ∈ ("0123456789" : Str).cps.toList) = isdig c := by
  rw [digits_list]
  unfold isdig
  rw [Bool.eq_iff_iff]
  simp only [decide_eq_true_eq, Bool.and_eq_true, List.mem_cons, List.not_mem_nil, or_false]
  omega
theorem digs_all (l : List Nat) : digs l = (l.map isdig).all id := by
  unfold digs
  rw [List.all_map]
  rfl
theorem signs_strs (cs : List Nat) : cs.map signV = strsV (cs.map fun c => [c]) := by
  unfold strsV
  rw [List.map_map, List.map_map]
  rfl
theorem pr_one {c : Nat} (h : 32 ≤ c ∧ c ≤ 126) : Pr [c] := pr_cons h pr_nil
theorem digs_filter : ∀ l : List Nat, digs l = (l.filter fun c => !isdig c).isEmpty
  | [] => rfl
  | c :: r => by
    show (isdig c && digs r) = _
    rw [digs_filter r, List.filter_cons]
    cases isdig c <;> rfl
end M9

/-! M3: items and tokens judged as data. -/
namespace M3
open PySem PySem.Spec PyProof.Rows L2 Z SX M9

def asciiS (x : Str) : Bool := x.cps.toList.all fun c => decide (c < 128)
/-- a text of ASCII signs, or no text; a tuple of such -/
def asc1 : PyData → Bool
  | .str x => asciiS x && decide (x.length ≤ 100000)
  | _ => true
def asc : PyData → Bool
  | .str x => asc1 (.str x)
  | .tuple ds => ds.all asc1
  | _ => true
def intD : PyData → Bool
  | .int _ => true
  | _ => false
def within (d : PyData) (a b : Int) : Bool := match d with
  | .int i => decide (a ≤ i) && decide (i ≤ b)
  | _ => false
def prS (x : Str) : Bool := x.cps.toList.all fun c => decide (32 ≤ c) && decide (c ≤ 126)
def lowS (x : Str) : Bool := x.cps.toList.all fun c => decide (97 ≤ c) && decide (c ≤ 122)
def signsD : PyData → Bool
  | .str x => prS x
  | _ => false
def plainD (n : Nat) : PyData → Bool
  | .str x => prS x && decide (x.length ≤ n)
  | _ => false
def nameD : PyData → Bool
  | .str x => decide (1 ≤ x.length) && decide (x.length ≤ 8) && lowS x
  | _ => false
def tokenD : PyData → Bool
  | .tuple [a, b] => within a 1 999999999999 && within b 1 999999999999
  | _ => false
def itemD : PyData → Bool
  | .tuple [a, b, c, d, e, f] => nameD a && nameD b && plainD 40 c && within d 0 3 && within e 0 50 && within f 0 50
  | _ => false
def kindD : PyData → String
  | .none => "NoneType"
  | .bool _ => "bool"
  | .int _ => "int"
  | .str _ => "str"
  | .list _ => "list"
  | .tuple _ => "tuple"
  | .dict _ => "dict"
theorem Dz.kind {g : Bool} {K : PySem.W.Frag} {H : Hp} {v : V} {d : PyData} (h : Dz g H v d) : KindV K H v (kindD d) := by
  cases h with
  | non => rfl
  | bl b => rfl
  | int i => rfl
  | str x => rfl
  | lst h _ _ => exact .inl ⟨rfl, _, SqL.of h⟩
  | tup h _ => exact .inr (.inl ⟨rfl, _, SqT.of h⟩)
  | dic h _ => exact .inr (.inr ⟨rfl, .inl ⟨_, h⟩⟩)
theorem print_ascii : ∀ c : _root_.Fin 128, Unicode.isPrintable c.val = (decide (32 ≤ c.val) && decide (c.val ≤ 126)) := by decide +kernel
theorem alpha_ascii : ∀ c : _root_.Fin 128, Unicode.isAlpha c.val = ((decide (65 ≤ c.val) && decide (c.val ≤ 90)) || (decide (97 ≤ c.val) && decide (c.val ≤ 122))) := by decide +kernel
theorem lower_ascii : ∀ c : _root_.Fin 128, Unicode.isLower c.val = (decide (97 ≤ c.val) && decide (c.val ≤ 122)) := by decide +kernel
theorem upper_ascii : ∀ c : _root_.Fin 128, (Unicode.isUpper c.val || Unicode.isTitle c.val) = (decide (65 ≤ c.val) && decide (c.val ≤ 90)) := by decide +kernel
theorem all_eq {p q : Nat → Bool} : ∀ {l : List Nat}, (∀ c ∈ l, p c = q c) → l.all p = l.all q
  | [], _ => rfl
  | a :: r, h => by
    rw [List.all_cons, List.all_cons, h a List.mem_cons_self, all_eq fun c hc => h c (List.mem_cons_of_mem _ hc)]
theorem any_eq {p q : Nat → Bool} : ∀ {l : List Nat}, (∀ c ∈ l, p c = q c) → l.any p = l.any q
  | [], _ => rfl
  | a :: r, h => by
    rw [List.any_cons, List.any_cons, h a List.mem_cons_self, any_eq fun c hc => h c (List.mem_cons_of_mem _ hc)]
theorem lt_of_ascii {x : Str} (h : asciiS x = true) {c : Nat} (hc : c ∈ x.cps.toList) : c < 128 := by
  simpa using (List.all_eq_true.mp h) c hc
theorem isascii_D {x : Str} (h : asciiS x = true) : Txt.isascii x = true := by
  show (x.cps.all fun c => decide (c < 128)) = true
  rw [← Array.all_toList]
  exact h
theorem isprintable_D {x : Str} (h : asciiS x = true) : Txt.isprintable x = prS x := by
  show (x.cps.all Unicode.isPrintable) = _
  rw [← Array.all_toList]
  exact all_eq fun c hc => print_ascii ⟨c, lt_of_ascii h hc⟩
theorem isalpha_D {x : Str} (h : asciiS x = true) : Txt.isalpha x = (decide (x.length > 0) && x.cps.toList.all fun c => (decide (65 ≤ c) && decide (c ≤ 90)) || (decide (97 ≤ c) && decide (c ≤ 122))) := by
  show (decide (x.length > 0) && x.cps.all Unicode.isAlpha) = _
  rw [← Array.all_toList]
  congr 1
  exact all_eq fun c hc => alpha_ascii ⟨c, lt_of_ascii h hc⟩
theorem islower_D {x : Str} (h : asciiS x = true) : Txt.islower x = ((x.cps.toList.any fun c => decide (97 ≤ c) && decide (c ≤ 122)) && !(x.cps.toList.any fun c => decide (65 ≤ c) && decide (c ≤ 90))) := by
  show (x.cps.any Unicode.isLower && !x.cps.any fun c => Unicode.isUpper c || Unicode.isTitle c) = _
  rw [← Array.any_toList, ← Array.any_toList]
  congr 1
  · exact any_eq fun c hc => lower_ascii ⟨c, lt_of_ascii h hc⟩
  · congr 1
    exact any_eq fun c hc => upper_ascii ⟨c, lt_of_ascii h hc⟩
/-- the program's test of a name is the law's -/
theorem name_law {x : Str} (h : asciiS x = true) : (prS x && (decide (x.length ≤ 8) && (Txt.isalpha x && Txt.islower x))) = nameD (.str x) := by
  have hl : x.length = x.cps.toList.length := by rw [Array.length_toList]; rfl
  rw [isalpha_D h, islower_D h]
  unfold nameD
  rw [Bool.eq_iff_iff]
  constructor
  · intro e
    simp only [Bool.and_eq_true, decide_eq_true_eq, List.all_eq_true, Bool.or_eq_true, List.any_eq_true, Bool.not_eq_true', List.any_eq_false, lowS, prS] at e ⊢
    obtain ⟨_, h8, ⟨h1, ha⟩, _, hu⟩ := e
    refine ⟨⟨h1, h8⟩, fun c hc => ?_⟩
    rcases ha c hc with z | z
    · exact absurd z (hu c hc)
    · exact z
  · intro e
    simp only [Bool.and_eq_true, decide_eq_true_eq, List.all_eq_true, Bool.or_eq_true, List.any_eq_true, Bool.not_eq_true', List.any_eq_false, lowS, prS] at e ⊢
    obtain ⟨⟨h1, h8⟩, ha⟩ := e
    refine ⟨fun c hc => by have := ha c hc; omega, h8, ⟨h1, fun c hc => .inr (ha c hc)⟩, ?_, fun c hc => by have := ha c hc; omega⟩
    cases e : x.cps.toList with
    | nil => rw [hl, e] at h1; exact absurd h1 (by decide)
    | cons c r => exact ⟨c, List.mem_cons_self, ha c (by rw [e]; exact List.mem_cons_self)⟩
/-- what a filtered text leaves is nothing, if all its signs are good -/
theorem filter_none {p : Nat → Bool} (l : List Nat) : (l.filter fun c => !p c).isEmpty = l.all p := by
  induction l with
  | nil => rfl
  | cons a r ih =>
    rw [List.filter_cons, List.all_cons]
    cases e : p a with
    | true => simpa using ih
    | false => rfl
theorem letters_list : ("abcdefghijklmnopqrstuvwxyz" : Str).cps.toList = [97, 98, 99, 100, 101, 102, 103, 104, 105, 106, 107, 108, 109, 110, 111, 112, 113, 114, 115, 116, 117, 118, 119, 120, 121, 122] := by decide +kernel
def low (c : Nat) : Bool := decide (97 ≤ c) && decide (c ≤ 122)
def prt (c : Nat) : Bool := decide (32 ≤ c) && decide (c ≤ 126)
theorem low_in (c : Nat) : decide (c ∈ ("abcdefghijklmnopqrstuvwxyz" : Str).cps.toList) = low c := by
  rw [letters_list]
  unfold low
  rw [Bool.eq_iff_iff]
  simp only [decide_eq_true_eq, Bool.and_eq_true, List.mem_cons, List.not_mem_nil, or_false]
  omega
theorem one_lt {a b : Nat} : ([a] : List Nat) < [b] ↔ a < b := by
  rw [List.cons_lt_cons_iff]
  constructor
  · rintro (h | ⟨_, h⟩)
    · exact h
    · exact absurd h (by simp)
  · exact .inl
theorem lt_sp {c : Nat} : (⟨#[c]⟩ : Str).cps.toList < (" " : Str).cps.toList ↔ c < 32 := by
  rw [show (" " : Str).cps.toList = [32] by decide +kernel, show (⟨#[c]⟩ : Str).cps.toList = [c] from rfl]
  exact one_lt
theorem gt_tl {c : Nat} : ("~" : Str).cps.toList < (⟨#[c]⟩ : Str).cps.toList ↔ 126 < c := by
  rw [show ("~" : Str).cps.toList = [126] by decide +kernel, show (⟨#[c]⟩ : Str).cps.toList = [c] from rfl]
  exact one_lt
def signsD2 (l : List Nat) : PyData := .list (l.map fun c => .str (S [c]))
theorem signs_none {x : Str} {p : Nat → Bool} : (x.cps.toList.filter fun c => !p c).isEmpty = x.cps.toList.all p := filter_none _
theorem shaped_asc {cs : List Nat} (h : ∀ c ∈ cs, c < 128) : SeqAt.shaped (strsD (cs.map fun c => [c])) = true := by
  have lay : ∀ cs : List Nat, (∀ c ∈ cs, c < 128) → PyData.canLayAll0 ((cs.map fun c => [c]).map fun l => .str (S l)) = true := by
    intro cs
    induction cs with
    | nil => intro _; rfl
    | cons c r ih =>
      intro h
      have hc := h c List.mem_cons_self
      show (PyData.strOk (S [c]) && PyData.canLayAll0 ((r.map fun c => [c]).map fun l => .str (S l))) = true
      rw [ih fun x hx => h x (List.mem_cons_of_mem _ hx), Bool.and_true]
      show ([c].toArray.all fun c => decide (c < 0x110000)) = true
      rw [← Array.all_toList, List.all_eq_true]
      intro x hx
      have : x = c := by simpa using hx
      rw [this]
      exact decide_eq_true (by omega)
  show (PyData.canLayAll0 _ && decide (PyData.depthAll ((cs.map fun c => [c]).map fun l => .str (S l)) + 1 ≤ 64)) = true
  rw [lay cs h, depth_strs]
  rfl
theorem eqv_strs_nil (cs : List Nat) : PyData.eqv (strsD (cs.map fun c => [c])) (strsD []) = cs.isEmpty := by
  unfold strsD
  rw [List.map_nil, eqv_nil]
  cases cs <;> rfl
theorem filter_step {l : List Nat} {p : Nat → Bool} {i c : Nat} (hc : l[i]? = some c) : (l.take (i + 1)).filter (fun c => !p c) = (l.take i).filter (fun c => !p c) ++ (if p c then [] else [c]) := by
  rw [List.take_add_one, hc, List.filter_append]
  cases e : p c <;> simp [e]
/-! ### how long what is shown is -/
theorem piled_shown : ∀ ds : List PyData, piled (PyData.shownAll ds) = (ds.map fun d => d.shown.length + 2).sum
  | [] => rfl
  | d :: r => by
    rw [PyData.shownAll, piled_cons, piled_shown r, List.map_cons, List.sum_cons]
theorem len_tuple (ds : List PyData) : (PyData.tuple ds).shown.length ≤ 4 + (ds.map fun d => d.shown.length + 2).sum := by
  have e : (PyData.tuple ds).shown = tupleText (PyData.shownAll ds) := by rw [PyData.shown]
  rw [e, ← piled_shown]
  unfold tupleText
  rw [strLen_append, strLen_append]
  have h2 : (Str.ofString (if (PyData.shownAll ds).length == 1 then ",)" else ")")).length ≤ 2 := by split <;> decide
  have h1 : ("(" : Str).length = 1 := rfl
  by_cases hn : PyData.shownAll ds = []
  · rw [hn]
    decide
  · have := join_length_add _ hn
    omega
theorem len_from : ∀ (ts : List Str) (k : Nat) (acc : Str), (textFrom k acc ts).length ≤ acc.length + piled ts
  | [], k, acc => Nat.le_add_right _ _
  | t :: r, k, acc => by
    have ih := len_from r (k + 1) (acc ++ (if k > 0 then ", " else "" : String) ++ t)
    have e : (acc ++ (if k > 0 then ", " else "" : String) ++ t).length = acc.length + (if k > 0 then 2 else 0) + t.length := by
      rw [strLen_append, strLen_append]
      split <;> rfl
    rw [piled_cons]
    show (textFrom (k + 1) (acc ++ (if k > 0 then ", " else "" : String) ++ t) r).length ≤ _
    rw [e] at ih
    have hb : (if k > 0 then 2 else 0) ≤ 2 := by split <;> omega
    omega
theorem len_list (ds : List PyData) : (PyData.list ds).shown.length ≤ 4 + (ds.map fun d => d.shown.length + 2).sum := by
  have e : (PyData.list ds).shown = listText (PyData.shownAll ds) := by rw [PyData.shown]
  rw [e, ← piled_shown]
  unfold listText
  rw [strLen_append]
  have := len_from (PyData.shownAll ds) 0 "["
  have h1 : ("[" : Str).length = 1 := rfl
  have h2 : ("]" : Str).length = 1 := rfl
  omega
mutual
/-- no list in it is as long as a box -/
def nobox : PyData → Bool
  | .none | .bool _ | .int _ | .str _ => true
  | .list ds => (ds.length != 4) && noboxAll ds
  | .tuple ds => noboxAll ds
  | .dict kvs => noboxKv kvs
def noboxAll : List PyData → Bool
  | [] => true
  | d :: r => nobox d && noboxAll r
def noboxKv : List (PyData × PyData) → Bool
  | [] => true
  | (_, d) :: r => nobox d && noboxKv r
end
theorem DzAll.len {g : Bool} {H : Hp} : ∀ {xs : List V} {ds : List PyData}, DzAll g H xs ds → xs.length = ds.length
  | _, _, .nil => rfl
  | _, _, .cons _ t => by rw [List.length_cons, List.length_cons, DzAll.len t]
theorem DzAll.take {g : Bool} {H : Hp} : ∀ {xs : List V} {ds : List PyData} (n : Nat), DzAll g H xs ds → DzAll g H (xs.take n) (ds.take n)
  | _, _, 0, _ => by rw [List.take_zero, List.take_zero]; exact .nil
  | _, _, n + 1, .nil => .nil
  | _, _, n + 1, .cons h t => .cons h (DzAll.take n t)
theorem DzAll.drop {g : Bool} {H : Hp} : ∀ {xs : List V} {ds : List PyData} (n : Nat), DzAll g H xs ds → DzAll g H (xs.drop n) (ds.drop n)
  | _, _, 0, h => h
  | _, _, n + 1, .nil => .nil
  | _, _, n + 1, .cons h t => DzAll.drop n t
theorem DzAll.app {g : Bool} {H : Hp} : ∀ {xs ys : List V} {ds es : List PyData}, DzAll g H xs ds → DzAll g H ys es → DzAll g H (xs ++ ys) (ds ++ es)
  | _, _, _, _, .nil, h => h
  | _, _, _, _, .cons h t, h2 => .cons h (DzAll.app t h2)
theorem not4 {ds : List PyData} (h : (ds.length != 4) = true) : ds.length ≠ 4 := by simpa using h
mutual
/-- b is a list of four: what has none is kept where all but b is kept -/
theorem Dz.but {g : Bool} {H H2 : Hp} {b : Addr} {bs : List V} (hb : H b = some (.lst bs)) (h4 : bs.length = 4) (t : But b H H2) : ∀ {v : V} {d : PyData}, Dz g H v d → nobox d = true → Dz g H2 v d
  | _, _, .non, _ => .non
  | _, _, .bl b, _ => .bl b
  | _, _, .int i, _ => .int i
  | _, _, .str x, _ => .str x
  | _, _, .lst (ds := ds) h n a, k => by
    have k : ((ds.length != 4) && noboxAll ds) = true := k
    rw [Bool.and_eq_true] at k
    refine .lst (t _ _ (fun z => ?_) h) n (DzAll.but hb h4 t a k.2)
    rw [z, hb] at h
    have := DzAll.len a
    cases h
    exact not4 k.1 (by omega)
  | _, _, .tup h a, k => .tup (t _ _ (fun z => by rw [z, hb] at h; cases h) h) (DzAll.but hb h4 t a k)
  | _, _, .dic h a, k => .dic (t _ _ (fun z => by rw [z, hb] at h; cases h) h) (DzKv.but hb h4 t a k)
theorem DzAll.but {g : Bool} {H H2 : Hp} {b : Addr} {bs : List V} (hb : H b = some (.lst bs)) (h4 : bs.length = 4) (t : But b H H2) : ∀ {vs : List V} {ds : List PyData}, DzAll g H vs ds → noboxAll ds = true → DzAll g H2 vs ds
  | _, _, .nil, _ => .nil
  | _, _, .cons h r, k => by
    have k := Bool.and_eq_true _ _ ▸ k
    exact .cons (Dz.but hb h4 t h k.1) (DzAll.but hb h4 t r k.2)
theorem DzKv.but {g : Bool} {H H2 : Hp} {b : Addr} {bs : List V} (hb : H b = some (.lst bs)) (h4 : bs.length = 4) (t : But b H H2) : ∀ {kvs : List (Key × V)} {D : List (PyData × PyData)}, DzKv g H kvs D → noboxKv D = true → DzKv g H2 kvs D
  | _, _, .nil, _ => .nil
  | _, _, .cons h r, k => by
    have k := Bool.and_eq_true _ _ ▸ k
    exact .cons (Dz.but hb h4 t h k.1) (DzKv.but hb h4 t r k.2)
end
def oddOk (d : PyData) : Bool := asc1 d && d.showable && decide (d.depth ≤ 3) && decide (d.shown.length ≤ 2000) && nobox d
theorem oddOk_of {d : PyData} (h : oddOk d = true) : asc1 d = true ∧ d.showable = true ∧ d.depth ≤ 3 ∧ d.shown.length ≤ 2000 := by
  unfold oddOk at h
  simp only [Bool.and_eq_true, decide_eq_true_eq] at h
  exact ⟨h.1.1.1.1, h.1.1.1.2, h.1.1.2, h.1.2⟩
theorem odd_nobox {d : PyData} (h : oddOk d = true) : nobox d = true := by
  unfold oddOk at h
  rw [Bool.and_eq_true] at h
  exact h.2
theorem odd_noboxAll : ∀ {ds : List PyData}, (∀ d ∈ ds, oddOk d = true) → noboxAll ds = true
  | [], _ => rfl
  | d :: r, h => by
    show (nobox d && noboxAll r) = true
    rw [odd_nobox (h d List.mem_cons_self), odd_noboxAll fun x hx => h x (List.mem_cons_of_mem _ hx)]
    rfl
/-- a tuple of good parts -/
def Tv (H : Hp) (p : Addr) (xs : List V) (ds : List PyData) : Prop := H p = some (.tup xs) ∧ DzAll true H xs ds ∧ ∀ d ∈ ds, oddOk d = true
theorem Tv.same {H H2 : Hp} {p : Addr} {xs : List V} {ds : List PyData} (h : Tv H p xs ds) (s : Same H H2) : Tv H2 p xs ds := ⟨s _ _ h.1, DzAll.same s h.2.1, h.2.2⟩
theorem addT {K : PySem.W.Frag} {H : Hp} {l b : Addr} {xs zs : List V} {Q : VK} (h1 : H l = some (.tup xs)) (h2 : H b = some (.tup zs)) (hz : xs.length + zs.length ≤ sizeLine) (q : ∀ r H2, Same H H2 → H2 r = some (.tup (xs ++ zs)) → Q (.ref r) H2) : zAdd K (.ref l) (.ref b) H Q :=
  .inr ⟨xs, zs, SqT.of h1, SqT.of h2, hz, (fun e => q b H (Same.refl H) (by rw [e]; exact h2)), (fun _ e => q l H (Same.refl H) (by rw [e, List.append_nil]; exact h1)), fun _ _ p H2 n => q p H2 n.same n.here⟩
theorem cutV_to (xs : List V) (j : Nat) : cutV xs none (some (j : Int)) = xs.take j := by
  unfold cutV
  rw [sIx_pos (by omega), Int.toNat_natCast]
  show ((xs.drop 0).take (min j xs.length - 0)) = _
  rw [List.drop_zero, Nat.sub_zero]
  rcases Nat.le_total j xs.length with h | h
  · rw [Nat.min_eq_left h]
  · rw [Nat.min_eq_right h, List.take_length, List.take_of_length_le h]
theorem cutV_toneg (xs : List V) : cutV xs none (some (-1)) = xs.take (xs.length - 1) := by
  unfold cutV
  show ((xs.drop 0).take ((if (-1 : Int) < 0 then (-1 + (xs.length : Int)).toNat else min (-1 : Int).toNat xs.length) - 0)) = _
  rw [if_pos (by decide), List.drop_zero, Nat.sub_zero, show (-1 + (xs.length : Int)).toNat = xs.length - 1 by omega]
theorem cutV_frneg (xs : List V) : cutV xs (some (-1)) none = xs.drop (xs.length - 1) := by
  unfold cutV
  show ((xs.drop (if (-1 : Int) < 0 then (-1 + (xs.length : Int)).toNat else min (-1 : Int).toNat xs.length)).take (xs.length - (if (-1 : Int) < 0 then (-1 + (xs.length : Int)).toNat else min (-1 : Int).toNat xs.length))) = _
  rw [if_pos (by decide), show (-1 + (xs.length : Int)).toNat = xs.length - 1 by omega, List.take_of_length_le (by rw [List.length_drop]; omega)]
theorem sIx_neg {n d : Nat} : HT.sIx n d (some (-1)) = n - 1 := by
  show (if (-1 : Int) < 0 then (-1 + (n : Int)).toNat else min (-1 : Int).toNat n) = _
  rw [if_pos (by decide)]
  omega
theorem cutV_fr (xs : List V) (j : Nat) : cutV xs (some (j : Int)) none = xs.drop j := by
  unfold cutV
  rw [sIx_pos (by omega), Int.toNat_natCast]
  show ((xs.drop (min j xs.length)).take (xs.length - min j xs.length)) = _
  rcases Nat.le_total j xs.length with h | h
  · rw [Nat.min_eq_left h, List.take_of_length_le (by rw [List.length_drop]; omega)]
  · rw [Nat.min_eq_right h, List.drop_length, List.drop_eq_nil_of_le h, List.take_nil]
theorem sum_odd : ∀ {ds : List PyData}, (∀ d ∈ ds, oddOk d = true) → (ds.map fun d => d.shown.length + 2).sum ≤ ds.length * 2002
  | [], _ => Nat.zero_le _
  | d :: r, h => by
    have h1 := (oddOk_of (h d List.mem_cons_self)).2.2.2
    have h2 := sum_odd fun x hx => h x (List.mem_cons_of_mem _ hx)
    rw [List.map_cons, List.sum_cons, List.length_cons, Nat.succ_mul]
    omega
theorem depth_odd : ∀ {ds : List PyData}, (∀ d ∈ ds, oddOk d = true) → PyData.depthAll ds ≤ 3
  | [], _ => Nat.zero_le _
  | d :: r, h => by
    have h1 := (oddOk_of (h d List.mem_cons_self)).2.2.1
    have h2 := depth_odd fun x hx => h x (List.mem_cons_of_mem _ hx)
    show max d.depth (PyData.depthAll r) ≤ 3
    omega
theorem show_odd : ∀ {ds : List PyData}, (∀ d ∈ ds, oddOk d = true) → PyData.showableAll ds = true
  | [], _ => rfl
  | d :: r, h => by
    have h1 := (oddOk_of (h d List.mem_cons_self)).2.1
    have h2 := show_odd fun x hx => h x (List.mem_cons_of_mem _ hx)
    show (d.showable && PyData.showableAll r) = true
    rw [h1, h2]
    rfl
theorem asc_odd : ∀ {ds : List PyData}, (∀ d ∈ ds, oddOk d = true) → ds.all asc1 = true := fun {ds} h => List.all_eq_true.mpr fun d hd => (oddOk_of (h d hd)).1
theorem odd_int {i : Int} (h : -10000000000000 ≤ i ∧ i ≤ 10000000000000) : oddOk (.int i) = true := by
  have hl : i.natAbs.log2 < 1920 := by
    rcases Nat.eq_zero_or_pos i.natAbs with e | e
    · rw [e]; decide
    · have q : 2 ^ i.natAbs.log2 ≤ i.natAbs := Nat.log2_self_le (by omega)
      have h2 : i.natAbs < 2 ^ 60 := by omega
      have : i.natAbs.log2 < 60 := (Nat.pow_lt_pow_iff_right (by decide : 1 < 2)).mp (Nat.lt_of_le_of_lt q h2)
      omega
  have e : (PyData.int i).shown = Str.ofString (toString i) := by simp only [PyData.shown]
  unfold oddOk
  rw [e, show (PyData.int i).showable = true by simpa only [PyData.showable, decide_eq_true_eq] using hl]
  have := int_text_len_1921 hl
  show (true && true && decide (0 ≤ 3) && decide ((Str.ofString (toString i)).length ≤ 2000) && true) = true
  rw [decide_eq_true (p := (Str.ofString (toString i)).length ≤ 2000) (by omega)]
  rfl
theorem odd_str {l : List Nat} (h : Pr l) (hl : l.length ≤ 100) : oddOk (.str (S l)) = true := by
  have e : (PyData.str (S l)).shown = reprText (S l) := by simp only [PyData.shown]
  have r := PySem.StrLaws.reprText_len (S l) (fun c hc => by
    rw [cps_S] at hc
    have := h c hc
    omega)
  have ls := length_S l
  have a : asciiS (S l) = true := by
    unfold asciiS
    rw [cps_S, List.all_eq_true]
    intro c hc
    have := h c hc
    exact decide_eq_true (by omega)
  have h1 : asc1 (.str (S l)) = true := by
    show (asciiS (S l) && decide ((S l).length ≤ 100000)) = true
    rw [a, length_S, decide_eq_true (by omega)]
    rfl
  unfold oddOk
  rw [e, h1]
  show (true && true && decide (0 ≤ 3) && decide ((reprText (S l)).length ≤ 2000) && true) = true
  rw [decide_eq_true (p := (reprText (S l)).length ≤ 2000) (by omega)]
  rfl
/-- a value that may be judged and shown -/
def Good (H : Hp) (v : V) : Prop := ∃ g d, Dz g H v d ∧ (d.hasDict = true → g = true) ∧ asc d = true ∧ d.showable = true ∧ d.depth ≤ 60 ∧ d.shown.length ≤ 10000000 ∧ nobox d = true
theorem Good.same {H H2 : Hp} {v : V} (h : Good H v) (s : Same H H2) : Good H2 v := by
  obtain ⟨g, d, a, b⟩ := h
  exact ⟨g, d, Dz.same s a, b⟩
theorem good_tup {H : Hp} {p : Addr} {xs : List V} {ds : List PyData} (h : H p = some (.tup xs)) (a : DzAll true H xs ds) (ok : ∀ d ∈ ds, oddOk d = true) (l : ds.length ≤ 20) : Good H (.ref p) := by
  refine ⟨true, .tuple ds, .tup h a, fun _ => rfl, asc_odd ok, show_odd ok, ?_, ?_, odd_noboxAll ok⟩
  · show PyData.depthAll ds + 1 ≤ 60
    have := depth_odd ok
    omega
  · have h1 := len_tuple ds
    have h2 := sum_odd ok
    have h3 : ds.length * 2002 ≤ 20 * 2002 := Nat.mul_le_mul_right _ l
    omega
def atomD : PyData → Bool
  | .none | .bool _ | .int _ | .str _ => true
  | _ => false
theorem atom_dict : ∀ {ds : List PyData}, (∀ d ∈ ds, atomD d = true) → PyData.hasDictAll ds = false
  | [], _ => by simp only [PyData.hasDictAll]
  | d :: r, h => by
    have h1 := h d List.mem_cons_self
    have h2 := atom_dict fun x hx => h x (List.mem_cons_of_mem _ hx)
    have h3 : d.hasDict = false := by cases d <;> first | (simp only [PyData.hasDict]; done) | cases h1
    simp only [PyData.hasDictAll, h3, h2, Bool.or_self]
mutual
theorem Dz.weak {H : Hp} : ∀ {v : V} {d : PyData}, Dz true H v d → Dz false H v d
  | _, _, .non => .non
  | _, _, .bl b => .bl b
  | _, _, .int i => .int i
  | _, _, .str x => .str x
  | _, _, .lst h n a => .lst h (fun z => by cases z) (DzAll.weak a)
  | _, _, .tup h a => .tup h (DzAll.weak a)
  | _, _, .dic h a => .dic h (DzKv.weak a)
theorem DzAll.weak {H : Hp} : ∀ {vs : List V} {ds : List PyData}, DzAll true H vs ds → DzAll false H vs ds
  | _, _, .nil => .nil
  | _, _, .cons h t => .cons (Dz.weak h) (DzAll.weak t)
theorem DzKv.weak {H : Hp} : ∀ {kvs : List (Key × V)} {D : List (PyData × PyData)}, DzKv true H kvs D → DzKv false H kvs D
  | _, _, .nil => .nil
  | _, _, .cons h t => .cons (Dz.weak h) (DzKv.weak t)
end
theorem good_lst {H : Hp} {p : Addr} {xs : List V} {ds : List PyData} (h : H p = some (.lst xs)) (a : DzAll true H xs ds) (ok : ∀ d ∈ ds, oddOk d = true) (at' : ∀ d ∈ ds, atomD d = true) (l : ds.length ≤ 20) (l4 : ds.length ≠ 4) : Good H (.ref p) := by
  refine ⟨false, .list ds, .lst h (fun z => by cases z) (DzAll.weak a), fun z => ?_, rfl, show_odd ok, ?_, ?_, by show ((ds.length != 4) && noboxAll ds) = true; rw [odd_noboxAll ok, Bool.and_true]; simpa using l4⟩
  · have e : (PyData.list ds).hasDict = PyData.hasDictAll ds := by simp only [PyData.hasDict]
    rw [e, atom_dict at'] at z
    cases z
  · show PyData.depthAll ds + 1 ≤ 60
    have := depth_odd ok
    omega
  · have h1 := len_list ds
    have h2 := sum_odd ok
    have h3 : ds.length * 2002 ≤ 20 * 2002 := Nat.mul_le_mul_right _ l
    omega
theorem good_atom {H : Hp} {v : V} {d : PyData} (h : Dz true H v d) (ok : oddOk d = true) (a : atomD d = true) : Good H v := by
  obtain ⟨h1, h2, h3, h4⟩ := oddOk_of ok
  exact ⟨true, d, h, fun _ => rfl, (by cases d <;> first | exact h1 | rfl | cases a), h2, by omega, by omega, odd_nobox ok⟩
theorem Good.but {H H2 : Hp} {b : Addr} {bs : List V} (hb : H b = some (.lst bs)) (h4 : bs.length = 4) (t : But b H H2) {v : V} (h : Good H v) : Good H2 v := by
  obtain ⟨g, d, a, h1, h2, h3, h5, h6, h7⟩ := h
  exact ⟨g, d, Dz.but hb h4 t a h7, h1, h2, h3, h5, h6, h7⟩
/-- a tuple, or a dict, of one tuple -/
theorem good_tup1 {H : Hp} {p r : Addr} {xs : List V} {ds : List PyData} (h : H p = some (.tup xs)) (a : DzAll true H xs ds) (ok : ∀ d ∈ ds, oddOk d = true) (l : ds.length ≤ 20) (hr : H r = some (.tup [.ref p])) : Good H (.ref r) := by
  have h1 := len_tuple ds
  have h2 := sum_odd ok
  have h3 : ds.length * 2002 ≤ 20 * 2002 := Nat.mul_le_mul_right _ l
  have hd := depth_odd ok
  refine ⟨true, .tuple [.tuple ds], .tup hr (.cons (.tup h a) .nil), fun _ => rfl, rfl, ?_, ?_, ?_, by show (noboxAll ds && true) = true; rw [odd_noboxAll ok]; rfl⟩
  · show (PyData.showableAll ds && true) = true
    rw [show_odd ok]
    rfl
  · show max (PyData.depthAll ds + 1) 0 + 1 ≤ 60
    omega
  · have h4 := len_tuple [.tuple ds]
    rw [List.map_cons, List.map_nil, List.sum_cons, List.sum_nil] at h4
    omega
theorem good_dic1 {H : Hp} {p r : Addr} {xs : List V} {ds : List PyData} (h : H p = some (.tup xs)) (a : DzAll true H xs ds) (ok : ∀ d ∈ ds, oddOk d = true) (l : ds.length ≤ 20) (hr : H r = some (.dK [(.inr "a", .ref p)])) : Good H (.ref r) := by
  have h1 := len_tuple ds
  have h2 := sum_odd ok
  have h3 : ds.length * 2002 ≤ 20 * 2002 := Nat.mul_le_mul_right _ l
  have hd := depth_odd ok
  refine ⟨true, .dict [(.str "a", .tuple ds)], .dic hr (.cons (k := .inr "a") (.tup h a) .nil), fun _ => rfl, rfl, ?_, ?_, ?_, by show (noboxAll ds && true) = true; rw [odd_noboxAll ok]; rfl⟩
  · show (PyData.showable (.str "a") && PyData.showableAll ds && true) = true
    rw [show_odd ok]
    rfl
  · show _ ≤ 60
    simp only [PyData.depth, PyData.depthKv]
    omega
  · have e : (PyData.dict [(.str "a", .tuple ds)]).shown = dictText [reprText "a" ++ ": " ++ (PyData.tuple ds).shown] := by
      simp only [PyData.shown, PyData.shownKv]
    rw [e]
    unfold dictText
    rw [strLen_append, strLen_append]
    show _ + (reprText "a" ++ ": " ++ (PyData.tuple ds).shown).length + _ ≤ _
    rw [strLen_append, strLen_append]
    have e1 : ("{" : Str).length = 1 := rfl
    have e2 : ("}" : Str).length = 1 := rfl
    have e3 : (": " : Str).length = 2 := rfl
    have e4 : (reprText "a").length = 3 := by decide +kernel
    omega
end M3

namespace L03_
open PySem PySem.Spec PyProof.Rows L2 Z
open SX M9 M3
def top (i : Nat) : Stmt := PySem.Challenge.pw_inorderonce_k03_items_and_tokens.main.body.getD i (.Pass ⟨0, 0, 0, 0⟩)
structure Txt (K : PySem.W.Frag) (mg : Str → Option Value) : Prop where
  n_int : mg "int" = none
  n_abs : mg "abs" = none
  n_len : mg "len" = none
  n_sum : mg "sum" = none
  n_dict : mg "dict" = none
  n_list : mg "list" = none
  n_range : mg "range" = none
  n_isinstance : mg "isinstance" = none
  n_bool : mg "bool" = none
  n_tuple : mg "tuple" = none
  n_str : mg "str" = none
  n_repr : mg "repr" = none
  n_max : mg "max" = none
  n_min : mg "min" = none
  c_MOST_PLAIN : ∃ u, mg "MOST_PLAIN" = some u ∧ RelV (.int (60)) u
  c_MOST_BODY : ∃ u, mg "MOST_BODY" = some u ∧ RelV (.int (40)) u
  c_MOST_NAME : ∃ u, mg "MOST_NAME" = some u ∧ RelV (.int (8)) u
  c_MOST_TICKS : ∃ u, mg "MOST_TICKS" = some u ∧ RelV (.int (50)) u
  c_MOST_PRIORITY : ∃ u, mg "MOST_PRIORITY" = some u ∧ RelV (.int (3)) u
  c_MOST_NUMBER : ∃ u, mg "MOST_NUMBER" = some u ∧ RelV (.int (999999999999)) u
theorem bt_int : bootBuiltins "int" = some (.type "int") := by decide +kernel
theorem bt_abs : bootBuiltins "abs" = some (.builtin "abs") := by decide +kernel
theorem bt_len : bootBuiltins "len" = some (.builtin "len") := by decide +kernel
theorem bt_sum : bootBuiltins "sum" = some (.builtin "sum") := by decide +kernel
theorem bt_dict : bootBuiltins "dict" = some (.type "dict") := by decide +kernel
theorem bt_list : bootBuiltins "list" = some (.type "list") := by decide +kernel
theorem bt_isinstance : bootBuiltins "isinstance" = some (.builtin "isinstance") := by decide +kernel
theorem bt_bool : bootBuiltins "bool" = some (.type "bool") := by decide +kernel
theorem bt_tuple : bootBuiltins "tuple" = some (.type "tuple") := by decide +kernel
theorem bt_str : bootBuiltins "str" = some (.type "str") := by decide +kernel
theorem bt_repr : bootBuiltins "repr" = some (.builtin "repr") := by decide +kernel
theorem bt_max : bootBuiltins "max" = some (.builtin "max") := by decide +kernel
theorem bt_min : bootBuiltins "min" = some (.builtin "min") := by decide +kernel


local macro_rules | `(tactic| walk_at "hp") => `(tactic| first | assumption | (refine Nw.keep (by assumption) ?_; walk_at "hp") | (refine But.at (by assumption) (by assumption) ?_; walk_at "hp") | (refine Wr.keep (by assumption) (by assumption) ?_; walk_at "hp"))
/-! ### promises -/
/-- a box of digits and draws, with at most n draws so far -/
def BoxAt (n : Nat) (H : Hp) (b : Addr) : Prop := ∃ (g : Int) (f : Bool) (s c : Int), H b = some (.lst [.int g, .bl f, .int s, .int c]) ∧ 0 ≤ g ∧ 0 ≤ s ∧ s < 2147483648 ∧ 0 ≤ c ∧ c ≤ n
theorem BoxAt.mono {n m : Nat} {H : Hp} {b : Addr} (h : BoxAt n H b) (e : n ≤ m) : BoxAt m H b := by
  obtain ⟨g, f, s, c, h1, h2, h3, h4, h5, h6⟩ := h
  exact ⟨g, f, s, c, h1, h2, h3, h4, h5, by omega⟩
theorem BoxAt.same {n : Nat} {H H2 : Hp} {b : Addr} (h : BoxAt n H b) (e : Same H H2) : BoxAt n H2 b := by
  obtain ⟨g, f, s, c, h1, h2⟩ := h
  exact ⟨g, f, s, c, e _ _ h1, h2⟩
theorem BoxAt.some {n : Nat} {H : Hp} {b : Addr} (h : BoxAt n H b) : ∃ o, H b = Option.some o := by
  obtain ⟨g, f, s, c, h1, h2⟩ := h
  exact ⟨_, h1⟩
theorem BoxAt.ne {n : Nat} {H : Hp} {b p : Addr} (h : BoxAt n H b) (e : H p = none) : b ≠ p := by
  obtain ⟨o, h⟩ := h.some
  exact ne_of_none h e
theorem BoxAt.wr {n : Nat} {H H2 : Hp} {b l : Addr} {o : HO} (h : BoxAt n H b) (e : b ≠ l) (w : Wr H l o H2) : BoxAt n H2 b := by
  obtain ⟨g, f, s, c, h1, h2⟩ := h
  exact ⟨g, f, s, c, w.keep e h1, h2⟩
theorem BoxAt.but {n : Nat} {H H2 : Hp} {b l : Addr} (h : BoxAt n H b) (e : b ≠ l) (w : But l H H2) : BoxAt n H2 b := by
  obtain ⟨g, f, s, c, h1, h2⟩ := h
  exact ⟨g, f, s, c, w.at e h1, h2⟩
def TX (n : Nat) (l : List Nat) : Prop := Pr l ∧ l.length ≤ n
def sp__law_box (K : PySem.W.Frag) : Sp := sp1 fun great H Q _ => ∃ g, great = .int g ∧ ∀ b H2, H b = none → Same H H2 → BoxAt 0 H2 b → Q (.ref b) H2
def sp__law_cell (K : PySem.W.Frag) : Sp := sp2 fun script k H Q _ => ∃ (a : Addr) (i : Int) (ns : List Int), script = .ref a ∧ k = .int i ∧ 0 ≤ i ∧ i < 1000 ∧ SqL K H a (ns.map V.int) ∧ ns.length ≤ 63 ∧ ∀ z H2, Same H H2 → Q (.int z) H2
def sp__law_take (K : PySem.W.Frag) : Sp := sp2 fun box many H Q _ => ∃ (b : Addr) (m : Int) (n : Nat), box = .ref b ∧ many = .int m ∧ 0 < m ∧ m < 1000000 ∧ BoxAt n H b ∧ n < 1000000 ∧ ∀ r H2, But b H H2 → BoxAt (n + 1) H2 b → 0 ≤ r → r < m → Q (.int r) H2
theorem lit_nil : ("" : Str) = S [] := by decide +kernel
theorem joinSz (ls : List (List Nat)) (h : ls.flatten.length ≤ 10000000) : ((ls.map S).map (·.length)).sum + (ls.map S).length * ("" : Str).length ≤ 16777216 := by
  rw [lit_nil, length_S, lens, ← List.length_flatten]
  show _ + _ * 0 ≤ _
  omega
theorem nself (x : V) : (true ^^ decide (x = x)) = false := by rw [decide_eq_true rfl]; rfl
theorem eself (x : V) : (false ^^ decide (x = x)) = true := by rw [decide_eq_true rfl]; rfl
theorem menuS (ts : List Str) {n : Nat} (ok : (ts.all fun t => (t.cps.toList.all fun c => decide (32 ≤ c) && decide (c ≤ 126)) && decide (t.cps.toList.length ≤ n)) = true) {r : Int} (h0 : 0 ≤ r) (h : r < (ts.length : Int)) :
    ∃ l, atI (ts.map V.str) r = some (.str (S l)) ∧ TX n l := by
  obtain ⟨v, h1, h2, _⟩ := atI_some (xs := ts.map V.str) h0 (by rw [List.length_map]; exact h)
  obtain ⟨t, ht, rfl⟩ := List.mem_map.mp h2
  have q := (List.all_eq_true.mp ok) t ht
  rw [Bool.and_eq_true] at q
  refine ⟨t.cps.toList, ?_, pr_of q.1, of_decide_eq_true q.2⟩
  rw [S_tl]
  exact h1
/-- the signs of the alphabets -/
theorem near_item {t : Str} (h : (t.cps.toList.all fun c => decide (32 ≤ c) && decide (c ≤ 126)) = true) {r : Int} (h0 : 0 ≤ r) (h1 : r < (t.length : Int)) : ∃ c : Nat, atI t.cps.toList r = some c ∧ 32 ≤ c ∧ c ≤ 126 := by
  obtain ⟨c, e1, e2, _⟩ := atI_some (xs := t.cps.toList) h0 (by simpa [Str.length] using h1)
  have := (List.all_eq_true.mp h) c e2
  exact ⟨c, e1, by simpa using this⟩
theorem log_small {n : Nat} (h : n < 10000000) : ((n : Nat) : Int).natAbs.log2 < 1920 := by
  rw [Int.natAbs_natCast]
  rcases Nat.eq_zero_or_pos n with e | e
  · subst e; decide
  · have q : 2 ^ n.log2 ≤ n := Nat.log2_self_le (by omega)
    have h2 : n < 2 ^ 24 := by omega
    have : n.log2 < 24 := (Nat.pow_lt_pow_iff_right (by decide : 1 < 2)).mp (Nat.lt_of_le_of_lt q h2)
    omega
def Vd (H : Hp) (v : V) (d : PyData) : Prop := ∃ g, Dz g H v d
theorem Vd.kind {K : PySem.W.Frag} {H : Hp} {v : V} {d : PyData} (h : Vd H v d) : KindV K H v (kindD d) := by
  obtain ⟨g, h⟩ := h
  exact Dz.kind h
theorem Vd.int {H : Hp} {v : V} {i : Int} (h : Vd H v (.int i)) : v = .int i := by
  obtain ⟨g, h⟩ := h
  cases h
  rfl
theorem Vd.str {H : Hp} {v : V} {x : Str} (h : Vd H v (.str x)) : v = .str x := by
  obtain ⟨g, h⟩ := h
  cases h
  rfl
theorem Vd.same {H H2 : Hp} {v : V} {d : PyData} (h : Vd H v d) (s : Same H H2) : Vd H2 v d := by
  obtain ⟨g, h⟩ := h
  exact ⟨g, Dz.same s h⟩
theorem within_ch {k i j : Int} {P : V → Prop} (q : P (.bl (within (.int k) i j))) : if decide (i ≤ k) = true then P (.bl (decide (k ≤ j))) else P (.bl false) := by
  have q : P (.bl (decide (i ≤ k) && decide (k ≤ j))) := q
  cases e : decide (i ≤ k) with
  | false =>
    rw [e] at q
    exact iteN rfl q
  | true =>
    rw [e] at q
    exact iteY rfl q
def sp_is_integer (K : PySem.W.Frag) : Sp := sp1 fun v H Q _ => ∃ d, Vd H v d ∧ Q (.bl (intD d)) H
def sp_is_within (K : PySem.W.Frag) : Sp := sp3 fun v a b H Q _ => ∃ d i j, Vd H v d ∧ a = .int i ∧ b = .int j ∧ Q (.bl (within d i j)) H
def sp__law_within (K : PySem.W.Frag) : Sp := sp3 fun v a b H Q _ => ∃ d i j, Vd H v d ∧ a = .int i ∧ b = .int j ∧ Q (.bl (within d i j)) H
def sp_is_signs (K : PySem.W.Frag) : Sp := sp1 fun v H Q _ => ∃ d, Vd H v d ∧ asc1 d = true ∧ Q (.bl (signsD d)) H
def sp_is_plain (K : PySem.W.Frag) : Sp := sp1 fun v H Q _ => ∃ d, Vd H v d ∧ asc1 d = true ∧ Q (.bl (plainD 60 d)) H
def sp_is_body (K : PySem.W.Frag) : Sp := sp1 fun v H Q _ => ∃ d, Vd H v d ∧ asc1 d = true ∧ Q (.bl (plainD 40 d)) H
def sp_is_name (K : PySem.W.Frag) : Sp := sp1 fun v H Q _ => ∃ d, Vd H v d ∧ asc1 d = true ∧ Q (.bl (nameD d)) H
def sp_is_number (K : PySem.W.Frag) : Sp := sp1 fun v H Q _ => ∃ d, Vd H v d ∧ Q (.bl (within d 1 999999999999)) H
def sp_is_token (K : PySem.W.Frag) : Sp := sp1 fun v H Q _ => ∃ d, Vd H v d ∧ Q (.bl (tokenD d)) H
def sp_is_item (K : PySem.W.Frag) : Sp := sp1 fun v H Q _ => ∃ d, Vd H v d ∧ asc d = true ∧ Q (.bl (itemD d)) H
def sp__law_is_name (K : PySem.W.Frag) : Sp := sp1 fun v H Q _ => ∃ d, Vd H v d ∧ asc1 d = true ∧ ∀ H2, Same H H2 → Q (.bl (nameD d)) H2
def sp__law_is_body (K : PySem.W.Frag) : Sp := sp1 fun v H Q _ => ∃ d, Vd H v d ∧ asc1 d = true ∧ ∀ H2, Same H H2 → Q (.bl (plainD 40 d)) H2
def sp__law_is_token (K : PySem.W.Frag) : Sp := sp1 fun v H Q _ => ∃ d, Vd H v d ∧ Q (.bl (tokenD d)) H
def sp__law_is_item (K : PySem.W.Frag) : Sp := sp1 fun v H Q _ => ∃ d, Vd H v d ∧ asc d = true ∧ ∀ H2, Same H H2 → Q (.bl (itemD d)) H2
def sp__law_told (K : PySem.W.Frag) : Sp := sp2 fun v u H Q _ => ∃ a b : Bool, v = .bl a ∧ u = .bl b ∧ Q (.bl (a == b)) H
theorem token_len {ds : List PyData} (h : ds.length ≠ 2) : tokenD (.tuple ds) = false := by
  match ds, h with
  | [], _ => rfl
  | [_], _ => rfl
  | [_, _], h => exact absurd rfl h
  | _ :: _ :: _ :: _, _ => rfl
theorem item_len {ds : List PyData} (h : ds.length ≠ 6) : itemD (.tuple ds) = false := by
  match ds, h with
  | [], _ => rfl
  | [_], _ => rfl
  | [_, _], _ => rfl
  | [_, _, _], _ => rfl
  | [_, _, _, _], _ => rfl
  | [_, _, _, _, _], _ => rfl
  | [_, _, _, _, _, _], h => exact absurd rfl h
  | _ :: _ :: _ :: _ :: _ :: _ :: _ :: _, _ => rfl
theorem int_ne {n : Nat} {k : Nat} {b : Bool} (h : n ≠ k) : (b ^^ decide (V.int (n : Nat) = V.int (k : Nat))) = b := by
  rw [decide_eq_false fun e => h (by have := V.int.inj e; omega)]
  cases b <;> rfl
theorem two_of {α : Type} {xs : List α} (h : xs.length = 2) : ∃ a b, xs = [a, b] := by
  match xs, h with
  | [a, b], _ => exact ⟨a, b, rfl⟩
theorem six_of {α : Type} {xs : List α} (h : xs.length = 6) : ∃ a b c d e f, xs = [a, b, c, d, e, f] := by
  match xs, h with
  | [a, b, c, d, e, f], _ => exact ⟨a, b, c, d, e, f, rfl⟩
/-- a name; the parts of an item -/
def NM (l : List Nat) : Prop := 1 ≤ l.length ∧ l.length ≤ 8 ∧ ∀ c ∈ l, 97 ≤ c ∧ c ≤ 122
theorem low_item {r : Int} (h0 : 0 ≤ r) (h1 : r < 26) : ∃ c : Nat, atI ("abcdefghijklmnopqrstuvwxyz" : Str).cps.toList r = some c ∧ 97 ≤ c ∧ c ≤ 122 := by
  obtain ⟨c, e1, e2, _⟩ := atI_some (xs := ("abcdefghijklmnopqrstuvwxyz" : Str).cps.toList) h0 (by rw [letters_list]; exact h1)
  have : low c = true := by rw [← low_in]; exact decide_eq_true e2
  unfold low at this
  exact ⟨c, e1, by simpa using this⟩
def ItemAt (H : Hp) (p : Addr) : Prop := ∃ (k m t : List Nat) (i x y : Int), H p = some (.tup [.str (S k), .str (S m), .str (S t), .int i, .int x, .int y]) ∧ NM k ∧ NM m ∧ TX 40 t ∧ 0 ≤ i ∧ i ≤ 3 ∧ 0 ≤ x ∧ x ≤ 50 ∧ 0 ≤ y ∧ y ≤ 50
def sp__law_name (K : PySem.W.Frag) : Sp := sp1 fun box H Q _ => ∃ (b : Addr) (n : Nat), box = .ref b ∧ BoxAt n H b ∧ n < 800000 ∧ ∀ l H2, But b H H2 → BoxAt (n + 20) H2 b → NM l → Q (.str (S l)) H2
def sp__law_text (K : PySem.W.Frag) : Sp := sp2 fun box most H Q _ => ∃ (b : Addr) (n : Nat), box = .ref b ∧ most = .int 40 ∧ BoxAt n H b ∧ n < 800000 ∧ ∀ l H2, But b H H2 → BoxAt (n + 50) H2 b → TX 40 l → Q (.str (S l)) H2
def sp__law_item (K : PySem.W.Frag) : Sp := sp1 fun box H Q _ => ∃ (b : Addr) (n : Nat), box = .ref b ∧ BoxAt n H b ∧ n < 700000 ∧ ∀ p H2, H p = none → But b H H2 → BoxAt (n + 100) H2 b → ItemAt H2 p → Q (.ref p) H2
theorem BoxAt.neq {n : Nat} {H : Hp} {b p : Addr} {o : HO} (h : BoxAt n H b) (e : H p = Option.some o) (ne : ∀ g f s c, o ≠ .lst [.int g, .bl f, .int s, .int c]) : p ≠ b := fun z => by
  obtain ⟨g, f, s, c, hb, _⟩ := h
  rw [← z, e] at hb
  exact ne g f s c (Option.some.inj hb)
def sp__law_odd (K : PySem.W.Frag) : Sp := sp1 fun box H Q _ => ∃ (b : Addr) (n : Nat), box = .ref b ∧ BoxAt n H b ∧ n < 800000 ∧ ∀ v d H2, But b H H2 → BoxAt (n + 1) H2 b → Dz true H2 v d → oddOk d = true → Q v H2
theorem BoxAt.tv {n : Nat} {H H2 : Hp} {b p : Addr} {xs : List V} {ds : List PyData} (h : BoxAt n H b) (t : But b H H2) (v : Tv H p xs ds) : Tv H2 p xs ds := by
  obtain ⟨g, f, s, c, hb, _⟩ := id h
  exact ⟨t.at (h.neq v.1 (fun _ _ _ _ z => by cases z)) v.1, DzAll.but hb rfl t v.2.1 (odd_noboxAll v.2.2), v.2.2⟩
def sp__law_spoiled (K : PySem.W.Frag) : Sp := sp2 fun box v H Q _ => ∃ (b : Addr) (n : Nat) (p : Addr) (xs : List V) (ds : List PyData), box = .ref b ∧ v = .ref p ∧ BoxAt n H b ∧ n < 700000 ∧ Tv H p xs ds ∧ 1 ≤ xs.length ∧ xs.length ≤ 8 ∧
  ∀ q ys es H2, But b H H2 → BoxAt (n + 2) H2 b → Tv H2 q ys es → ys.length = xs.length → Q (.ref q) H2
def sp__law_shape (K : PySem.W.Frag) : Sp := sp2 fun box v H Q _ => ∃ (b : Addr) (n : Nat) (p : Addr) (xs : List V) (ds : List PyData), box = .ref b ∧ v = .ref p ∧ BoxAt n H b ∧ n < 700000 ∧ Tv H p xs ds ∧ (∀ d ∈ ds, atomD d = true) ∧ 2 ≤ xs.length ∧ xs.length ≤ 8 ∧ xs.length ≠ 4 ∧
  ∀ w H2, But b H H2 → BoxAt (n + 1) H2 b → Good H2 w → Q w H2
theorem BoxAt.good {n : Nat} {H H2 : Hp} {b : Addr} (h : BoxAt n H b) (t : But b H H2) {v : V} (g : Good H v) : Good H2 v := by
  obtain ⟨_, _, _, _, hb, _⟩ := h
  exact g.but hb rfl t
def sp__law_right (K : PySem.W.Frag) : Sp := sp1 fun v H Q _ => Good H v ∧ ∀ H2, Same H H2 → Q (.bl true) H2
theorem BoxAt.goods {n : Nat} {H H2 : Hp} {b : Addr} (h : BoxAt n H b) (t : But b H H2) {L : List V} (g : ∀ x ∈ L, Good H x) : ∀ x ∈ L, Good H2 x := fun x hx => h.good t (g x hx)
def itemDs (k m t : List Nat) (i x y : Int) : List PyData := [.str (S k), .str (S m), .str (S t), .int i, .int x, .int y]
theorem item_tv {H : Hp} {p : Addr} {k m t : List Nat} {i x y : Int} (h : H p = some (.tup [.str (S k), .str (S m), .str (S t), .int i, .int x, .int y])) (nk : NM k) (nm : NM m) (tt : TX 40 t) (i0 : 0 ≤ i) (i1 : i ≤ 3) (x0 : 0 ≤ x) (x1 : x ≤ 50) (y0 : 0 ≤ y) (y1 : y ≤ 50) : Tv H p [.str (S k), .str (S m), .str (S t), .int i, .int x, .int y] (itemDs k m t i x y) := by
  refine ⟨h, .cons (.str _) (.cons (.str _) (.cons (.str _) (.cons (.int _) (.cons (.int _) (.cons (.int _) .nil))))), fun d hd => ?_⟩
  have pk : Pr k := fun c hc => by have := nk.2.2 c hc; omega
  have pm : Pr m := fun c hc => by have := nm.2.2 c hc; omega
  simp only [itemDs, List.mem_cons, List.not_mem_nil, or_false] at hd
  rcases hd with rfl | rfl | rfl | rfl | rfl | rfl
  · exact odd_str pk (by have := nk.2.1; omega)
  · exact odd_str pm (by have := nm.2.1; omega)
  · exact odd_str tt.1 (by have := tt.2; omega)
  · exact odd_int (by omega)
  · exact odd_int (by omega)
  · exact odd_int (by omega)
theorem name_S {l : List Nat} (h : NM l) : nameD (.str (S l)) = true := by
  show (decide (1 ≤ (S l).length) && decide ((S l).length ≤ 8) && lowS (S l)) = true
  have e : lowS (S l) = true := by
    unfold lowS
    rw [cps_S, List.all_eq_true]
    intro c hc
    simpa using h.2.2 c hc
  rw [e, length_S, decide_eq_true h.1, decide_eq_true h.2.1]
  rfl
theorem within_i {i a b : Int} (h : a ≤ i ∧ i ≤ b) : within (.int i) a b = true := by
  show (decide (a ≤ i) && decide (i ≤ b)) = true
  rw [decide_eq_true h.1, decide_eq_true h.2]
  rfl
theorem item_ok {k m t : List Nat} {i x y : Int} (nk : NM k) (nm : NM m) (tt : TX 40 t) (i0 : 0 ≤ i) (i1 : i ≤ 3) (x0 : 0 ≤ x) (x1 : x ≤ 50) (y0 : 0 ≤ y) (y1 : y ≤ 50) : itemD (.tuple (itemDs k m t i x y)) = true := by
  show (nameD (.str (S k)) && nameD (.str (S m)) && plainD 40 (.str (S t)) && within (.int i) 0 3 && within (.int x) 0 50 && within (.int y) 0 50) = true
  have e : plainD 40 (.str (S t)) = true := by
    show (prS (S t) && decide ((S t).length ≤ 40)) = true
    have : prS (S t) = true := by
      unfold prS
      rw [cps_S, List.all_eq_true]
      intro c hc
      simpa using tt.1 c hc
    rw [this, length_S, decide_eq_true tt.2]
    rfl
  rw [name_S nk, name_S nm, e, within_i ⟨i0, i1⟩, within_i ⟨x0, x1⟩, within_i ⟨y0, y1⟩]
  rfl
def sp_law (K : PySem.W.Frag) : Sp := sp1 fun v H Q _ => ∃ (a : Addr) (ns : List Int), v = .ref a ∧ SqL K H a (ns.map V.int) ∧ ns.length ≤ 63 ∧ ∀ H2, Q (.bl true) H2
section
variable {P : Program} {w : World} {K : PySem.W.Frag} {mg : Str → Option Value} {base : Heap}
/-! ### _law_box(_law_great), level 1 -/
abbrev s__law_box : Stmt := top 20
abbrev N__law_box : List Str := ["_law_great"]
theorem sc__law_box : FnScope N__law_box ["_law_great"] (defScope s__law_box) := ⟨rfl, rfl, rfl, by decide +kernel, rfl, by decide +kernel, by decide +kernel⟩
theorem ok__law_box (T : Txt K mg) (D : Df K mg "_law_box" s__law_box ["_law_great"]) : Ct P w K mg base CX0 1 "_law_box" ["_law_great"] (sp__law_box K) := by
  refine ct1 D sc__law_box fun f cdv A outer s H a_great Q E hr h => ⟨_, (pss_one (ps_ret (pe_lz (pa_cons (pe_callB c_abs (by rfl) T.n_abs bt_abs (pa_cons (pz 0) pa_nil)) (pa_cons (pe_cmpR o_ge (pe_callB c_abs (by rfl) T.n_abs bt_abs (pa_cons (pz 0) pa_nil)) (pe_op o_pow pe_int pe_int) (nomark _)) (pa_cons (pe_op o_mod (pe_callTy c_int (by rfl) T.n_int bt_int (pa_cons (pe_callB c_abs (by rfl) T.n_abs bt_abs (pa_cons (pz 0) pa_nil)) pa_nil)) pe_int) (pa_cons pe_int pa_nil))))))), ?_⟩
  obtain ⟨g, rfl, k⟩ := h
  refine ⟨⟨by decide, by decide, by decide⟩, by show (0 : Int) < _; decide, by show 4 ≤ sizeLine; decide, fun b H2 n => ?_⟩
  refine k b H2 n.fresh n.same ⟨_, _, _, _, n.here, ?_, ?_, ?_, by decide, by decide⟩
  · split <;> omega
  · exact Int.emod_nonneg _ (by decide)
  · have := Int.emod_lt_of_pos (if g < 0 then -g else g) (show (0 : Int) < 2147483629 by decide)
    omega

/-! ### _law_cell(_law_script, _law_k), level 1 -/
abbrev s__law_cell : Stmt := top 19
abbrev N__law_cell : List Str := ["_law_script", "_law_k"]
theorem sc__law_cell : FnScope N__law_cell ["_law_script", "_law_k"] (defScope s__law_cell) := ⟨rfl, rfl, rfl, by decide +kernel, rfl, by decide +kernel, by decide +kernel⟩
theorem ok__law_cell (T : Txt K mg) (D : Df K mg "_law_cell" s__law_cell ["_law_script", "_law_k"]) : Ct P w K mg base CX0 1 "_law_cell" ["_law_script", "_law_k"] (sp__law_cell K) := by
  refine ct2 D sc__law_cell fun f cdv A outer s H a_script a_k Q E hr h => ⟨_, (pss_one (ps_ret (pe_ifExp (pt_cmpZ o_ltS (pz 1) (pe_callB (k_len K) (by rfl) T.n_len bt_len (pa_cons (pz 0) pa_nil)) (nomark _)) (pe_ix (k_ix K) (pz 0) (pz 1) (fun _ _ => rfl)) (pe_op (k_add K) (pe_op o_mul pe_int (pz 1)) (pe_op o_mod (pe_callB (k_sum K rfl) (by rfl) T.n_sum bt_sum (pa_cons (pe_slice (k_sl K) (pz 0) po_none (po_z pe_int)) pa_nil)) pe_int))))), ?_⟩
  obtain ⟨a, i, ns, rfl, rfl, h0, h1, hS, hl, k⟩ := h
  refine .inl ⟨_, .inl hS, ?_⟩
  refine ite2 (fun hc => ?_) (fun hc => ?_)
  · have hi : i < (ns.map V.int).length := by simpa using hc
    rw [List.length_map] at hi
    refine ⟨_, V.int (ns.getD i.toNat 0), .inl hS, ?_, k _ _ (Same.refl _)⟩
    have e : i = ((i.toNat : Nat) : Int) := by omega
    rw [e]
    refine atI_nat ?_
    rw [Int.toNat_natCast, List.getElem?_map, List.getElem?_eq_getElem (by omega)]
    simp [List.getD, List.getElem?_eq_getElem (show i.toNat < ns.length by omega)]
  · refine ⟨.inr ⟨by omega, by omega⟩, .inl ⟨_, hS, fun p H2 n => ?_⟩⟩
    have e : cutV (ns.map V.int) none (some 1) = (ns.take 1).map V.int := by
      cases ns with
      | nil => rfl
      | cons x r => simp [cutV, HT.sIx]
    rw [e] at n
    exact ⟨_, SqL.of n.here, by show (0 : Int) < _; decide, k _ _ n.same⟩

/-! ### _law_take(_law_box_here, _law_many), level 1 -/
abbrev s__law_take : Stmt := top 21
abbrev N__law_take : List Str := ["_law_box_here", "_law_many", "_law_digit", "_law_mixed"]
theorem sc__law_take : FnScope N__law_take ["_law_box_here", "_law_many"] (defScope s__law_take) := ⟨rfl, rfl, rfl, by decide +kernel, rfl, by decide +kernel, by decide +kernel⟩
theorem ok__law_take (T : Txt K mg) (D : Df K mg "_law_take" s__law_take ["_law_box_here", "_law_many"]) : Ct P w K mg base CX0 1 "_law_take" ["_law_box_here", "_law_many"] (sp__law_take K) := by
  refine ct2 D sc__law_take fun f cdv A outer s H a_box_here a_many Q E hr h => ⟨_, (pss_cons (ps_if (PW.pt (pw_and (pt_trK K (pe_ix (k_ix K) (pz 0) pe_int (fun _ _ => rfl))) (pw_and1 (pt_cmpZ o_gtS (pe_ix (k_ix K) (pz 0) pe_int (fun _ _ => rfl)) pe_int (nomark _))))) 
      (pss_cons (ps_set (i := 2) sc__law_take.nd rfl (Or.inl rfl) (pe_op o_mod (pe_callTy c_int (by rfl) T.n_int bt_int (pa_cons (pe_ix (k_ix K) (pz 0) pe_int (fun _ _ => rfl)) pa_nil)) (pz 1)))
      (pss_cons (ps_asg (pe_op o_fdiv (pe_ix (k_ix K) (pz 0) pe_int (fun _ _ => rfl)) (pz 1)) (pg_sub (pz 0) pe_int s_list))
      (pss_one (ps_ret (pz 2))))) pss_nil)
    (pss_cons (ps_asg (pe_op (k_add K) (pe_ix (k_ix K) (pz 0) pe_int (fun _ _ => rfl)) pe_int) (pg_sub (pz 0) pe_int s_list))
    (pss_cons (ps_set (i := 3) sc__law_take.nd rfl (Or.inl rfl) (pe_op o_mod (pe_callTy c_int (by rfl) T.n_int bt_int (pa_cons (pe_op o_pow (pe_op (k_add K) (pe_op (k_add K) (pe_ix (k_ix K) (pz 0) pe_int (fun _ _ => rfl)) (pe_op o_mul pe_int (pe_ix (k_ix K) (pz 0) pe_int (fun _ _ => rfl)))) pe_int) pe_int) pa_nil)) pe_int))
    (pss_one (ps_ret (pe_op o_mod (pe_op o_fdiv (pe_op o_mod (pe_callTy c_int (by rfl) T.n_int bt_int (pa_cons (pe_op o_pow (pe_op (k_add K) (pe_op o_mul (pz 3) pe_int) (pe_op o_mul pe_int (pe_ix (k_ix K) (pz 0) pe_int (fun _ _ => rfl)))) pe_int) pa_nil)) pe_int) pe_int) (pz 1))))))), ?_⟩
  obtain ⟨b, m, n, rfl, rfl, hm, hm2, hB, hn, k⟩ := h
  obtain ⟨g, f1, s1, c, hb, g0, s0, s2, c0, c1⟩ := id hB
  have two : (2 : Int) ^ 64 = 18446744073709551616 := by decide
  refine ⟨_, _, .inl (SqL.of hb), rfl, ?_⟩
  refine ite2 (fun h1 => ?_) (fun h1 => ?_)
  · refine ⟨_, _, .inl (SqL.of hb), rfl, ?_⟩
    refine ite2 (fun h2 => ?_) (fun h2 => ?_)
    · refine ⟨_, _, .inl (SqL.of hb), rfl, hm, ?_⟩
      refine ⟨_, _, .inl (SqL.of hb), rfl, ⟨hm, by omega⟩, ?_⟩
      refine ⟨_, 0, hb, rfl, fun H2 w => ?_⟩
      have hg : 0 < g := by simpa using h2
      exact k _ H2 w.but ⟨_, _, _, _, w.here, Int.ediv_nonneg g0 (by omega), s0, s2, c0, by omega⟩ (Int.emod_nonneg _ (by omega)) (Int.emod_lt_of_pos _ hm)
    · refine ⟨_, _, .inl (SqL.of hb), rfl, ?_⟩
      refine ⟨_, 3, hb, rfl, fun H2 w => ?_⟩
      refine ⟨_, _, .inl (SqL.of w.here), rfl, ?_⟩
      refine ⟨_, _, .inl (SqL.of w.here), rfl, .inl ⟨by omega, by omega⟩, ?_⟩
      refine ⟨⟨by decide, by decide, by omega⟩, by show (0 : Int) < _; decide, ?_⟩
      have q1 := Int.emod_nonneg ((s1 + 15485863 * (c + 1) + 179424697) ^ (5 : Int).toNat) (show (2147483647 : Int) ≠ 0 by decide)
      have q2 := Int.emod_lt_of_pos ((s1 + 15485863 * (c + 1) + 179424697) ^ (5 : Int).toNat) (show (0 : Int) < 2147483647 by decide)
      refine ⟨.inr ⟨by omega, by omega⟩, ?_⟩
      refine ⟨_, _, .inl (SqL.of w.here), rfl, .inl ⟨by omega, by omega⟩, ?_⟩
      generalize (s1 + 15485863 * (c + 1) + 179424697) ^ (5 : Int).toNat % 2147483647 = z at q1 q2 ⊢
      refine ⟨⟨by decide, by decide, by omega⟩, by show (0 : Int) < _; decide, ⟨by show (0 : Int) < _; decide, by show _ < (1073741824 : Int); decide⟩, hm, ?_⟩
      exact k _ H2 w.but ⟨_, _, _, _, w.here, g0, s0, s2, by omega, by omega⟩ (Int.emod_nonneg _ (by omega)) (Int.emod_lt_of_pos _ hm)
  · refine iteF ?_
    refine ⟨_, _, .inl (SqL.of hb), rfl, ?_⟩
    refine ⟨_, 3, hb, rfl, fun H2 w => ?_⟩
    refine ⟨_, _, .inl (SqL.of w.here), rfl, ?_⟩
    refine ⟨_, _, .inl (SqL.of w.here), rfl, .inl ⟨by omega, by omega⟩, ?_⟩
    refine ⟨⟨by decide, by decide, by omega⟩, by show (0 : Int) < _; decide, ?_⟩
    have q1 := Int.emod_nonneg ((s1 + 15485863 * (c + 1) + 179424697) ^ (5 : Int).toNat) (show (2147483647 : Int) ≠ 0 by decide)
    have q2 := Int.emod_lt_of_pos ((s1 + 15485863 * (c + 1) + 179424697) ^ (5 : Int).toNat) (show (0 : Int) < 2147483647 by decide)
    refine ⟨.inr ⟨by omega, by omega⟩, ?_⟩
    refine ⟨_, _, .inl (SqL.of w.here), rfl, .inl ⟨by omega, by omega⟩, ?_⟩
    generalize (s1 + 15485863 * (c + 1) + 179424697) ^ (5 : Int).toNat % 2147483647 = z at q1 q2 ⊢
    refine ⟨⟨by decide, by decide, by omega⟩, by show (0 : Int) < _; decide, ⟨by show (0 : Int) < _; decide, by show _ < (1073741824 : Int); decide⟩, hm, ?_⟩
    exact k _ H2 w.but ⟨_, _, _, _, w.here, g0, s0, s2, by omega, by omega⟩ (Int.emod_nonneg _ (by omega)) (Int.emod_lt_of_pos _ hm)

/-! ### _law_shape(_law_box_here, _law_value), level 2 -/
abbrev s__law_shape : Stmt := top 31
abbrev N__law_shape : List Str := ["_law_box_here", "_law_value", "_law_menu"]
theorem sc__law_shape : FnScope N__law_shape ["_law_box_here", "_law_value"] (defScope s__law_shape) := ⟨rfl, rfl, rfl, by decide +kernel, rfl, by decide +kernel, by decide +kernel⟩
theorem ok__law_shape (T : Txt K mg) (C__law_take : Ct P w K mg base CX0 1 "_law_take" ["_law_box_here", "_law_many"] (sp__law_take K)) (D : Df K mg "_law_shape" s__law_shape ["_law_box_here", "_law_value"]) : Ct P w K mg base CX0 2 "_law_shape" ["_law_box_here", "_law_value"] (sp__law_shape K) := by
  refine ct2 D sc__law_shape fun f cdv A outer s H a_box_here a_value Q E hr h => ⟨_, (pss_cons (ps_set (i := 2) sc__law_shape.nd rfl (Or.inl rfl) (pe_lz (pa_cons (pe_callTy (k_list K) (by rfl) T.n_list bt_list (pa_cons (pz 1) pa_nil)) (pa_cons (pe_op (k_add K) (pz 1) (pe_tz (pa_cons pe_int pa_nil))) (pa_cons (pe_slice (k_sl K) (pz 1) po_none (po_z (pe_un un_negZ pe_int))) (pa_cons (pe_tz (pa_cons (pz 1) pa_nil)) (pa_cons pe_non (pa_cons pe_str (pa_cons (pe_callTy (k_dict K rfl) (by rfl) T.n_dict bt_dict (pa_cons (pe_lz (pa_cons (pe_tz (pa_cons pe_str (pa_cons (pz 1) pa_nil))) pa_nil)) pa_nil)) (pa_cons (pe_tz pa_nil) (pa_cons (pe_op (k_add K) (pz 1) (pe_slice (k_sl K) (pz 1) (po_z (pe_un un_negZ pe_int)) po_none)) pa_nil)))))))))))
    (pss_one (ps_ret (pe_ix (k_ix K) (pz 2) (pe_cl C__law_take (hr.mono (by decide)) pass0 (pa_cons (pz 0) (pa_cons pe_int pa_nil))) (fun _ _ => rfl))))), ?_⟩
  obtain ⟨b, n, p, xs, ds, rfl, rfl, hB, hn, hv, hat, l2, l8, l4, q⟩ := h
  have ll := DzAll.len hv.2.1
  refine ⟨xs, .inr (SqT.of hv.1), fun a1 H1 n1 => ?_⟩
  have v1 := hv.same n1.same
  refine ⟨by show 1 ≤ sizeLine; decide, fun c2 H2 n2 => ?_⟩
  refine addT (v1.same n2.same).1 n2.here (sz (by show _ + 1 ≤ _; omega)) fun a2 H3 s3 h3 => ?_
  have s03 := (n1.same.trans n2.same).trans s3
  refine .inr ⟨xs, SqT.of (hv.same s03).1, (fun z => by have := z.2; rw [sIx_neg] at this; omega), fun _ a3 H4 n4 => ?_⟩
  have h4 := n4.here
  rw [cutV_toneg] at h4
  refine ⟨by show 1 ≤ sizeLine; decide, fun a4 H5 n5 => ?_⟩
  refine ⟨by show 2 ≤ sizeLine; decide, fun c6 H6 n6 => ?_⟩
  refine ⟨by show 1 ≤ sizeLine; decide, fun c7 H7 n7 => ?_⟩
  refine .inl ⟨[c6], [(.inr "a", .ref p)], SqL.of n7.here, .cons (SqT.of (n7.keep n6.here)) .nil, fun a7 H8 n8 => ?_⟩
  refine ⟨Nat.zero_le _, fun a8 H9 n9 => ?_⟩
  have s39 := (((((n4.same.trans n5.same).trans n6.same).trans n7.same).trans n8.same).trans n9.same)
  have v9 := hv.same (s03.trans s39)
  refine .inr ⟨xs, SqT.of v9.1, (fun z => by have := z.1; rw [sIx_neg] at this; omega), fun _ c9 H10 n10 => ?_⟩
  have h10 := n10.here
  rw [cutV_frneg] at h10
  refine addT (v9.same n10.same).1 h10 (sz (by rw [List.length_drop]; omega)) fun a9 H11 s11 h11 => ?_
  refine ⟨by show 9 ≤ sizeLine; decide, fun m H12 n12 => ?_⟩
  have s912 := (n10.same.trans s11).trans n12.same
  have v12 := v9.same s912
  have B12 := hB.same ((s03.trans s39).trans s912)
  refine ⟨b, 9, n, rfl, rfl, by decide, by decide, B12, by omega, fun r H13 t13 B13 r0 r1 => ?_⟩
  have nmb := B12.neq n12.here (fun _ _ _ _ z => by cases z)
  obtain ⟨w, e, hw, _⟩ := atI_some (xs := [V.ref a1, .ref a2, .ref a3, .ref a4, .non, .str "item", .ref a7, .ref a8, .ref a9]) r0 r1
  refine ⟨_, w, .inl (SqL.of (t13.at nmb n12.here)), e, ?_⟩
  have tt : But b H H13 := (But.of ((s03.trans s39).trans s912)).trans t13
  have go : Good H12 w → Q w H13 := fun g => q w H13 tt B13 (B12.good t13 g)
  simp only [List.mem_cons, List.not_mem_nil, or_false] at hw
  have s812 := n9.same.trans s912
  have s512 := ((n6.same.trans n7.same).trans n8.same).trans s812
  have s412 := n5.same.trans s512
  have s312 := n4.same.trans s412
  have ok2 : ∀ es : List PyData, (∀ d ∈ es, oddOk d = true) → ∀ d ∈ ds ++ es, oddOk d = true := fun es h d hd => (List.mem_append.mp hd).elim (hv.2.2 d) (h d)
  rcases hw with rfl | rfl | rfl | rfl | rfl | rfl | rfl | rfl | rfl
  · exact go (good_lst (((n2.same.trans s3).trans s312) _ _ n1.here) v12.2.1 hv.2.2 hat (by omega) (by omega))
  · exact go (good_tup (s312 _ _ h3) (DzAll.app v12.2.1 (.cons (.int 0) .nil)) (ok2 [.int 0] (fun d hd => by rw [List.mem_singleton.mp hd]; decide +kernel)) (by rw [List.length_append]; show _ + 1 ≤ _; omega))
  · exact go (good_tup (s412 _ _ h4) (DzAll.take _ v12.2.1) (fun d hd => hv.2.2 d (List.mem_of_mem_take hd)) (by rw [List.length_take]; omega))
  · exact go (good_tup1 v12.1 v12.2.1 hv.2.2 (by omega) (s512 _ _ n5.here))
  · exact go (good_atom .non (by decide +kernel) rfl)
  · exact go (good_atom (.str _) (by decide +kernel) rfl)
  · exact go (good_dic1 v12.1 v12.2.1 hv.2.2 (by omega) (s812 _ _ n8.here))
  · exact go (good_tup (s912 _ _ n9.here) .nil (fun d hd => by cases hd) (by decide))
  · exact go (good_tup (n12.keep h11) (DzAll.app v12.2.1 (DzAll.drop _ v12.2.1)) (ok2 _ (fun d hd => hv.2.2 d (List.mem_of_mem_drop hd))) (by rw [List.length_append, List.length_drop]; omega))

/-! ### _law_odd(_law_box_here), level 2 -/
abbrev s__law_odd : Stmt := top 25
abbrev N__law_odd : List Str := ["_law_box_here", "_law_menu"]
theorem sc__law_odd : FnScope N__law_odd ["_law_box_here"] (defScope s__law_odd) := ⟨rfl, rfl, rfl, by decide +kernel, rfl, by decide +kernel, by decide +kernel⟩
theorem ok__law_odd (C__law_take : Ct P w K mg base CX0 1 "_law_take" ["_law_box_here", "_law_many"] (sp__law_take K)) (D : Df K mg "_law_odd" s__law_odd ["_law_box_here"]) : Ct P w K mg base CX0 2 "_law_odd" ["_law_box_here"] (sp__law_odd K) := by
  refine ct1 D sc__law_odd fun f cdv A outer s H a_box_here Q E hr h => ⟨_, (pss_cons (ps_set (i := 1) sc__law_odd.nd rfl (Or.inl rfl) (pe_lzS (pa_cons pe_non (pa_cons pe_bl (pa_cons pe_bl (pa_cons pe_int (pa_cons pe_int (pa_cons (pe_un un_negZ pe_int) (pa_cons pe_int (pa_cons pe_int (pa_cons pe_int (pa_cons pe_int (pa_cons pe_int (pa_cons pe_int (pa_cons (pe_op o_sub (pe_op o_pow pe_int pe_int) pe_int) (pa_cons (pe_op o_pow pe_int pe_int) (pa_cons (pe_un un_negZ (pe_op o_pow pe_int pe_int)) (pa_cons pe_str (pa_cons pe_str (pa_cons pe_str pa_nil))))))))))))))))))))
    (pss_cons (ps_set (i := 1) sc__law_odd.nd rfl (Or.inl rfl) (pe_op (k_add K) (pz 1) (pe_lzS (pa_cons pe_str (pa_cons pe_str (pa_cons pe_str (pa_cons pe_str (pa_cons pe_str (pa_cons (pe_op o_mul pe_str pe_int) (pa_cons (pe_op o_mul pe_str pe_int) (pa_cons (pe_op o_mul pe_str pe_int) (pa_cons pe_str (pa_cons (pe_tz pa_nil) (pa_cons (pe_lzS pa_nil) (pa_cons (pe_tz (pa_cons pe_int (pa_cons pe_int pa_nil))) (pa_cons (pe_lzS (pa_cons pe_int (pa_cons pe_int pa_nil))) pa_nil))))))))))))))))
    (pss_one (ps_ret (pe_ix (k_ix K) (pe_op (k_add K) (pz 1) (pe_lzS (pa_cons (pe_tz (pa_cons pe_str pa_nil)) (pa_cons pe_dnewK (pa_cons (pe_tz (pa_cons pe_int (pa_cons pe_int pa_nil))) (pa_cons (pe_tz (pa_cons pe_int (pa_cons pe_int pa_nil))) (pa_cons (pe_tz (pa_cons pe_int (pa_cons pe_bl pa_nil))) (pa_cons (pe_tz (pa_cons pe_int (pa_cons pe_int (pa_cons pe_int pa_nil)))) pa_nil)))))))) (pe_cl C__law_take (hr.mono (by decide)) pass0 (pa_cons (pz 0) (pa_cons pe_int pa_nil))) (fun _ _ => rfl)))))), ?_⟩
  obtain ⟨b, n, rfl, hB, hn, q⟩ := h
  refine ⟨⟨by decide, by decide, by decide⟩, ?_⟩
  refine ⟨⟨by decide, by decide, by decide⟩, ?_⟩
  refine ⟨⟨by decide, by decide, by decide⟩, ?_⟩
  refine ⟨by show 18 ≤ sizeLine; decide, fun p1 H1 n1 _ => ?_⟩
  refine ⟨by decide, by decide, by decide, ?_⟩
  refine ⟨by decide, by decide, by decide, ?_⟩
  refine ⟨by decide, by decide, by decide, ?_⟩
  refine ⟨Nat.zero_le _, fun a1 H2 n2 => ?_⟩
  refine ⟨Nat.zero_le _, fun a2 H3 n3 f3 => ?_⟩
  refine ⟨by show 2 ≤ sizeLine; decide, fun a3 H4 n4 => ?_⟩
  refine ⟨by show 2 ≤ sizeLine; decide, fun a4 H5 n5 f5 => ?_⟩
  refine ⟨by show 13 ≤ sizeLine; decide, fun p2 H6 n6 _ => ?_⟩
  have s16 := (((n2.same.trans n3.same).trans n4.same).trans n5.same).trans n6.same
  refine .inl ⟨_, _, s16 _ _ n1.here, n6.here, by show 31 ≤ sizeLine; decide, fun p3 H7 n7 => ?_⟩
  refine ⟨by show 1 ≤ sizeLine; decide, fun a5 H8 n8 => ?_⟩
  refine fun a6 f9 => ?_
  have n9 := nw (o := .dK []) f9
  refine ⟨by show 2 ≤ sizeLine; decide, fun a7 H10 n10 => ?_⟩
  refine ⟨by show 2 ≤ sizeLine; decide, fun a8 H11 n11 => ?_⟩
  refine ⟨by show 2 ≤ sizeLine; decide, fun a9 H12 n12 => ?_⟩
  refine ⟨by show 3 ≤ sizeLine; decide, fun a10 H13 n13 => ?_⟩
  refine ⟨by show 6 ≤ sizeLine; decide, fun p4 H14 n14 _ => ?_⟩
  have s1314 := n14.same
  have s1214 := n13.same.trans s1314
  have s1114 := n12.same.trans s1214
  have s1014 := n11.same.trans s1114
  have s914 := n10.same.trans s1014
  have s814 := n9.same.trans s914
  have s714 := n8.same.trans s814
  refine .inl ⟨_, _, s714 _ _ n7.here, n14.here, by show 37 ≤ sizeLine; decide, fun p5 H15 n15 => ?_⟩
  have s614 := n7.same.trans s714
  have s514 := n6.same.trans s614
  have s414 := n5.same.trans s514
  have s314 := n4.same.trans s414
  have s214 := n3.same.trans s314
  have B15 := hB.same (((n1.same.trans n2.same).trans s214).trans n15.same)
  refine ⟨b, 37, n, rfl, rfl, by decide, by decide, B15, by omega, fun r H16 t16 B16 r0 r1 => ?_⟩
  have nb5 := B15.neq n15.here (fun g f s c z => by cases z)
  have at_of : ∀ L : List V, H15 p5 = some (.lst L) → L.length = 37 → ∃ v, atI L r = some v ∧ v ∈ L := fun L _ hl => by
    obtain ⟨v, e, hv, _⟩ := atI_some (xs := L) r0 (by rw [hl]; exact r1)
    exact ⟨v, e, hv⟩
  obtain ⟨v, e, hv⟩ := at_of _ n15.here rfl
  refine ⟨_, v, .inl (SqL.of (t16.at nb5 n15.here)), e, ?_⟩
  have k_a1 := n15.keep (s214 _ _ n2.here)
  have h_a1 := t16.at (B15.neq k_a1 (fun g f s c z => by cases z)) k_a1
  have k_a2 := n15.keep (s314 _ _ n3.here)
  have h_a2 := t16.at (B15.neq k_a2 (fun g f s c z => by cases z)) k_a2
  have k_a3 := n15.keep (s414 _ _ n4.here)
  have h_a3 := t16.at (B15.neq k_a3 (fun g f s c z => by cases z)) k_a3
  have k_a4 := n15.keep (s514 _ _ n5.here)
  have h_a4 := t16.at (B15.neq k_a4 (fun g f s c z => by cases z)) k_a4
  have k_a5 := n15.keep (s814 _ _ n8.here)
  have h_a5 := t16.at (B15.neq k_a5 (fun g f s c z => by cases z)) k_a5
  have k_a6 := n15.keep (s914 _ _ n9.here)
  have h_a6 := t16.at (B15.neq k_a6 (fun g f s c z => by cases z)) k_a6
  have k_a7 := n15.keep (s1014 _ _ n10.here)
  have h_a7 := t16.at (B15.neq k_a7 (fun g f s c z => by cases z)) k_a7
  have k_a8 := n15.keep (s1114 _ _ n11.here)
  have h_a8 := t16.at (B15.neq k_a8 (fun g f s c z => by cases z)) k_a8
  have k_a9 := n15.keep (s1214 _ _ n12.here)
  have h_a9 := t16.at (B15.neq k_a9 (fun g f s c z => by cases z)) k_a9
  have k_a10 := n15.keep (s1314 _ _ n13.here)
  have h_a10 := t16.at (B15.neq k_a10 (fun g f s c z => by cases z)) k_a10
  have tt : But b H H16 := (But.of (((n1.same.trans n2.same).trans s214).trans n15.same)).trans t16
  simp only [List.mem_append, List.mem_cons, List.not_mem_nil, or_false] at hv
  rcases hv with ((rfl | rfl | rfl | rfl | rfl | rfl | rfl | rfl | rfl | rfl | rfl | rfl | rfl | rfl | rfl | rfl | rfl | rfl) | (rfl | rfl | rfl | rfl | rfl | rfl | rfl | rfl | rfl | rfl | rfl | rfl | rfl)) | rfl | rfl | rfl | rfl | rfl | rfl
  · exact q _ _ _ tt B16 .non (by decide +kernel)
  · exact q _ _ _ tt B16 (.bl _) (by decide +kernel)
  · exact q _ _ _ tt B16 (.bl _) (by decide +kernel)
  · exact q _ _ _ tt B16 (.int _) (by decide +kernel)
  · exact q _ _ _ tt B16 (.int _) (by decide +kernel)
  · exact q _ _ _ tt B16 (.int _) (by decide +kernel)
  · exact q _ _ _ tt B16 (.int _) (by decide +kernel)
  · exact q _ _ _ tt B16 (.int _) (by decide +kernel)
  · exact q _ _ _ tt B16 (.int _) (by decide +kernel)
  · exact q _ _ _ tt B16 (.int _) (by decide +kernel)
  · exact q _ _ _ tt B16 (.int _) (by decide +kernel)
  · exact q _ _ _ tt B16 (.int _) (by decide +kernel)
  · exact q _ _ _ tt B16 (.int _) (by decide +kernel)
  · exact q _ _ _ tt B16 (.int _) (by decide +kernel)
  · exact q _ _ _ tt B16 (.int _) (by decide +kernel)
  · exact q _ _ _ tt B16 (.str _) (by decide +kernel)
  · exact q _ _ _ tt B16 (.str _) (by decide +kernel)
  · exact q _ _ _ tt B16 (.str _) (by decide +kernel)
  · exact q _ _ _ tt B16 (.str _) (by decide +kernel)
  · exact q _ _ _ tt B16 (.str _) (by decide +kernel)
  · exact q _ _ _ tt B16 (.str _) (by decide +kernel)
  · exact q _ _ _ tt B16 (.str _) (by decide +kernel)
  · exact q _ _ _ tt B16 (.str _) (by decide +kernel)
  · exact q _ _ _ tt B16 (.str _) (by decide +kernel)
  · exact q _ _ _ tt B16 (.str _) (by decide +kernel)
  · exact q _ _ _ tt B16 (.str _) (by decide +kernel)
  · exact q _ _ _ tt B16 (.str _) (by decide +kernel)
  · exact q _ _ _ tt B16 (.tup h_a1 .nil) (by decide +kernel)
  · exact q _ _ _ tt B16 (.lst h_a2 (fun _ => f3) .nil) (by decide +kernel)
  · exact q _ _ _ tt B16 (.tup h_a3 (.cons (.int _) (.cons (.int _) .nil))) (by decide +kernel)
  · exact q _ _ _ tt B16 (.lst h_a4 (fun _ => f5) (.cons (.int _) (.cons (.int _) .nil))) (by decide +kernel)
  · exact q _ _ _ tt B16 (.tup h_a5 (.cons (.str _) .nil)) (by decide +kernel)
  · exact q _ _ _ tt B16 (.dic h_a6 .nil) (by decide +kernel)
  · exact q _ _ _ tt B16 (.tup h_a7 (.cons (.int _) (.cons (.int _) .nil))) (by decide +kernel)
  · exact q _ _ _ tt B16 (.tup h_a8 (.cons (.int _) (.cons (.int _) .nil))) (by decide +kernel)
  · exact q _ _ _ tt B16 (.tup h_a9 (.cons (.int _) (.cons (.bl _) .nil))) (by decide +kernel)
  · exact q _ _ _ tt B16 (.tup h_a10 (.cons (.int _) (.cons (.int _) (.cons (.int _) .nil)))) (by decide +kernel)

/-! ### _law_spoiled(_law_box_here, _law_value), level 3 -/
abbrev s__law_spoiled : Stmt := top 32
abbrev N__law_spoiled : List Str := ["_law_box_here", "_law_value", "_law_place"]
theorem sc__law_spoiled : FnScope N__law_spoiled ["_law_box_here", "_law_value"] (defScope s__law_spoiled) := ⟨rfl, rfl, rfl, by decide +kernel, rfl, by decide +kernel, by decide +kernel⟩
theorem ok__law_spoiled (T : Txt K mg) (C__law_take : Ct P w K mg base CX0 1 "_law_take" ["_law_box_here", "_law_many"] (sp__law_take K)) (C__law_odd : Ct P w K mg base CX0 2 "_law_odd" ["_law_box_here"] (sp__law_odd K)) (D : Df K mg "_law_spoiled" s__law_spoiled ["_law_box_here", "_law_value"]) : Ct P w K mg base CX0 3 "_law_spoiled" ["_law_box_here", "_law_value"] (sp__law_spoiled K) := by
  refine ct2 D sc__law_spoiled fun f cdv A outer s H a_box_here a_value Q E hr h => ⟨_, (pss_cons (ps_set (i := 2) sc__law_spoiled.nd rfl (Or.inl rfl) (pe_cl C__law_take (hr.mono (by decide)) pass0 (pa_cons (pz 0) (pa_cons (pe_callB (k_len K) (by rfl) T.n_len bt_len (pa_cons (pz 1) pa_nil)) pa_nil))))
    (pss_one (ps_ret (pe_op (k_add K) (pe_op (k_add K) (pe_slice (k_sl K) (pz 1) po_none (po_z (pz 2))) (pe_tz (pa_cons (pe_cl C__law_odd (hr.mono (by decide)) pass0 (pa_cons (pz 0) pa_nil)) pa_nil))) (pe_slice (k_sl K) (pz 1) (po_z (pe_op (k_add K) (pz 2) pe_int)) po_none))))), ?_⟩
  obtain ⟨b, n, p, xs, ds, rfl, rfl, hB, hn, hv, l1, l8, q⟩ := h
  have ll := DzAll.len hv.2.1
  refine .inl ⟨_, .inr (SqT.of hv.1), ?_⟩
  refine ⟨b, _, n, rfl, rfl, by omega, by omega, hB, by omega, fun r H1 t1 B1 r0 r1 => ?_⟩
  obtain ⟨j, rfl⟩ : ∃ j : Nat, r = (j : Int) := ⟨r.toNat, by omega⟩
  have hv1 := hB.tv t1 hv
  refine .inr ⟨xs, SqT.of hv1.1, (fun z => by have := z.2; rw [sIx_pos (by omega), Int.toNat_natCast] at this; omega), fun _ a H2 n2 => ?_⟩
  have h2 := n2.here
  rw [cutV_to] at h2
  refine ⟨b, _, rfl, B1.same n2.same, by omega, fun v d H3 t3 B3 dz ok => ?_⟩
  have hv3 := (B1.same n2.same).tv t3 (hv1.same n2.same)
  have h3 := t3.at ((B1.same n2.same).neq h2 (fun _ _ _ _ z => by cases z)) h2
  refine ⟨by show 1 ≤ sizeLine; decide, fun c H4 n4 => ?_⟩
  refine addT (n4.keep h3) n4.here (sz (by rw [List.length_take]; show _ + 1 ≤ _; omega)) fun r5 H5 s5 h5 => ?_
  have s35 := n4.same.trans s5
  have hv5 := hv3.same s35
  refine .inr ⟨xs, SqT.of hv5.1, (fun z => by have := z.1; rw [sIx_pos (by omega)] at this; omega), fun _ e H6 n6 => ?_⟩
  have h6 := n6.here
  rw [show ((j : Nat) : Int) + 1 = ((j + 1 : Nat) : Int) by omega, cutV_fr] at h6
  refine addT (n6.keep h5) h6 (sz (by rw [List.length_append, List.length_take, List.length_drop]; show _ + 1 + _ ≤ _; omega)) fun r7 H7 s7 h7 => ?_
  have s37 := (s35.trans n6.same).trans s7
  have hv7 := hv3.same s37
  refine q r7 _ (ds.take j ++ [d] ++ ds.drop (j + 1)) H7 (((t1.nw n2).trans t3).trans (But.of s37)) ((B3.same s37).mono (by omega)) ⟨h7, DzAll.app (DzAll.app (DzAll.take j hv7.2.1) (.cons (Dz.same s37 dz) .nil)) (DzAll.drop (j + 1) hv7.2.1), fun x hx => ?_⟩ ?_
  · rcases List.mem_append.mp hx with hx | hx
    · rcases List.mem_append.mp hx with hx | hx
      · exact hv.2.2 x (List.mem_of_mem_take hx)
      · rw [List.mem_singleton.mp hx]
        exact ok
    · exact hv.2.2 x (List.mem_of_mem_drop hx)
  · rw [List.length_append, List.length_append, List.length_take, List.length_drop]
    show _ + 1 + _ = _
    omega

/-! ### _law_text(_law_box_here, _law_most), level 2 -/
abbrev s__law_text : Stmt := top 23
abbrev N__law_text : List Str := ["_law_box_here", "_law_most", "_law_signs", "_law_many", "_law_k"]
theorem sc__law_text : FnScope N__law_text ["_law_box_here", "_law_most"] (defScope s__law_text) := ⟨rfl, rfl, rfl, by decide +kernel, rfl, by decide +kernel, by decide +kernel⟩
theorem ok__law_text (T : Txt K mg) (C__law_take : Ct P w K mg base CX0 1 "_law_take" ["_law_box_here", "_law_many"] (sp__law_take K)) (D : Df K mg "_law_text" s__law_text ["_law_box_here", "_law_most"]) : Ct P w K mg base CX0 2 "_law_text" ["_law_box_here", "_law_most"] (sp__law_text K) := by
  refine ct2 D sc__law_text fun f cdv A outer s H a_box_here a_most Q E hr h => ⟨_, (pss_cons (ps_set (i := 2) sc__law_text.nd rfl (Or.inr rfl) pe_str)
    (pss_cons (ps_set (i := 3) sc__law_text.nd rfl (Or.inl rfl) (pe_ix (k_ix K) (pe_lz (pa_cons pe_int (pa_cons pe_int (pa_cons pe_int (pa_cons pe_int (pa_cons pe_int (pa_cons (pe_op o_sub (pz 1) pe_int) (pa_cons (pz 1) pa_nil)))))))) (pe_cl C__law_take (hr.mono (by decide)) pass0 (pa_cons (pz 0) (pa_cons pe_int pa_nil))) (fun _ _ => rfl)))
    (pss_one (ps_ret (pe_ms PySem.F.slot_str_join PySem.F.type_str_join (mk_join K) pe_str (pa_cons (pe_lcz (own := [("_law_k", 4)]) (by rfl) sc__law_text.nd (pi_rngZ (by rfl) T.n_range (pa_cons (pz 3) pa_nil)) (blkOk_by (own := [("_law_k", 4)]) (N := N__law_text) (sc := defScope s__law_text) (by decide +kernel)) (fun _ _ _ _ _ => (pg_name (i := 4) sc__law_text.nd rfl (Or.inl rfl))) (fun _ _ _ _ _ => pts_nil) (fun _ _ _ _ _ => (pe_ix (k_ix K) (pz 2) (pe_cl C__law_take (hr.mono (by decide)) pass0 (pa_cons (pz 0) (pa_cons pe_int pa_nil))) (fun _ _ => rfl)))) pa_nil)))))), ?_⟩
  obtain ⟨b, n, rfl, rfl, hB, hn, q⟩ := h
  refine ⟨by show 7 ≤ sizeLine; decide, fun p H1 n1 => ?_⟩
  have nb : p ≠ b := (hB.ne n1.fresh).symm
  refine ⟨b, 7, n, rfl, rfl, by decide, by decide, hB.same n1.same, by omega, fun r H2 t2 B2 r0 r1 => ?_⟩
  obtain ⟨m, hm, hmem⟩ := menuI [0, 1, 2, 3, 7, 39, 40] r0 r1
  have hm' : 0 ≤ m ∧ m ≤ 40 := by
    simp only [List.mem_cons, List.not_mem_nil, or_false] at hmem
    omega
  refine ⟨_, .int m, .inl (SqL.of (t2.at nb n1.here)), hm, ?_⟩
  have t12 : But b H H2 := n1.but.trans t2
  refine ⟨by omega, by omega, fun D hD => lc_w (wk_rng 0 m.toNat) (by rw [rngV_len]; omega)
      (fun i acc H' => ∃ ls : List (List Nat), acc = strsV ls ∧ ls.length = i ∧ (∀ l ∈ ls, TX 1 l) ∧ But b H2 H' ∧ BoxAt (n + 1 + i) H' b)
      (fun H4 n4 => ⟨[], rfl, rfl, (fun _ h => by cases h), n4.but, (B2.same n4.same)⟩) (fun _ _ _ _ => trivial) (fun i acc H' ⟨ls, e, l, _⟩ => by rw [e, strsV_len]; omega) ?_ ?_⟩
  · rintro i x acc H4 hx hD4 ⟨ls, rfl, hl, ht, t4, B4⟩
    obtain ⟨hi, rfl⟩ := rngV_at hx
    have nD : D ≠ b := (B2.ne hD).symm
    refine ⟨rfl, ?_⟩
    refine ⟨b, 94, n + 1 + i, rfl, rfl, by decide, by decide, B4, by omega, fun r3 H5 t5 B5 r30 r31 => ?_⟩
    obtain ⟨c, e, hc⟩ := near_item (t := " !\"#$&'()*+,-./0123456789:;<=>?@ABCDEFGHIJKLMNOPQRSTUVWXYZ[\\]^_`abcdefghijklmnopqrstuvwxyz{|}~") (by decide) r30 r31
    refine ⟨c, by decide, e, t5.at nD hD4, fun H6 w6 => ?_⟩
    refine ⟨ls ++ [[c]], strsV_app ls [c] ▸ rfl, by rw [List.length_append, hl]; rfl, fun l hl => ?_, (t4.trans t5).wr hD w6, (B5.wr nD.symm w6)⟩
    rcases List.mem_append.mp hl with hl | hl
    · exact ht l hl
    · rw [List.mem_singleton.mp hl]
      exact ⟨pr_cons hc pr_nil, Nat.le_refl 1⟩
  · rintro acc H4 _ hD4 ⟨ls, rfl, hl, ht, t4, B4⟩
    rw [rngV_len] at hl
    rw [rngV_len] at B4
    have lenF : ls.flatten.length ≤ ls.length := by
      have gen : ∀ ls : List (List Nat), (∀ l ∈ ls, TX 1 l) → ls.flatten.length ≤ ls.length := by
        intro ls
        induction ls with
        | nil => intro _; exact Nat.le_refl 0
        | cons a r ih =>
          intro h
          have h1 := (h a List.mem_cons_self).2
          have h2 := ih fun l hl => h l (List.mem_cons_of_mem _ hl)
          rw [List.flatten_cons, List.length_append, List.length_cons]
          omega
      exact gen ls ht
    refine ⟨ls.map S, .inl (SqL.of hD4), ?_, ?_⟩
    · exact joinSz _ (by omega)
    rw [join_flat lit_nil]
    exact q _ H4 (t12.trans t4) (B4.mono (by omega)) ⟨pr_flat fun l hl => (ht l hl).1, by omega⟩

/-! ### _law_name(_law_box_here), level 2 -/
abbrev s__law_name : Stmt := top 22
abbrev N__law_name : List Str := ["_law_box_here", "_law_letters", "_law_many", "_law_k"]
theorem sc__law_name : FnScope N__law_name ["_law_box_here"] (defScope s__law_name) := ⟨rfl, rfl, rfl, by decide +kernel, rfl, by decide +kernel, by decide +kernel⟩
theorem ok__law_name (T : Txt K mg) (C__law_take : Ct P w K mg base CX0 1 "_law_take" ["_law_box_here", "_law_many"] (sp__law_take K)) (D : Df K mg "_law_name" s__law_name ["_law_box_here"]) : Ct P w K mg base CX0 2 "_law_name" ["_law_box_here"] (sp__law_name K) := by
  refine ct1 D sc__law_name fun f cdv A outer s H a_box_here Q E hr h => ⟨_, (pss_cons (ps_asg (pe_tz (pa_cons pe_str (pa_cons (pe_op (k_add K) pe_int (pe_cl C__law_take (hr.mono (by decide)) pass0 (pa_cons (pz 0) (pa_cons pe_int pa_nil)))) pa_nil))) (pg_tzK K (by rfl) (pgs_cz (pg_name (i := 1) sc__law_name.nd rfl (Or.inr rfl)) (pgs_cz (pg_name (i := 2) sc__law_name.nd rfl (Or.inl rfl)) pgs_nz))))
    (pss_cons (ps_if (pt_cmpZ (k_eq K hr.units) (pe_cl C__law_take (hr.mono (by decide)) pass0 (pa_cons (pz 0) (pa_cons pe_int pa_nil))) pe_int (nomark _)) 
      (pss_one (ps_ret (pe_op o_mul (pe_ix (k_ix K) (pz 1) (pe_cl C__law_take (hr.mono (by decide)) pass0 (pa_cons (pz 0) (pa_cons pe_int pa_nil))) (fun _ _ => rfl)) (pz 2)))) pss_nil)
    (pss_one (ps_ret (pe_ms PySem.F.slot_str_join PySem.F.type_str_join (mk_join K) pe_str (pa_cons (pe_lcz (own := [("_law_k", 3)]) (by rfl) sc__law_name.nd (pi_rngZ (by rfl) T.n_range (pa_cons (pz 2) pa_nil)) (blkOk_by (own := [("_law_k", 3)]) (N := N__law_name) (sc := defScope s__law_name) (by decide +kernel)) (fun _ _ _ _ _ => (pg_name (i := 3) sc__law_name.nd rfl (Or.inl rfl))) (fun _ _ _ _ _ => pts_nil) (fun _ _ _ _ _ => (pe_ix (k_ix K) (pz 1) (pe_cl C__law_take (hr.mono (by decide)) pass0 (pa_cons (pz 0) (pa_cons pe_int pa_nil))) (fun _ _ => rfl)))) pa_nil)))))), ?_⟩
  obtain ⟨b, n, rfl, hB, hn, q⟩ := h
  refine ⟨b, 8, n, rfl, rfl, by decide, by decide, hB, by omega, fun r H0 t0 B0 r0 r1 => ?_⟩
  refine ⟨by show 2 ≤ sizeLine; decide, fun p H1 n1 => ?_⟩
  refine ⟨_, SqT.of n1.here, rfl, ?_⟩
  refine ⟨b, 4, n + 1, rfl, rfl, by decide, by decide, B0.same n1.same, by omega, fun r2 H2 t2 B2 r20 r21 => ?_⟩
  have t12 := (t0.nw n1).trans t2
  refine ite2 (fun hw => ?_) (fun hw => ?_)
  · refine ⟨b, 26, n + 2, rfl, rfl, by decide, by decide, B2, by omega, fun r3 H3 t3 B3 r30 r31 => ?_⟩
    obtain ⟨c, e, hc⟩ := low_item r30 r31
    refine ⟨c, by decide, e, ?_⟩
    rw [show (⟨#[c]⟩ : Str) = S [c] from rfl]
    refine ⟨by show _ ≤ 1 + r; omega, by show 1 + r < _; omega, by rw [length_S]; show 1 * (1 + r).toNat ≤ _; omega, ?_⟩
    rw [rep_S, rep_one]
    exact q _ H3 (t12.trans t3) (B3.mono (by omega)) ⟨by rw [List.length_replicate]; show 1 ≤ (1 + r).toNat; omega, by rw [List.length_replicate]; show (1 + r).toNat ≤ 8; omega, fun x hx => by rw [(List.mem_replicate.mp hx).2]; exact hc⟩
  · refine ⟨by show _ ≤ 1 + r; omega, by show 1 + r < _; omega, fun D hD => lc_w (wk_rng 0 (1 + r).toNat) (by rw [rngV_len]; omega)
      (fun i acc H' => ∃ ls : List (List Nat), acc = strsV ls ∧ ls.length = i ∧ (∀ l ∈ ls, l.length = 1 ∧ ∀ c ∈ l, 97 ≤ c ∧ c ≤ 122) ∧ But b H2 H' ∧ BoxAt (n + 2 + i) H' b)
      (fun H4 n4 => ⟨[], rfl, rfl, (fun _ h => by cases h), n4.but, (B2.same n4.same)⟩) (fun _ _ _ _ => trivial) (fun i acc H' ⟨ls, e, l, _⟩ => by rw [e, strsV_len]; omega) ?_ ?_⟩
    · rintro i x acc H4 hx hD4 ⟨ls, rfl, hl, ht, t4, B4⟩
      obtain ⟨hi, rfl⟩ := rngV_at hx
      have nD : D ≠ b := (B2.ne hD).symm
      refine ⟨rfl, ?_⟩
      refine ⟨b, 26, n + 2 + i, rfl, rfl, by decide, by decide, B4, by omega, fun r3 H5 t5 B5 r30 r31 => ?_⟩
      obtain ⟨c, e, hc⟩ := low_item r30 r31
      refine ⟨c, by decide, e, t5.at nD hD4, fun H6 w6 => ?_⟩
      refine ⟨ls ++ [[c]], strsV_app ls [c] ▸ rfl, by rw [List.length_append, hl]; rfl, fun l hl => ?_, (t4.trans t5).wr hD w6, (B5.wr nD.symm w6)⟩
      rcases List.mem_append.mp hl with hl | hl
      · exact ht l hl
      · rw [List.mem_singleton.mp hl]
        exact ⟨rfl, fun x hx => by rw [List.mem_singleton.mp hx]; exact hc⟩
    · rintro acc H4 _ hD4 ⟨ls, rfl, hl, ht, t4, B4⟩
      rw [rngV_len] at hl
      rw [rngV_len] at B4
      have lenF : ls.flatten.length = ls.length := by
        have gen : ∀ ls : List (List Nat), (∀ l ∈ ls, l.length = 1) → ls.flatten.length = ls.length := by
          intro ls
          induction ls with
          | nil => intro _; rfl
          | cons a r ih =>
            intro h
            rw [List.flatten_cons, List.length_append, h a List.mem_cons_self, ih fun l hl => h l (List.mem_cons_of_mem _ hl), List.length_cons]
            omega
        exact gen ls fun l hl => (ht l hl).1
      refine ⟨ls.map S, .inl (SqL.of hD4), ?_, ?_⟩
      · exact joinSz _ (by omega)
      rw [join_flat lit_nil]
      refine q _ H4 (t12.trans t4) (B4.mono (by omega)) ⟨by omega, by omega, fun c hc => ?_⟩
      obtain ⟨l, hl, hc⟩ := List.mem_flatten.mp hc
      exact (ht l hl).2 c hc

/-! ### _law_item(_law_box_here), level 3 -/
abbrev s__law_item : Stmt := top 24
abbrev N__law_item : List Str := ["_law_box_here", "_law_times", "_law_head"]
theorem sc__law_item : FnScope N__law_item ["_law_box_here"] (defScope s__law_item) := ⟨rfl, rfl, rfl, by decide +kernel, rfl, by decide +kernel, by decide +kernel⟩
theorem ok__law_item (C__law_take : Ct P w K mg base CX0 1 "_law_take" ["_law_box_here", "_law_many"] (sp__law_take K)) (C__law_text : Ct P w K mg base CX0 2 "_law_text" ["_law_box_here", "_law_most"] (sp__law_text K)) (C__law_name : Ct P w K mg base CX0 2 "_law_name" ["_law_box_here"] (sp__law_name K)) (D : Df K mg "_law_item" s__law_item ["_law_box_here"]) : Ct P w K mg base CX0 3 "_law_item" ["_law_box_here"] (sp__law_item K) := by
  refine ct1 D sc__law_item fun f cdv A outer s H a_box_here Q E hr h => ⟨_, (pss_cons (ps_set (i := 1) sc__law_item.nd rfl (Or.inl rfl) (pe_lz (pa_cons pe_int (pa_cons pe_int (pa_cons pe_int (pa_cons pe_int (pa_cons (pe_cl C__law_take (hr.mono (by decide)) pass0 (pa_cons (pz 0) (pa_cons pe_int pa_nil))) pa_nil)))))))
    (pss_cons (ps_set (i := 2) sc__law_item.nd rfl (Or.inl rfl) (pe_tz (pa_cons (pe_cl C__law_name (hr.mono (by decide)) pass0 (pa_cons (pz 0) pa_nil)) (pa_cons (pe_cl C__law_name (hr.mono (by decide)) pass0 (pa_cons (pz 0) pa_nil)) (pa_cons (pe_cl C__law_text (hr.mono (by decide)) pass0 (pa_cons (pz 0) (pa_cons pe_int pa_nil))) (pa_cons (pe_cl C__law_take (hr.mono (by decide)) pass0 (pa_cons (pz 0) (pa_cons pe_int pa_nil))) pa_nil))))))
    (pss_one (ps_ret (pe_op (k_add K) (pz 2) (pe_tz (pa_cons (pe_ix (k_ix K) (pz 1) (pe_cl C__law_take (hr.mono (by decide)) pass0 (pa_cons (pz 0) (pa_cons pe_int pa_nil))) (fun _ _ => rfl)) (pa_cons (pe_ix (k_ix K) (pz 1) (pe_cl C__law_take (hr.mono (by decide)) pass0 (pa_cons (pz 0) (pa_cons pe_int pa_nil))) (fun _ _ => rfl)) pa_nil)))))))), ?_⟩
  obtain ⟨b, n, rfl, hB, hn, q⟩ := h
  refine ⟨b, 51, n, rfl, rfl, by decide, by decide, hB, by omega, fun r H1 t1 B1 r0 r1 => ?_⟩
  refine ⟨by show 5 ≤ sizeLine; decide, fun p H2 n2 => ?_⟩
  have nb : p ≠ b := (B1.ne n2.fresh).symm
  refine ⟨b, _, rfl, B1.same n2.same, by omega, fun k1 H3 t3 B3 nm1 => ?_⟩
  refine ⟨b, _, rfl, B3, by omega, fun k2 H4 t4 B4 nm2 => ?_⟩
  refine ⟨b, _, rfl, rfl, B4, by omega, fun tx H5 t5 B5 tt => ?_⟩
  refine ⟨b, 4, _, rfl, rfl, by decide, by decide, B5, by omega, fun i H6 t6 B6 i0 i1 => ?_⟩
  refine ⟨by show 4 ≤ sizeLine; decide, fun hd H7 n7 => ?_⟩
  have t37 := (((t3.trans t4).trans t5).trans t6).nw n7
  have nhb : hd ≠ b := (B6.ne n7.fresh).symm
  have menu : ∀ x : Int, 0 ≤ x → x < 5 → ∃ y : Int, atI [V.int 0, .int 1, .int 49, .int 50, .int r] x = some (.int y) ∧ 0 ≤ y ∧ y ≤ 50 := fun x h0 h1 => by
    obtain ⟨m, hm, hmem⟩ := menuI [0, 1, 49, 50, r] h0 h1
    simp only [List.mem_cons, List.not_mem_nil, or_false] at hmem
    exact ⟨m, hm, by omega⟩
  refine ⟨b, 5, _, rfl, rfl, by decide, by decide, B6.same n7.same, by omega, fun x H8 t8 B8 x0 x1 => ?_⟩
  obtain ⟨y, hy, y0, y1⟩ := menu x x0 x1
  refine ⟨_, _, .inl (SqL.of (t8.at nb (t37.at nb n2.here))), hy, ?_⟩
  refine ⟨b, 5, _, rfl, rfl, by decide, by decide, B8, by omega, fun x' H9 t9 B9 x0' x1' => ?_⟩
  obtain ⟨y', hy', y0', y1'⟩ := menu x' x0' x1'
  refine ⟨_, _, .inl (SqL.of (t9.at nb (t8.at nb (t37.at nb n2.here)))), hy', ?_⟩
  refine ⟨by show 2 ≤ sizeLine; decide, fun tl H10 n10 => ?_⟩
  have h10 := n10.keep (t9.at nhb (t8.at nhb n7.here))
  refine .inr ⟨_, _, SqT.of h10, SqT.of n10.here, by show 6 ≤ sizeLine; decide, (fun z => by cases z), (fun _ z => by cases z), fun _ _ v H11 n11 => ?_⟩
  have to10 : But b H H10 := ((((t1.nw n2).trans t37).trans t8).trans t9).nw n10
  have B10 := B9.same n10.same
  exact q v H11 (to10.free (B10.ne n11.fresh).symm n11.fresh) (to10.nw n11) ((B10.same n11.same).mono (by omega)) ⟨k1, k2, tx, i, y, y', n11.here, nm1, nm2, tt, i0, by omega, y0, y1, y0', y1'⟩

/-! ### _law_within(_law_value, _law_least, _law_most), level 1 -/
abbrev s__law_within : Stmt := top 26
abbrev N__law_within : List Str := ["_law_value", "_law_least", "_law_most"]
theorem sc__law_within : FnScope N__law_within ["_law_value", "_law_least", "_law_most"] (defScope s__law_within) := ⟨rfl, rfl, rfl, by decide +kernel, rfl, by decide +kernel, by decide +kernel⟩
theorem ok__law_within (T : Txt K mg) (D : Df K mg "_law_within" s__law_within ["_law_value", "_law_least", "_law_most"]) : Ct P w K mg base CX0 1 "_law_within" ["_law_value", "_law_least", "_law_most"] (sp__law_within K) := by
  refine ct3 D sc__law_within fun f cdv A outer s H a_value a_least a_most Q E hr h => ⟨_, (pss_one (ps_ret (pe_andZ (pe_callB (k_isi K) (by rfl) T.n_isinstance bt_isinstance (pa_cons (pz 0) (pa_cons (pe_bltn (v := .ty "int") (by rfl) T.n_int bt_int rfl) pa_nil))) (pe_andZ (pe_notZ (pe_callB (k_isi K) (by rfl) T.n_isinstance bt_isinstance (pa_cons (pz 0) (pa_cons (pe_bltn (v := .ty "bool") (by rfl) T.n_bool bt_bool rfl) pa_nil)))) (pe_one (pe_chZ (pe_chain (opr_mon o_le) o_le (pe_mon (pz 1)) (pe_mon (pz 0)) (pz 2)))))))), ?_⟩
  obtain ⟨d, i, j, hd, rfl, rfl, q⟩ := h
  refine ⟨by decide, kindD d, hd.kind, ?_⟩
  cases d with
  | bool b =>
    refine ⟨by decide, _, hd.kind, ?_⟩
    exact q
  | int k =>
    obtain rfl := hd.int
    refine ⟨by decide, _, hd.kind, ?_⟩
    exact within_ch (P := fun v => Q v H) q
  | _ => exact q

/-! ### _law_is_token(_law_value), level 2 -/
abbrev s__law_is_token : Stmt := top 29
abbrev N__law_is_token : List Str := ["_law_value"]
theorem sc__law_is_token : FnScope N__law_is_token ["_law_value"] (defScope s__law_is_token) := ⟨rfl, rfl, rfl, by decide +kernel, rfl, by decide +kernel, by decide +kernel⟩
theorem ok__law_is_token (T : Txt K mg) (C__law_within : Ct P w K mg base CX0 1 "_law_within" ["_law_value", "_law_least", "_law_most"] (sp__law_within K)) (D : Df K mg "_law_is_token" s__law_is_token ["_law_value"]) : Ct P w K mg base CX0 2 "_law_is_token" ["_law_value"] (sp__law_is_token K) := by
  refine ct1 D sc__law_is_token fun f cdv A outer s H a_value Q E hr h => ⟨_, (pss_cons (ps_if (PW.pt (pw_or (pt_not (pt_trK K (pe_callB (k_isi K) (by rfl) T.n_isinstance bt_isinstance (pa_cons (pz 0) (pa_cons (pe_bltn (v := .ty "tuple") (by rfl) T.n_tuple bt_tuple rfl) pa_nil))))) (pw_or1 (pt_cmpZ (k_ne K hr.units) (pe_callB (k_len K) (by rfl) T.n_len bt_len (pa_cons (pz 0) pa_nil)) pe_int (nomark _))))) 
      (pss_one (ps_ret pe_bl)) pss_nil)
    (pss_one (ps_ret (pe_andZ (pe_cl C__law_within (hr.mono (by decide)) pass0 (pa_cons (pe_ix (k_ix K) (pz 0) pe_int (fun _ _ => rfl)) (pa_cons pe_int (pa_cons (pe_op o_sub (pe_op o_pow pe_int pe_int) pe_int) pa_nil)))) (pe_one (pe_cl C__law_within (hr.mono (by decide)) pass0 (pa_cons (pe_ix (k_ix K) (pz 0) pe_int (fun _ _ => rfl)) (pa_cons pe_int (pa_cons (pe_op o_sub (pe_op o_pow pe_int pe_int) pe_int) pa_nil))))))))), ?_⟩
  obtain ⟨d, hd, q⟩ := h
  refine ⟨by decide, kindD d, hd.kind, ?_⟩
  cases d with
  | tuple ds =>
    obtain ⟨g, hd⟩ := hd
    cases hd with
    | @tup a xs _ h hx =>
      have ll := DzAll.len hx
      refine .inl ⟨_, .inr (SqT.of h), ?_⟩
      rcases Nat.decEq xs.length 2 with e | e
      · rw [token_len (by omega)] at q
        exact iteY (int_ne (k := 2) e) q
      · obtain ⟨x0, x1, rfl⟩ := two_of e
        cases hx with
        | @cons _ _ d0 _ h0 hx =>
        cases hx with
        | @cons _ _ d1 _ h1 hx =>
        cases hx
        have q : Q (.bl (within d0 1 999999999999 && within d1 1 999999999999)) H := q
        refine ⟨_, x0, .inr (SqT.of h), rfl, ?_⟩
        refine ⟨⟨by decide, by decide, by decide⟩, ?_⟩
        refine ⟨d0, 1, _, ⟨g, h0⟩, rfl, rfl, ?_⟩
        rw [show ((10 : Int) ^ (12 : Int).toNat - 1) = 999999999999 by decide]
        cases e0 : within d0 1 999999999999 with
        | false =>
          rw [e0] at q
          exact q
        | true =>
          rw [e0] at q
          refine ⟨_, x1, .inr (SqT.of h), rfl, ?_⟩
          refine ⟨⟨by decide, by decide, by decide⟩, ?_⟩
          exact ⟨d1, 1, _, ⟨g, h1⟩, rfl, rfl, q⟩
  | _ => exact q

/-! ### _law_is_body(_law_value), level 1 -/
abbrev s__law_is_body : Stmt := top 28
abbrev N__law_is_body : List Str := ["_law_value", "_law_sign"]
theorem sc__law_is_body : FnScope N__law_is_body ["_law_value"] (defScope s__law_is_body) := ⟨rfl, rfl, rfl, by decide +kernel, rfl, by decide +kernel, by decide +kernel⟩
theorem ok__law_is_body (T : Txt K mg) (D : Df K mg "_law_is_body" s__law_is_body ["_law_value"]) : Ct P w K mg base CX0 1 "_law_is_body" ["_law_value"] (sp__law_is_body K) := by
  refine ct1 D sc__law_is_body fun f cdv A outer s H a_value Q E hr h => ⟨_, (pss_cons (ps_if (PW.pt (pw_or (pt_not (pt_trK K (pe_callB (k_isi K) (by rfl) T.n_isinstance bt_isinstance (pa_cons (pz 0) (pa_cons (pe_bltn (v := .ty "str") (by rfl) T.n_str bt_str rfl) pa_nil))))) (pw_or1 (pt_cmpZ o_gtS (pe_callB (k_len K) (by rfl) T.n_len bt_len (pa_cons (pz 0) pa_nil)) pe_int (nomark _))))) 
      (pss_one (ps_ret pe_bl)) pss_nil)
    (pss_one (ps_ret (pe_cmpR (k_eq K hr.units) (pe_lcz (own := [("_law_sign", 1)]) (by rfl) sc__law_is_body.nd (pi_sz (pz 0)) (blkOk_by (own := [("_law_sign", 1)]) (N := N__law_is_body) (sc := defScope s__law_is_body) (by decide +kernel)) (fun _ _ _ _ _ => (pg_name (i := 1) sc__law_is_body.nd rfl (Or.inl rfl))) (fun _ _ _ _ _ => (pts_one (PW.pt (pw_or (pt_cmpZ o_ltS (pz 1) pe_str (nomark _)) (pw_or1 (pt_cmpZ o_gtS (pz 1) pe_str (nomark _))))))) (fun _ _ _ _ _ => (pz 1))) (pe_lz pa_nil) (nomark _))))), ?_⟩
  obtain ⟨d, hd, ha, q⟩ := h
  refine ⟨by decide, kindD d, hd.kind, ?_⟩
  cases d with
  | str x =>
    obtain rfl := hd.str
    have hz := (Bool.and_eq_true _ _ ▸ ha : asciiS x = true ∧ _)
    have hx : x.length ≤ 100000 := of_decide_eq_true hz.2
    have hlen : x.length = x.cps.toList.length := by rw [Array.length_toList]; rfl
    refine ⟨sz (by omega), ?_⟩
    refine ite2 (fun h1 => ?_) (fun h1 => ?_)
    · have h1' : (x.length : Int) > 40 := dT h1
      have e : plainD 40 (.str x) = false := by
        show (prS x && decide (x.length ≤ 40)) = false
        rw [decide_eq_false (p := x.length ≤ 40) (by omega), Bool.and_false]
      rw [e] at q
      exact q H (Same.refl H)
    · have h1' : ¬ (x.length : Int) > 40 := dF h1

      refine fun D hD => lc_w (wk_str x) (by rw [signsV_len]; omega) (fun i acc H3 => Same H H3 ∧ acc = ((x.cps.toList.take i).filter fun c => !prt c).map signV) (fun H3 n3 => ⟨n3.same, rfl⟩) (fun _ _ _ _ => trivial)
        (fun i acc H3 p => by rw [p.2, List.length_map]; exact Nat.le_trans (List.length_filter_le _ _) (by rw [List.length_take]; omega)) ?_ ?_
      · rintro i y acc H3 hx' hD3 ⟨s3, rfl⟩
        obtain ⟨c, hc, rfl⟩ := signsV_at hx'
        refine ⟨rfl, ?_⟩
        rw [filter_step hc]
        refine ite2 (fun h => ?_) (fun h => ?_)
        · have h' : c < 32 := lt_sp.mp (dT h)
          have e : prt c = false := by
            unfold prt
            rw [decide_eq_false (by omega)]
            rfl
          rw [e]
          exact ⟨hD3, fun H5 w5 => ⟨s3.wr hD w5, by simp⟩⟩
        · have h' : ¬ c < 32 := fun z => dF h (lt_sp.mpr z)
          refine ite2 (fun h => ?_) (fun h => ?_)
          · have h2 : 126 < c := gt_tl.mp (dT h)
            have e : prt c = false := by
              unfold prt
              rw [decide_eq_false (p := c ≤ 126) (by omega), Bool.and_false]
            rw [e]
            exact ⟨hD3, fun H5 w5 => ⟨s3.wr hD w5, by simp⟩⟩
          · have h2 : ¬ 126 < c := fun z => dF h (gt_tl.mpr z)
            have e : prt c = true := by
              unfold prt
              rw [decide_eq_true (p := 32 ≤ c) (by omega), decide_eq_true (p := c ≤ 126) (by omega)]
              rfl
            rw [e]
            exact ⟨hD3, s3, by simp⟩
      · rintro acc H3 _ hD3 ⟨s3, rfl⟩
        rw [signsV_len, hlen, List.take_length] at hD3
        have dg : (x.cps.toList.filter fun c => !prt c).isEmpty = x.cps.toList.all prt := filter_none _
        have lt : ∀ c ∈ x.cps.toList.filter (fun c => !prt c), c < 128 := fun c hc => lt_of_ascii hz.1 (List.mem_filter.mp hc).1
        generalize x.cps.toList.filter (fun c => !prt c) = bads at hD3 dg lt
        rw [signs_strs] at hD3
        refine ⟨Nat.zero_le _, fun p H4 n4 => ?_⟩
        refine ⟨_, _, dp_strs (SqL.of (n4.keep hD3)), dp_strs (ls := []) (SqL.of n4.here), shaped_asc lt, shaped_asc (cs := []) (fun _ z => by cases z), ?_⟩
        rw [eqv_strs_nil, dg]
        have e : plainD 40 (.str x) = x.cps.toList.all prt := by
          show (prS x && decide (x.length ≤ 40)) = _
          rw [decide_eq_true (p := x.length ≤ 40) (by omega), Bool.and_true]
          rfl
        rw [e] at q
        rw [← Bool.false_xor (x.cps.toList.all _)] at q
        exact q _ (s3.trans n4.same)
  | _ => exact q H (Same.refl H)

/-! ### _law_is_name(_law_value), level 1 -/
abbrev s__law_is_name : Stmt := top 27
abbrev N__law_is_name : List Str := ["_law_value", "_law_sign"]
theorem sc__law_is_name : FnScope N__law_is_name ["_law_value"] (defScope s__law_is_name) := ⟨rfl, rfl, rfl, by decide +kernel, rfl, by decide +kernel, by decide +kernel⟩
theorem ok__law_is_name (T : Txt K mg) (D : Df K mg "_law_is_name" s__law_is_name ["_law_value"]) : Ct P w K mg base CX0 1 "_law_is_name" ["_law_value"] (sp__law_is_name K) := by
  refine ct1 D sc__law_is_name fun f cdv A outer s H a_value Q E hr h => ⟨_, (pss_cons (ps_if (PW.pt (pw_or (pt_not (pt_trK K (pe_callB (k_isi K) (by rfl) T.n_isinstance bt_isinstance (pa_cons (pz 0) (pa_cons (pe_bltn (v := .ty "str") (by rfl) T.n_str bt_str rfl) pa_nil))))) (pw_or (pt_cmpZ o_ltS (pe_callB (k_len K) (by rfl) T.n_len bt_len (pa_cons (pz 0) pa_nil)) pe_int (nomark _)) (pw_or1 (pt_cmpZ o_gtS (pe_callB (k_len K) (by rfl) T.n_len bt_len (pa_cons (pz 0) pa_nil)) pe_int (nomark _)))))) 
      (pss_one (ps_ret pe_bl)) pss_nil)
    (pss_one (ps_ret (pe_cmpR (k_eq K hr.units) (pe_lcz (own := [("_law_sign", 1)]) (by rfl) sc__law_is_name.nd (pi_sz (pz 0)) (blkOk_by (own := [("_law_sign", 1)]) (N := N__law_is_name) (sc := defScope s__law_is_name) (by decide +kernel)) (fun _ _ _ _ _ => (pg_name (i := 1) sc__law_is_name.nd rfl (Or.inl rfl))) (fun _ _ _ _ _ => (pts_one (pt_cmpZ (k_nin K) (pz 1) pe_str (by rfl)))) (fun _ _ _ _ _ => (pz 1))) (pe_lz pa_nil) (nomark _))))), ?_⟩
  obtain ⟨d, hd, ha, q⟩ := h
  refine ⟨by decide, kindD d, hd.kind, ?_⟩
  cases d with
  | str x =>
    obtain rfl := hd.str
    have hz := (Bool.and_eq_true _ _ ▸ ha : asciiS x = true ∧ _)
    have hx : x.length ≤ 100000 := of_decide_eq_true hz.2
    have hlen : x.length = x.cps.toList.length := by rw [Array.length_toList]; rfl
    refine ⟨sz (by omega), ?_⟩
    refine ite2 (fun h1 => ?_) (fun h1 => ?_)
    · have h1' : (x.length : Int) < 1 := dT h1
      have e : nameD (.str x) = false := by
        show (decide (1 ≤ x.length) && decide (x.length ≤ 8) && lowS x) = false
        rw [decide_eq_false (p := 1 ≤ x.length) (by omega)]
        rfl
      rw [e] at q
      exact q H (Same.refl H)
    have h1' : ¬ (x.length : Int) < 1 := dF h1
    refine ⟨sz (by omega), ?_⟩
    refine ite2 (fun h8 => ?_) (fun h8 => ?_)
    · have h8' : (x.length : Int) > 8 := dT h8
      have e : nameD (.str x) = false := by
        show (decide (1 ≤ x.length) && decide (x.length ≤ 8) && lowS x) = false
        rw [decide_eq_false (p := x.length ≤ 8) (by omega), Bool.and_false]
        rfl
      rw [e] at q
      exact q H (Same.refl H)
    · have h8' : ¬ (x.length : Int) > 8 := dF h8

      refine fun D hD => lc_w (wk_str x) (by rw [signsV_len]; omega) (fun i acc H3 => Same H H3 ∧ acc = ((x.cps.toList.take i).filter fun c => !low c).map signV) (fun H3 n3 => ⟨n3.same, rfl⟩) (fun _ _ _ _ => trivial)
        (fun i acc H3 p => by rw [p.2, List.length_map]; exact Nat.le_trans (List.length_filter_le _ _) (by rw [List.length_take]; omega)) ?_ ?_
      · rintro i y acc H3 hx' hD3 ⟨s3, rfl⟩
        obtain ⟨c, hc, rfl⟩ := signsV_at hx'
        refine ⟨rfl, ?_⟩
        refine ⟨c, rfl, ?_⟩
        rw [low_in, filter_step hc]
        cases e : low c with
        | true => exact ⟨hD3, s3, by simp⟩
        | false => exact ⟨hD3, fun H5 w5 => ⟨s3.wr hD w5, by simp⟩⟩
      · rintro acc H3 _ hD3 ⟨s3, rfl⟩
        rw [signsV_len, hlen, List.take_length] at hD3
        have dg : (x.cps.toList.filter fun c => !low c).isEmpty = x.cps.toList.all low := filter_none _
        have lt : ∀ c ∈ x.cps.toList.filter (fun c => !low c), c < 128 := fun c hc => lt_of_ascii hz.1 (List.mem_filter.mp hc).1
        generalize x.cps.toList.filter (fun c => !low c) = bads at hD3 dg lt
        rw [signs_strs] at hD3
        refine ⟨Nat.zero_le _, fun p H4 n4 => ?_⟩
        refine ⟨_, _, dp_strs (SqL.of (n4.keep hD3)), dp_strs (ls := []) (SqL.of n4.here), shaped_asc lt, shaped_asc (cs := []) (fun _ z => by cases z), ?_⟩
        rw [eqv_strs_nil, dg]
        have e : nameD (.str x) = x.cps.toList.all low := by
          show (decide (1 ≤ x.length) && decide (x.length ≤ 8) && lowS x) = _
          rw [decide_eq_true (p := 1 ≤ x.length) (by omega), decide_eq_true (p := x.length ≤ 8) (by omega)]
          rfl
        rw [e] at q
        rw [← Bool.false_xor (x.cps.toList.all _)] at q
        exact q _ (s3.trans n4.same)
  | _ => exact q H (Same.refl H)

/-! ### _law_is_item(_law_value), level 2 -/
abbrev s__law_is_item : Stmt := top 30
abbrev N__law_is_item : List Str := ["_law_value"]
theorem sc__law_is_item : FnScope N__law_is_item ["_law_value"] (defScope s__law_is_item) := ⟨rfl, rfl, rfl, by decide +kernel, rfl, by decide +kernel, by decide +kernel⟩
theorem ok__law_is_item (T : Txt K mg) (C__law_is_body : Ct P w K mg base CX0 1 "_law_is_body" ["_law_value"] (sp__law_is_body K)) (C__law_is_name : Ct P w K mg base CX0 1 "_law_is_name" ["_law_value"] (sp__law_is_name K)) (C__law_within : Ct P w K mg base CX0 1 "_law_within" ["_law_value", "_law_least", "_law_most"] (sp__law_within K)) (D : Df K mg "_law_is_item" s__law_is_item ["_law_value"]) : Ct P w K mg base CX0 2 "_law_is_item" ["_law_value"] (sp__law_is_item K) := by
  refine ct1 D sc__law_is_item fun f cdv A outer s H a_value Q E hr h => ⟨_, (pss_cons (ps_if (PW.pt (pw_or (pt_not (pt_trK K (pe_callB (k_isi K) (by rfl) T.n_isinstance bt_isinstance (pa_cons (pz 0) (pa_cons (pe_bltn (v := .ty "tuple") (by rfl) T.n_tuple bt_tuple rfl) pa_nil))))) (pw_or1 (pt_cmpZ (k_ne K hr.units) (pe_callB (k_len K) (by rfl) T.n_len bt_len (pa_cons (pz 0) pa_nil)) pe_int (nomark _))))) 
      (pss_one (ps_ret pe_bl)) pss_nil)
    (pss_cons (ps_if (PW.pt (pw_or (pt_not (pt_trK K (pe_cl C__law_is_name (hr.mono (by decide)) pass0 (pa_cons (pe_ix (k_ix K) (pz 0) pe_int (fun _ _ => rfl)) pa_nil)))) (pw_or (pt_not (pt_trK K (pe_cl C__law_is_name (hr.mono (by decide)) pass0 (pa_cons (pe_ix (k_ix K) (pz 0) pe_int (fun _ _ => rfl)) pa_nil)))) (pw_or1 (pt_not (pt_trK K (pe_cl C__law_is_body (hr.mono (by decide)) pass0 (pa_cons (pe_ix (k_ix K) (pz 0) pe_int (fun _ _ => rfl)) pa_nil)))))))) 
      (pss_one (ps_ret pe_bl)) pss_nil)
    (pss_one (ps_ret (pe_andZ (pe_cl C__law_within (hr.mono (by decide)) pass0 (pa_cons (pe_ix (k_ix K) (pz 0) pe_int (fun _ _ => rfl)) (pa_cons pe_int (pa_cons pe_int pa_nil)))) (pe_andZ (pe_cl C__law_within (hr.mono (by decide)) pass0 (pa_cons (pe_ix (k_ix K) (pz 0) pe_int (fun _ _ => rfl)) (pa_cons pe_int (pa_cons pe_int pa_nil)))) (pe_one (pe_cl C__law_within (hr.mono (by decide)) pass0 (pa_cons (pe_ix (k_ix K) (pz 0) pe_int (fun _ _ => rfl)) (pa_cons pe_int (pa_cons pe_int pa_nil))))))))))), ?_⟩
  obtain ⟨d, hd, ha, q⟩ := h
  refine ⟨by decide, kindD d, hd.kind, ?_⟩
  cases d with
  | tuple ds =>
    obtain ⟨g, hd⟩ := hd
    cases hd with
    | @tup a xs _ h hx =>
      have ll := DzAll.len hx
      refine .inl ⟨_, .inr (SqT.of h), ?_⟩
      rcases Nat.decEq xs.length 6 with e | e
      · rw [item_len (by omega)] at q
        exact iteY (int_ne (k := 6) e) (q H (Same.refl H))
      · obtain ⟨x0, x1, x2, x3, x4, x5, rfl⟩ := six_of e
        cases hx with
        | @cons _ _ d0 _ h0 hx =>
        cases hx with
        | @cons _ _ d1 _ h1 hx =>
        cases hx with
        | @cons _ _ d2 _ h2 hx =>
        cases hx with
        | @cons _ _ d3 _ h3 hx =>
        cases hx with
        | @cons _ _ d4 _ h4 hx =>
        cases hx with
        | @cons _ _ d5 _ h5 hx =>
        cases hx
        have ha : (asc1 d0 && (asc1 d1 && (asc1 d2 && (asc1 d3 && (asc1 d4 && (asc1 d5 && true)))))) = true := ha
        simp only [Bool.and_eq_true] at ha
        obtain ⟨a0, a1, a2, _⟩ := ha
        have q : ∀ H2, Same H H2 → Q (.bl (nameD d0 && nameD d1 && plainD 40 d2 && within d3 0 3 && within d4 0 50 && within d5 0 50)) H2 := q
        refine ⟨_, x0, .inr (SqT.of h), rfl, ?_⟩
        refine ⟨d0, ⟨g, h0⟩, a0, fun H2 s2 => ?_⟩
        cases e0 : nameD d0 with
        | false =>
          rw [e0] at q
          exact q _ s2
        | true =>
        refine ⟨_, x1, .inr (SqT.of (s2 _ _ h)), rfl, ?_⟩
        refine ⟨d1, ⟨g, Dz.same s2 h1⟩, a1, fun H3 s3 => ?_⟩
        have s13 := s2.trans s3
        cases e1 : nameD d1 with
        | false =>
          rw [e0, e1] at q
          exact q _ s13
        | true =>
        refine ⟨_, x2, .inr (SqT.of (s13 _ _ h)), rfl, ?_⟩
        refine ⟨d2, ⟨g, Dz.same s13 h2⟩, a2, fun H4 s4 => ?_⟩
        have s14 := s13.trans s4
        have h14 := s14 _ _ h
        cases e2 : plainD 40 d2 with
        | false =>
          rw [e0, e1, e2] at q
          exact q _ s14
        | true =>
        rw [e0, e1, e2] at q
        refine ⟨_, x3, .inr (SqT.of h14), rfl, ?_⟩
        refine ⟨d3, 0, 3, ⟨g, Dz.same s14 h3⟩, rfl, rfl, ?_⟩
        cases e3 : within d3 0 3 with
        | false =>
          rw [e3] at q
          exact q _ s14
        | true =>
        rw [e3] at q
        refine ⟨_, x4, .inr (SqT.of h14), rfl, ?_⟩
        refine ⟨d4, 0, 50, ⟨g, Dz.same s14 h4⟩, rfl, rfl, ?_⟩
        cases e4 : within d4 0 50 with
        | false =>
          rw [e4] at q
          exact q _ s14
        | true =>
        rw [e4] at q
        refine ⟨_, x5, .inr (SqT.of h14), rfl, ?_⟩
        exact ⟨d5, 0, 50, ⟨g, Dz.same s14 h5⟩, rfl, rfl, q _ s14⟩
  | _ => exact q H (Same.refl H)

/-! ### _law_told(_law_answer, _law_due), level 1 -/
abbrev s__law_told : Stmt := top 33
abbrev N__law_told : List Str := ["_law_answer", "_law_due"]
theorem sc__law_told : FnScope N__law_told ["_law_answer", "_law_due"] (defScope s__law_told) := ⟨rfl, rfl, rfl, by decide +kernel, rfl, by decide +kernel, by decide +kernel⟩
theorem ok__law_told (D : Df K mg "_law_told" s__law_told ["_law_answer", "_law_due"]) : Ct P w K mg base CX0 1 "_law_told" ["_law_answer", "_law_due"] (sp__law_told K) := by
  refine ct2 D sc__law_told fun f cdv A outer s H a_answer a_due Q E hr h => ⟨_, (pss_one (ps_ret (pe_ifExp (pt_trK K (pz 1)) (pe_cmpR o_is (pz 0) pe_bl (nomark _)) (pe_cmpR o_is (pz 0) pe_bl (nomark _))))), ?_⟩
  obtain ⟨a, b, rfl, rfl, q⟩ := h
  cases b with
  | true =>
    show Q (.bl (false ^^ decide (a = true))) H
    cases a <;> exact q
  | false =>
    show Q (.bl (false ^^ decide (a = false))) H
    cases a <;> exact q

/-! ### is_signs(value), level 1 -/
abbrev s_is_signs : Stmt := top 3
abbrev N_is_signs : List Str := ["value"]
theorem sc_is_signs : FnScope N_is_signs ["value"] (defScope s_is_signs) := ⟨rfl, rfl, rfl, by decide +kernel, rfl, by decide +kernel, by decide +kernel⟩
theorem ok_is_signs (T : Txt K mg) (D : Df K mg "is_signs" s_is_signs ["value"]) : Ct P w K mg base CX0 1 "is_signs" ["value"] (sp_is_signs K) := by
  refine ct1 D sc_is_signs fun f cdv A outer s H a_value Q E hr h => ⟨_, (pss_one (ps_ret (pe_andZ (pe_callB (k_isi K) (by rfl) T.n_isinstance bt_isinstance (pa_cons (pz 0) (pa_cons (pe_bltn (v := .ty "str") (by rfl) T.n_str bt_str rfl) pa_nil))) (pe_andZ (pe_ms0 PySem.F.slot_str_isascii PySem.F.type_str_isascii m_isascii (pz 0)) (pe_one (pe_ms0 PySem.F.slot_str_isprintable PySem.F.type_str_isprintable m_isprintable (pz 0))))))), ?_⟩
  obtain ⟨d, hd, ha, q⟩ := h
  refine ⟨by decide, kindD d, hd.kind, ?_⟩
  cases d with
  | str x =>
    obtain rfl := hd.str
    have hx := (Bool.and_eq_true _ _ ▸ ha : asciiS x = true ∧ _).1
    refine iteY (isascii_D hx) ?_
    show Q (.bl (Txt.isprintable x)) H
    rw [isprintable_D hx]
    exact q
  | _ => exact q

/-! ### is_plain(value), level 2 -/
abbrev s_is_plain : Stmt := top 8
abbrev N_is_plain : List Str := ["value"]
theorem sc_is_plain : FnScope N_is_plain ["value"] (defScope s_is_plain) := ⟨rfl, rfl, rfl, by decide +kernel, rfl, by decide +kernel, by decide +kernel⟩
theorem ok_is_plain (T : Txt K mg) (C_is_signs : Ct P w K mg base CX0 1 "is_signs" ["value"] (sp_is_signs K)) (D : Df K mg "is_plain" s_is_plain ["value"]) : Ct P w K mg base CX0 2 "is_plain" ["value"] (sp_is_plain K) := by
  refine ct1 D sc_is_plain fun f cdv A outer s H a_value Q E hr h => ⟨_, (pss_one (ps_ret (pe_andZ (pe_cl C_is_signs (hr.mono (by decide)) pass0 (pa_cons (pz 0) pa_nil)) (pe_one (pe_cmpR o_le (pe_callB (k_len K) (by rfl) T.n_len bt_len (pa_cons (pz 0) pa_nil)) (pe_gk T.c_MOST_PLAIN) (nomark _)))))), ?_⟩
  obtain ⟨d, hd, ha, q⟩ := h
  refine ⟨d, hd, ha, ?_⟩
  cases d with
  | str x =>
    obtain rfl := hd.str
    have hx : x.length ≤ 100000 := of_decide_eq_true (Bool.and_eq_true _ _ ▸ ha : asciiS x = true ∧ _).2
    have q : Q (.bl (prS x && decide (x.length ≤ 60))) H := q
    cases hp : prS x with
    | false =>
      rw [hp] at q
      exact iteN hp q
    | true =>
      rw [hp] at q
      refine iteY hp ?_
      refine ⟨sz (by omega), ?_⟩
      show Q (.bl (decide ((x.length : Int) ≤ 60))) H
      rw [show decide ((x.length : Int) ≤ 60) = (true && decide (x.length ≤ 60)) by simp; omega]
      exact q
  | _ => exact q

/-! ### is_body(value), level 3 -/
abbrev s_is_body : Stmt := top 14
abbrev N_is_body : List Str := ["value"]
theorem sc_is_body : FnScope N_is_body ["value"] (defScope s_is_body) := ⟨rfl, rfl, rfl, by decide +kernel, rfl, by decide +kernel, by decide +kernel⟩
theorem ok_is_body (T : Txt K mg) (C_is_plain : Ct P w K mg base CX0 2 "is_plain" ["value"] (sp_is_plain K)) (D : Df K mg "is_body" s_is_body ["value"]) : Ct P w K mg base CX0 3 "is_body" ["value"] (sp_is_body K) := by
  refine ct1 D sc_is_body fun f cdv A outer s H a_value Q E hr h => ⟨_, (pss_one (ps_ret (pe_andZ (pe_cl C_is_plain (hr.mono (by decide)) pass0 (pa_cons (pz 0) pa_nil)) (pe_one (pe_cmpR o_le (pe_callB (k_len K) (by rfl) T.n_len bt_len (pa_cons (pz 0) pa_nil)) (pe_gk T.c_MOST_BODY) (nomark _)))))), ?_⟩
  obtain ⟨d, hd, ha, q⟩ := h
  refine ⟨d, hd, ha, ?_⟩
  cases d with
  | str x =>
    obtain rfl := hd.str
    have hx : x.length ≤ 100000 := of_decide_eq_true (Bool.and_eq_true _ _ ▸ ha : asciiS x = true ∧ _).2
    have q : Q (.bl (prS x && decide (x.length ≤ 40))) H := q
    cases hp : (prS x && decide (x.length ≤ 60)) with
    | false =>
      refine iteN hp ?_
      rw [show (prS x && decide (x.length ≤ 40)) = false by
        rw [Bool.and_eq_false_iff] at hp ⊢
        rcases hp with h | h
        · exact .inl h
        · exact .inr (by simp at h ⊢; omega)] at q
      exact q
    | true =>
      refine iteY hp ?_
      rw [Bool.and_eq_true] at hp
      rw [hp.1] at q
      refine ⟨sz (by omega), ?_⟩
      show Q (.bl (decide ((x.length : Int) ≤ 40))) H
      rw [show decide ((x.length : Int) ≤ 40) = (true && decide (x.length ≤ 40)) by simp; omega]
      exact q
  | _ => exact q

/-! ### is_name(value), level 2 -/
abbrev s_is_name : Stmt := top 7
abbrev N_is_name : List Str := ["value"]
theorem sc_is_name : FnScope N_is_name ["value"] (defScope s_is_name) := ⟨rfl, rfl, rfl, by decide +kernel, rfl, by decide +kernel, by decide +kernel⟩
theorem ok_is_name (T : Txt K mg) (C_is_signs : Ct P w K mg base CX0 1 "is_signs" ["value"] (sp_is_signs K)) (D : Df K mg "is_name" s_is_name ["value"]) : Ct P w K mg base CX0 2 "is_name" ["value"] (sp_is_name K) := by
  refine ct1 D sc_is_name fun f cdv A outer s H a_value Q E hr h => ⟨_, (pss_one (ps_ret (pe_andZ (pe_cl C_is_signs (hr.mono (by decide)) pass0 (pa_cons (pz 0) pa_nil)) (pe_andZ (pe_cmpR o_le (pe_callB (k_len K) (by rfl) T.n_len bt_len (pa_cons (pz 0) pa_nil)) (pe_gk T.c_MOST_NAME) (nomark _)) (pe_andZ (pe_ms0 PySem.F.slot_str_isalpha PySem.F.type_str_isalpha m_isalpha (pz 0)) (pe_one (pe_ms0 PySem.F.slot_str_islower PySem.F.type_str_islower m_islower (pz 0)))))))), ?_⟩
  obtain ⟨d, hd, ha, q⟩ := h
  refine ⟨d, hd, ha, ?_⟩
  cases d with
  | str x =>
    obtain rfl := hd.str
    have hz := (Bool.and_eq_true _ _ ▸ ha : asciiS x = true ∧ _)
    have hx : x.length ≤ 100000 := of_decide_eq_true hz.2
    rw [← name_law hz.1] at q
    cases hp : prS x with
    | false =>
      rw [hp] at q
      exact iteN hp q
    | true =>
      rw [hp] at q
      refine iteY hp ?_
      refine ⟨sz (by omega), ?_⟩
      refine ite2 (fun h8 => ?_) (fun h8 => ?_)
      · have h8' : (x.length : Int) ≤ 8 := dT h8
        rw [show decide (x.length ≤ 8) = true from decide_eq_true (by omega)] at q
        cases hi : Txt.isalpha x with
        | false =>
          rw [hi] at q
          exact iteN hi q
        | true =>
          rw [hi] at q
          exact iteY hi q
      · have h8' : ¬ (x.length : Int) ≤ 8 := dF h8
        rw [show decide (x.length ≤ 8) = false from decide_eq_false (by omega)] at q
        exact q
  | _ => exact q

/-! ### is_integer(value), level 1 -/
abbrev s_is_integer : Stmt := top 1
abbrev N_is_integer : List Str := ["value"]
theorem sc_is_integer : FnScope N_is_integer ["value"] (defScope s_is_integer) := ⟨rfl, rfl, rfl, by decide +kernel, rfl, by decide +kernel, by decide +kernel⟩
theorem ok_is_integer (T : Txt K mg) (D : Df K mg "is_integer" s_is_integer ["value"]) : Ct P w K mg base CX0 1 "is_integer" ["value"] (sp_is_integer K) := by
  refine ct1 D sc_is_integer fun f cdv A outer s H a_value Q E hr h => ⟨_, (pss_one (ps_ret (pe_andZ (pe_callB (k_isi K) (by rfl) T.n_isinstance bt_isinstance (pa_cons (pz 0) (pa_cons (pe_bltn (v := .ty "int") (by rfl) T.n_int bt_int rfl) pa_nil))) (pe_one (pe_notZ (pe_callB (k_isi K) (by rfl) T.n_isinstance bt_isinstance (pa_cons (pz 0) (pa_cons (pe_bltn (v := .ty "bool") (by rfl) T.n_bool bt_bool rfl) pa_nil)))))))), ?_⟩
  obtain ⟨d, hd, q⟩ := h
  refine ⟨by decide, kindD d, hd.kind, ?_⟩
  cases d with
  | bool b =>
    refine ⟨by decide, _, hd.kind, ?_⟩
    exact q
  | int i =>
    refine ⟨by decide, _, hd.kind, ?_⟩
    exact q
  | _ => exact q

/-! ### is_within(value, least, most), level 2 -/
abbrev s_is_within : Stmt := top 2
abbrev N_is_within : List Str := ["value", "least", "most"]
theorem sc_is_within : FnScope N_is_within ["value", "least", "most"] (defScope s_is_within) := ⟨rfl, rfl, rfl, by decide +kernel, rfl, by decide +kernel, by decide +kernel⟩
theorem ok_is_within (C_is_integer : Ct P w K mg base CX0 1 "is_integer" ["value"] (sp_is_integer K)) (D : Df K mg "is_within" s_is_within ["value", "least", "most"]) : Ct P w K mg base CX0 2 "is_within" ["value", "least", "most"] (sp_is_within K) := by
  refine ct3 D sc_is_within fun f cdv A outer s H a_value a_least a_most Q E hr h => ⟨_, (pss_one (ps_ret (pe_andZ (pe_cl C_is_integer (hr.mono (by decide)) pass0 (pa_cons (pz 0) pa_nil)) (pe_one (pe_chZ (pe_chain (opr_mon o_le) o_le (pe_mon (pz 1)) (pe_mon (pz 0)) (pz 2))))))), ?_⟩
  obtain ⟨d, i, j, hd, rfl, rfl, q⟩ := h
  refine ⟨d, hd, ?_⟩
  cases d with
  | int k =>
    obtain rfl := hd.int
    exact within_ch (P := fun v => Q v H) q
  | _ => exact q

/-! ### is_item(value), level 4 -/
abbrev s_is_item : Stmt := top 17
abbrev N_is_item : List Str := ["value", "topic", "key", "body", "priority", "delay", "span"]
theorem sc_is_item : FnScope N_is_item ["value"] (defScope s_is_item) := ⟨rfl, rfl, rfl, by decide +kernel, rfl, by decide +kernel, by decide +kernel⟩
theorem ok_is_item (T : Txt K mg) (C_is_body : Ct P w K mg base CX0 3 "is_body" ["value"] (sp_is_body K)) (C_is_name : Ct P w K mg base CX0 2 "is_name" ["value"] (sp_is_name K)) (C_is_within : Ct P w K mg base CX0 2 "is_within" ["value", "least", "most"] (sp_is_within K)) (D : Df K mg "is_item" s_is_item ["value"]) : Ct P w K mg base CX0 4 "is_item" ["value"] (sp_is_item K) := by
  refine ct1 D sc_is_item fun f cdv A outer s H a_value Q E hr h => ⟨_, (pss_cons (ps_if (PW.pt (pw_or (pt_not (pt_trK K (pe_callB (k_isi K) (by rfl) T.n_isinstance bt_isinstance (pa_cons (pz 0) (pa_cons (pe_bltn (v := .ty "tuple") (by rfl) T.n_tuple bt_tuple rfl) pa_nil))))) (pw_or1 (pt_cmpZ (k_ne K hr.units) (pe_callB (k_len K) (by rfl) T.n_len bt_len (pa_cons (pz 0) pa_nil)) pe_int (nomark _))))) 
      (pss_one (ps_ret pe_bl)) pss_nil)
    (pss_cons (ps_asg (pz 0) (pg_tzK K (by rfl) (pgs_cz (pg_name (i := 1) sc_is_item.nd rfl (Or.inl rfl)) (pgs_cz (pg_name (i := 2) sc_is_item.nd rfl (Or.inl rfl)) (pgs_cz (pg_name (i := 3) sc_is_item.nd rfl (Or.inl rfl)) (pgs_cz (pg_name (i := 4) sc_is_item.nd rfl (Or.inl rfl)) (pgs_cz (pg_name (i := 5) sc_is_item.nd rfl (Or.inl rfl)) (pgs_cz (pg_name (i := 6) sc_is_item.nd rfl (Or.inl rfl)) pgs_nz))))))))
    (pss_cons (ps_if (PW.pt (pw_or (pt_not (pt_trK K (pe_cl C_is_name (hr.mono (by decide)) pass0 (pa_cons (pz 1) pa_nil)))) (pw_or (pt_not (pt_trK K (pe_cl C_is_name (hr.mono (by decide)) pass0 (pa_cons (pz 2) pa_nil)))) (pw_or1 (pt_not (pt_trK K (pe_cl C_is_body (hr.mono (by decide)) pass0 (pa_cons (pz 3) pa_nil)))))))) 
      (pss_one (ps_ret pe_bl)) pss_nil)
    (pss_one (ps_ret (pe_andZ (pe_cl C_is_within (hr.mono (by decide)) pass0 (pa_cons (pz 4) (pa_cons pe_int (pa_cons (pe_gk T.c_MOST_PRIORITY) pa_nil)))) (pe_andZ (pe_cl C_is_within (hr.mono (by decide)) pass0 (pa_cons (pz 5) (pa_cons pe_int (pa_cons (pe_gk T.c_MOST_TICKS) pa_nil)))) (pe_one (pe_cl C_is_within (hr.mono (by decide)) pass0 (pa_cons (pz 6) (pa_cons pe_int (pa_cons (pe_gk T.c_MOST_TICKS) pa_nil)))))))))))), ?_⟩
  obtain ⟨d, hd, ha, q⟩ := h
  refine ⟨by decide, kindD d, hd.kind, ?_⟩
  cases d with
  | tuple ds =>
    obtain ⟨g, hd⟩ := hd
    cases hd with
    | @tup a xs _ h hx =>
      have ll := DzAll.len hx
      refine .inl ⟨_, .inr (SqT.of h), ?_⟩
      rcases Nat.decEq xs.length 6 with e | e
      · rw [item_len (by omega)] at q
        exact iteY (int_ne (k := 6) e) q
      · obtain ⟨x0, x1, x2, x3, x4, x5, rfl⟩ := six_of e
        cases hx with
        | @cons _ _ d0 _ h0 hx =>
        cases hx with
        | @cons _ _ d1 _ h1 hx =>
        cases hx with
        | @cons _ _ d2 _ h2 hx =>
        cases hx with
        | @cons _ _ d3 _ h3 hx =>
        cases hx with
        | @cons _ _ d4 _ h4 hx =>
        cases hx with
        | @cons _ _ d5 _ h5 hx =>
        cases hx
        have ha : (asc1 d0 && (asc1 d1 && (asc1 d2 && (asc1 d3 && (asc1 d4 && (asc1 d5 && true)))))) = true := ha
        simp only [Bool.and_eq_true] at ha
        obtain ⟨a0, a1, a2, _⟩ := ha
        have q : Q (.bl (nameD d0 && nameD d1 && plainD 40 d2 && within d3 0 3 && within d4 0 50 && within d5 0 50)) H := q
        refine ⟨_, SqT.of h, rfl, ?_⟩
        refine ⟨d0, ⟨g, h0⟩, a0, ?_⟩
        cases e0 : nameD d0 with
        | false =>
          rw [e0] at q
          exact q
        | true =>
        refine ⟨d1, ⟨g, h1⟩, a1, ?_⟩
        cases e1 : nameD d1 with
        | false =>
          rw [e0, e1] at q
          exact q
        | true =>
        refine ⟨d2, ⟨g, h2⟩, a2, ?_⟩
        cases e2 : plainD 40 d2 with
        | false =>
          rw [e0, e1, e2] at q
          exact q
        | true =>
        rw [e0, e1, e2] at q
        refine ⟨d3, 0, 3, ⟨g, h3⟩, rfl, rfl, ?_⟩
        cases e3 : within d3 0 3 with
        | false =>
          rw [e3] at q
          exact q
        | true =>
        rw [e3] at q
        refine ⟨d4, 0, 50, ⟨g, h4⟩, rfl, rfl, ?_⟩
        cases e4 : within d4 0 50 with
        | false =>
          rw [e4] at q
          exact q
        | true =>
        rw [e4] at q
        exact ⟨d5, 0, 50, ⟨g, h5⟩, rfl, rfl, q⟩
  | _ => exact q

/-! ### is_number(value), level 3 -/
abbrev s_is_number : Stmt := top 15
abbrev N_is_number : List Str := ["value"]
theorem sc_is_number : FnScope N_is_number ["value"] (defScope s_is_number) := ⟨rfl, rfl, rfl, by decide +kernel, rfl, by decide +kernel, by decide +kernel⟩
theorem ok_is_number (T : Txt K mg) (C_is_within : Ct P w K mg base CX0 2 "is_within" ["value", "least", "most"] (sp_is_within K)) (D : Df K mg "is_number" s_is_number ["value"]) : Ct P w K mg base CX0 3 "is_number" ["value"] (sp_is_number K) := by
  refine ct1 D sc_is_number fun f cdv A outer s H a_value Q E hr h => ⟨_, (pss_one (ps_ret (pe_cl C_is_within (hr.mono (by decide)) pass0 (pa_cons (pz 0) (pa_cons pe_int (pa_cons (pe_gk T.c_MOST_NUMBER) pa_nil)))))), ?_⟩
  obtain ⟨d, hd, q⟩ := h
  exact ⟨d, 1, 999999999999, hd, rfl, rfl, q⟩

/-! ### is_token(value), level 4 -/
abbrev s_is_token : Stmt := top 16
abbrev N_is_token : List Str := ["value"]
theorem sc_is_token : FnScope N_is_token ["value"] (defScope s_is_token) := ⟨rfl, rfl, rfl, by decide +kernel, rfl, by decide +kernel, by decide +kernel⟩
theorem ok_is_token (T : Txt K mg) (C_is_number : Ct P w K mg base CX0 3 "is_number" ["value"] (sp_is_number K)) (D : Df K mg "is_token" s_is_token ["value"]) : Ct P w K mg base CX0 4 "is_token" ["value"] (sp_is_token K) := by
  refine ct1 D sc_is_token fun f cdv A outer s H a_value Q E hr h => ⟨_, (pss_one (ps_ret (pe_andZ (pe_callB (k_isi K) (by rfl) T.n_isinstance bt_isinstance (pa_cons (pz 0) (pa_cons (pe_bltn (v := .ty "tuple") (by rfl) T.n_tuple bt_tuple rfl) pa_nil))) (pe_andZ (pe_cmpR (k_eq K hr.units) (pe_callB (k_len K) (by rfl) T.n_len bt_len (pa_cons (pz 0) pa_nil)) pe_int (nomark _)) (pe_andZ (pe_cl C_is_number (hr.mono (by decide)) pass0 (pa_cons (pe_ix (k_ix K) (pz 0) pe_int (fun _ _ => rfl)) pa_nil)) (pe_one (pe_cl C_is_number (hr.mono (by decide)) pass0 (pa_cons (pe_ix (k_ix K) (pz 0) pe_int (fun _ _ => rfl)) pa_nil)))))))), ?_⟩
  obtain ⟨d, hd, q⟩ := h
  refine ⟨by decide, kindD d, hd.kind, ?_⟩
  cases d with
  | tuple ds =>
    obtain ⟨g, hd⟩ := hd
    cases hd with
    | @tup a xs _ h hx =>
      have ll := DzAll.len hx
      refine .inl ⟨_, .inr (SqT.of h), ?_⟩
      rcases Nat.decEq xs.length 2 with e | e
      · rw [token_len (by omega)] at q
        exact iteN (int_ne (k := 2) e) q
      · obtain ⟨x0, x1, rfl⟩ := two_of e
        cases hx with
        | @cons _ _ d0 _ h0 hx =>
          cases hx with
          | @cons _ _ d1 _ h1 hx =>
            cases hx
            have q : Q (.bl (within d0 1 999999999999 && within d1 1 999999999999)) H := q
            refine ⟨_, x0, .inr (SqT.of h), rfl, ?_⟩
            refine ⟨d0, ⟨g, h0⟩, ?_⟩
            cases e0 : within d0 1 999999999999 with
            | false =>
              rw [e0] at q
              exact q
            | true =>
              rw [e0] at q
              refine ⟨_, x1, .inr (SqT.of h), rfl, ?_⟩
              exact ⟨d1, ⟨g, h1⟩, q⟩
  | _ => exact q

/-! ### _law_right(_law_value), level 5 -/
abbrev s__law_right : Stmt := top 34
abbrev N__law_right : List Str := ["_law_value", "_law_ahead"]
theorem sc__law_right : FnScope N__law_right ["_law_value"] (defScope s__law_right) := ⟨rfl, rfl, rfl, by decide +kernel, rfl, by decide +kernel, by decide +kernel⟩
theorem ok__law_right (T : Txt K mg) (C__law_told : Ct P w K mg base CX0 1 "_law_told" ["_law_answer", "_law_due"] (sp__law_told K)) (C__law_is_item : Ct P w K mg base CX0 2 "_law_is_item" ["_law_value"] (sp__law_is_item K)) (C_is_item : Ct P w K mg base CX0 4 "is_item" ["value"] (sp_is_item K)) (C__law_is_token : Ct P w K mg base CX0 2 "_law_is_token" ["_law_value"] (sp__law_is_token K)) (C_is_token : Ct P w K mg base CX0 4 "is_token" ["value"] (sp_is_token K)) (K_is_item : CtK P w K mg base CX0 4 "is_item" ["value"] ["value"] perm_0 (sp_is_item K)) (D : Df K mg "_law_right" s__law_right ["_law_value"]) : Cg P w K mg base CX0 5 "_law_right" ["_law_value"] (sp__law_right K) := by
  refine cg1 D sc__law_right fun f cdv A outer s H a_value Q E hr h => ⟨_, (pss_cons (ps_set (i := 1) sc__law_right.nd rfl (Or.inl rfl) (pe_callB (c_repr hr) (by rfl) T.n_repr bt_repr (pa_cons (pz 0) pa_nil)))
    (pss_cons (ps_if (PW.pt (pw_or (pt_not (pt_trK K (pe_cl C__law_told (hr.room.mono (by decide)) pass0 (pa_cons (pe_cl C_is_item (hr.room.mono (by decide)) pass0 (pa_cons (pz 0) pa_nil)) (pa_cons (pe_cl C__law_is_item (hr.room.mono (by decide)) pass0 (pa_cons (pz 0) pa_nil)) pa_nil))))) (pw_or1 (pt_not (pt_trK K (pe_cl C__law_told (hr.room.mono (by decide)) pass0 (pa_cons (pe_clK K_is_item (hr.room.mono (by decide)) pass0 (pk_cons (pz 0) pk_nil)) (pa_cons (pe_cl C__law_is_item (hr.room.mono (by decide)) pass0 (pa_cons (pz 0) pa_nil)) pa_nil)))))))) 
      (pss_one (ps_ret pe_bl)) pss_nil)
    (pss_one (ps_ret (pe_andZ (pe_cl C__law_told (hr.room.mono (by decide)) pass0 (pa_cons (pe_cl C_is_token (hr.room.mono (by decide)) pass0 (pa_cons (pz 0) pa_nil)) (pa_cons (pe_cl C__law_is_token (hr.room.mono (by decide)) pass0 (pa_cons (pz 0) pa_nil)) pa_nil))) (pe_one (pe_cmpR (k_eq K hr.room.units) (pe_callB (c_repr hr) (by rfl) T.n_repr bt_repr (pa_cons (pz 0) pa_nil)) (pz 1) (nomark _)))))))), ?_⟩
  obtain ⟨⟨g, d, hd, hg, ha, hs, hp, hz, _⟩, q⟩ := h
  have hz : d.shown.length ≤ sizeLine := sz (by omega)
  refine ⟨g, d, hd, hg, hs, hp, hz, ?_⟩
  refine ⟨d, ⟨g, hd⟩, ha, ?_⟩
  refine ⟨d, ⟨g, hd⟩, ha, fun H2 s2 => ?_⟩
  refine ⟨_, _, rfl, rfl, ?_⟩
  have no : (!(itemD d == itemD d)) = false := by simp
  refine iteN no ?_
  refine ⟨d, ⟨g, Dz.same s2 hd⟩, ha, ?_⟩
  refine ⟨d, ⟨g, Dz.same s2 hd⟩, ha, fun H3 s3 => ?_⟩
  refine ⟨_, _, rfl, rfl, ?_⟩
  refine iteN no ?_
  have s13 := s2.trans s3
  refine ⟨d, ⟨g, Dz.same s13 hd⟩, ?_⟩
  refine ⟨d, ⟨g, Dz.same s13 hd⟩, ?_⟩
  refine ⟨_, _, rfl, rfl, ?_⟩
  refine iteY (c := (tokenD d == tokenD d)) (by simp) ?_
  refine ⟨g, d, Dz.same s13 hd, hg, hs, hp, hz, ?_⟩
  show Q (.bl (false ^^ decide (V.str d.shown = V.str d.shown))) H3
  rw [decide_eq_true rfl]
  exact q H3 s13

/-! ### law(_law_script), level 6 -/
abbrev s_law : Stmt := top 35
abbrev N_law : List Str := ["_law_script", "_law_k", "_law_box_here", "_law_most", "_law_least", "_law_token", "_law_spoils", "_law_item_here", "_law_value", "_law_twice"]
theorem sc_law : FnScope N_law ["_law_script"] (defScope s_law) := ⟨rfl, rfl, rfl, by decide +kernel, rfl, by decide +kernel, by decide +kernel⟩
theorem ok_law (T : Txt K mg) (C__law_box : Ct P w K mg base CX0 1 "_law_box" ["_law_great"] (sp__law_box K)) (C__law_cell : Ct P w K mg base CX0 1 "_law_cell" ["_law_script", "_law_k"] (sp__law_cell K)) (C__law_take : Ct P w K mg base CX0 1 "_law_take" ["_law_box_here", "_law_many"] (sp__law_take K)) (C__law_shape : Ct P w K mg base CX0 2 "_law_shape" ["_law_box_here", "_law_value"] (sp__law_shape K)) (C__law_spoiled : Ct P w K mg base CX0 3 "_law_spoiled" ["_law_box_here", "_law_value"] (sp__law_spoiled K)) (C__law_item : Ct P w K mg base CX0 3 "_law_item" ["_law_box_here"] (sp__law_item K)) (C__law_is_token : Ct P w K mg base CX0 2 "_law_is_token" ["_law_value"] (sp__law_is_token K)) (C__law_is_item : Ct P w K mg base CX0 2 "_law_is_item" ["_law_value"] (sp__law_is_item K)) (C__law_right : Cg P w K mg base CX0 5 "_law_right" ["_law_value"] (sp__law_right K)) (C__law_told : Ct P w K mg base CX0 1 "_law_told" ["_law_answer", "_law_due"] (sp__law_told K)) (K_is_token : CtK P w K mg base CX0 4 "is_token" ["value"] ["value"] perm_0 (sp_is_token K)) (D : Df K mg "law" s_law ["_law_script"]) : Cg P w K mg base CX0 6 "law" ["_law_script"] (sp_law K) := by
  refine cg1 D sc_law fun f cdv A outer s H a_script Q E hr h => ⟨_, (pss_cons (ps_for PassesOwn.never rfl (pi_rngZ (by rfl) T.n_range (pa_cons (pe_callB (c_max rfl) (by rfl) T.n_max bt_max (pa_cons pe_int (pa_cons (pe_callB (c_min rfl) (by rfl) T.n_min bt_min (pa_cons pe_int (pa_cons (pe_callB (k_len K) (by rfl) T.n_len bt_len (pa_cons (pz 0) pa_nil)) pa_nil))) pa_nil))) pa_nil)) (pg_name (i := 1) sc_law.nd rfl (Or.inl rfl)) 
      (pss_cons (ps_set (i := 2) sc_law.nd rfl (Or.inl rfl) (pe_cl C__law_box (hr.room.mono (by decide)) pass0 (pa_cons (pe_cl C__law_cell (hr.room.mono (by decide)) pass0 (pa_cons (pz 0) (pa_cons (pz 1) pa_nil))) pa_nil)))
      (pss_cons (ps_parZ (i := 3) (j := 4) (by rfl) sc_law.nd rfl rfl (by decide) rfl rfl (pa_cons (pe_op o_sub (pe_op o_pow pe_int pe_int) pe_int) (pa_cons (pe_cl C__law_take (hr.room.mono (by decide)) pass0 (pa_cons (pz 2) (pa_cons pe_int pa_nil))) pa_nil)) (by rfl))
      (pss_cons (ps_set (i := 5) sc_law.nd rfl (Or.inl rfl) (pe_tz (pa_cons (pe_ix (k_ix K) (pe_lz (pa_cons pe_int (pa_cons pe_int (pa_cons (pe_op (k_add K) (pz 4) pe_int) (pa_cons (pz 3) pa_nil))))) (pe_cl C__law_take (hr.room.mono (by decide)) pass0 (pa_cons (pz 2) (pa_cons pe_int pa_nil))) (fun _ _ => rfl)) (pa_cons (pe_ix (k_ix K) (pe_lz (pa_cons pe_int (pa_cons pe_int (pa_cons (pe_op (k_add K) (pz 4) pe_int) (pa_cons (pz 3) pa_nil))))) (pe_cl C__law_take (hr.room.mono (by decide)) pass0 (pa_cons (pz 2) (pa_cons pe_int pa_nil))) (fun _ _ => rfl)) pa_nil))))
      (pss_cons (ps_set (i := 6) sc_law.nd rfl (Or.inl rfl) (pe_lz (pa_cons (pe_cl C__law_spoiled (hr.room.mono (by decide)) pass0 (pa_cons (pz 2) (pa_cons (pz 5) pa_nil))) (pa_cons (pe_cl C__law_shape (hr.room.mono (by decide)) pass0 (pa_cons (pz 2) (pa_cons (pz 5) pa_nil))) (pa_cons (pe_tz (pa_cons (pe_op (k_add K) (pe_ix (k_ix K) (pz 5) pe_int (fun _ _ => rfl)) pe_int) (pa_cons (pe_ix (k_ix K) (pz 5) pe_int (fun _ _ => rfl)) pa_nil))) (pa_cons (pe_tz (pa_cons (pe_ix (k_ix K) (pz 5) pe_int (fun _ _ => rfl)) (pa_cons (pe_op o_sub (pe_ix (k_ix K) (pz 5) pe_int (fun _ _ => rfl)) pe_int) pa_nil))) pa_nil))))))
      (pss_cons (ps_set (i := 7) sc_law.nd rfl (Or.inl rfl) (pe_cl C__law_item (hr.room.mono (by decide)) pass0 (pa_cons (pz 2) pa_nil)))
      (pss_cons (ps_if (PW.pt (pw_or (pt_not (pt_trK K (pe_cl C__law_is_item (hr.room.mono (by decide)) pass0 (pa_cons (pz 7) pa_nil)))) (pw_or1 (pt_not (pt_trK K (pe_cl C__law_is_token (hr.room.mono (by decide)) pass0 (pa_cons (pz 5) pa_nil))))))) 
        (pss_one (ps_ret pe_bl)) pss_nil)
      (pss_cons (ps_for PassesOwn.never rfl (pi_lzK K (pe_op (k_add K) (pe_lz (pa_cons (pz 7) (pa_cons (pz 5) (pa_cons (pe_cl C__law_spoiled (hr.room.mono (by decide)) pass0 (pa_cons (pz 2) (pa_cons (pz 7) pa_nil))) (pa_cons (pe_cl C__law_spoiled (hr.room.mono (by decide)) pass0 (pa_cons (pz 2) (pa_cons (pz 7) pa_nil))) (pa_cons (pe_cl C__law_shape (hr.room.mono (by decide)) pass0 (pa_cons (pz 2) (pa_cons (pz 7) pa_nil))) pa_nil)))))) (pz 6))) (pg_name (i := 8) sc_law.nd rfl (Or.inl rfl)) 
        (pss_one (ps_if (pt_not (pt_trK K (pe_cg C__law_right (hr.mono (by decide)) pass0 (pa_cons (pz 8) pa_nil)))) 
          (pss_one (ps_ret pe_bl)) pss_nil)))
      (pss_cons (ps_set (i := 9) sc_law.nd rfl (Or.inl rfl) (pe_cl C__law_spoiled (hr.room.mono (by decide)) pass0 (pa_cons (pz 2) (pa_cons (pe_cl C__law_spoiled (hr.room.mono (by decide)) pass0 (pa_cons (pz 2) (pa_cons (pz 7) pa_nil))) pa_nil))))
      (pss_one (ps_if (PW.pt (pw_or (pt_not (pt_trK K (pe_cg C__law_right (hr.mono (by decide)) pass0 (pa_cons (pz 9) pa_nil)))) (pw_or1 (pt_not (pt_trK K (pe_cl C__law_told (hr.room.mono (by decide)) pass0 (pa_cons (pe_clK K_is_token (hr.room.mono (by decide)) pass0 (pk_cons (pz 5) pk_nil)) (pa_cons pe_bl pa_nil)))))))) 
        (pss_one (ps_ret pe_bl)) pss_nil)))))))))))
    (pss_one (ps_ret pe_bl))), ?_⟩
  obtain ⟨a, ns, rfl, hS, hl, k⟩ := h
  refine .inl ⟨_, .inl hS, ?_⟩
  rw [List.length_map]
  have rb : ∀ z : Int, (if (if (ns.length : Int) < 24 then (ns.length : Int) else 24) > 4 then (if (ns.length : Int) < 24 then (ns.length : Int) else 24) else 4) = z → 4 ≤ z ∧ z ≤ 24 := fun z e => by
    subst e
    split <;> split <;> omega
  generalize hz : (if (if (ns.length : Int) < 24 then (ns.length : Int) else 24) > 4 then (if (ns.length : Int) < 24 then (ns.length : Int) else 24) else 4) = z
  obtain ⟨z2, z4⟩ := rb z hz
  refine ⟨by omega, by omega, for_w (wk_rng 0 _) (fun i σ H' => Same H H' ∧ ∃ v1 v2 v3 v4 v5 v6 v7 v8 v9 : Option V, σ = [some (.ref a), v1, v2, v3, v4, v5, v6, v7, v8, v9]) ⟨Same.refl H, _, _, _, _, _, _, _, _, _, rfl⟩ (fun _ _ _ _ => trivial) ?_ (fun σ H' p => k H')⟩
  rintro i x σ H0 hx ⟨s0, v1, v2, v3, v4, v5, v6, v7, v8, v9, rfl⟩
  obtain ⟨hi, rfl⟩ := rngV_at hx
  refine ⟨a, _, ns, rfl, rfl, by omega, by omega, sqL_same s0 hS, hl, fun g H1 s1 => ?_⟩
  refine ⟨g, rfl, fun b H2 fb s2 B2 => ?_⟩
  refine ⟨⟨by decide, by decide, by decide⟩, ?_⟩
  refine ⟨b, 1000, 0, rfl, rfl, by decide, by decide, B2, by decide, fun le H3 t3 B3 l0 l1 => ?_⟩
  refine ⟨by show 4 ≤ sizeLine; decide, fun p1 H4 n4 => ?_⟩
  have B4 := B3.same n4.same
  have nb1 := B4.neq n4.here (fun _ _ _ _ z => by cases z)
  refine ⟨b, 4, _, rfl, rfl, by decide, by decide, B4, by omega, fun r5 H5 t5 B5 r50 r51 => ?_⟩
  have ten : ((10 : Int) ^ (12 : Int).toNat - 1) = 999999999999 := by decide
  have menu : ∀ (c r : Int), 1 ≤ c → c ≤ 2000 → ∀ c2 : Int, 1 ≤ c2 → c2 ≤ 3 → 0 ≤ r → r < 4 → ∃ y : Int, atI [V.int 1, .int c2, .int c, .int ((10 : Int) ^ (12 : Int).toNat - 1)] r = some (.int y) ∧ 1 ≤ y ∧ y ≤ 999999999999 := fun c r hc hc2 c2 d1 d2 h0 h1 => by
    obtain ⟨m, hm, hmem⟩ := menuI [1, c2, c, (10 : Int) ^ (12 : Int).toNat - 1] h0 h1
    rw [ten] at hmem
    simp only [List.mem_cons, List.not_mem_nil, or_false] at hmem
    exact ⟨m, hm, by omega⟩
  obtain ⟨y, hy, y0, y1⟩ := menu (le + 1) r5 (by omega) (by omega) 2 (by decide) (by decide) r50 r51
  refine ⟨_, _, .inl (SqL.of (t5.at nb1 n4.here)), hy, ?_⟩
  refine ⟨by show 4 ≤ sizeLine; decide, fun p2 H6 n6 => ?_⟩
  have B6 := B5.same n6.same
  have nb2 := B6.neq n6.here (fun _ _ _ _ z => by cases z)
  refine ⟨b, 4, _, rfl, rfl, by decide, by decide, B6, by omega, fun r7 H7 t7 B7 r70 r71 => ?_⟩
  obtain ⟨y', hy', y0', y1'⟩ := menu (le + 7) r7 (by omega) (by omega) 3 (by decide) (by decide) r70 r71
  refine ⟨_, _, .inl (SqL.of (t7.at nb2 n6.here)), hy', ?_⟩
  refine ⟨by show 2 ≤ sizeLine; decide, fun tk H8 n8 => ?_⟩
  have B8 := B7.same n8.same
  have t28 : But b H2 H8 := ((((t3.nw n4).trans t5).nw n6).trans t7).nw n8
  have tok8 : Tv H8 tk [.int y, .int y'] [.int y, .int y'] := ⟨n8.here, .cons (.int _) (.cons (.int _) .nil), fun d hd => by
    simp only [List.mem_cons, List.not_mem_nil, or_false] at hd
    rcases hd with rfl | rfl <;> exact odd_int (by omega)⟩
  have tokA : ∀ d ∈ [PyData.int y, .int y'], atomD d = true := fun d hd => by
    simp only [List.mem_cons, List.not_mem_nil, or_false] at hd
    rcases hd with rfl | rfl <;> rfl
  refine ⟨b, _, tk, _, _, rfl, rfl, B8, by omega, tok8, by show 1 ≤ 2; decide, by show 2 ≤ 8; decide, fun q1 ys1 es1 H9 t9 B9 tv9 ly1 => ?_⟩
  have tok9 := B8.tv t9 tok8
  refine ⟨b, _, tk, _, _, rfl, rfl, B9, by omega, tok9, tokA, by show 2 ≤ 2; decide, by show 2 ≤ 8; decide, by show 2 ≠ 4; decide, fun w2 H10 t10 B10 g10 => ?_⟩
  have tok10 := B9.tv t10 tok9
  have gq10 : Good H10 (.ref q1) := B9.good t10 (good_tup tv9.1 tv9.2.1 tv9.2.2 (by have := DzAll.len tv9.2.1; simp only [List.length_cons, List.length_nil] at ly1; omega))
  refine ⟨_, _, .inr (SqT.of tok10.1), rfl, ?_⟩
  refine ⟨_, _, .inr (SqT.of tok10.1), rfl, ?_⟩
  refine ⟨by show 2 ≤ sizeLine; decide, fun u3 H11 n11 => ?_⟩
  have tok11 := tok10.same n11.same
  refine ⟨_, _, .inr (SqT.of tok11.1), rfl, ?_⟩
  refine ⟨_, _, .inr (SqT.of tok11.1), rfl, ?_⟩
  refine ⟨by show 2 ≤ sizeLine; decide, fun u4 H12 n12 => ?_⟩
  refine ⟨by show 4 ≤ sizeLine; decide, fun sp H13 n13 => ?_⟩
  have B13 := ((B10.same n11.same).same n12.same).same n13.same
  have s1013 := (n11.same.trans n12.same).trans n13.same
  have two : ∀ c d : Int, -10000000000000 ≤ c ∧ c ≤ 10000000000000 → -10000000000000 ≤ d ∧ d ≤ 10000000000000 → ∀ (Hx : Hp) (u : Addr), Hx u = some (.tup [.int c, .int d]) → Good Hx (.ref u) := fun c d hc hd Hx u hu => good_tup hu (ds := [.int c, .int d]) (.cons (.int _) (.cons (.int _) .nil)) (fun e he => by
    simp only [List.mem_cons, List.not_mem_nil, or_false] at he
    rcases he with rfl | rfl
    · exact odd_int hc
    · exact odd_int hd) (by show 2 ≤ 20; decide)
  have G13 : ∀ x ∈ [V.ref q1, w2, .ref u3, .ref u4], Good H13 x := fun x hx => by
    simp only [List.mem_cons, List.not_mem_nil, or_false] at hx
    rcases hx with rfl | rfl | rfl | rfl
    · exact gq10.same s1013
    · exact g10.same s1013
    · exact two _ _ (by omega) (by omega) _ _ (n13.keep (n12.keep n11.here))
    · exact two _ _ (by omega) (by omega) _ _ (n13.keep n12.here)
  have tok13 := tok10.same s1013
  refine ⟨b, _, rfl, B13, by omega, fun it H14 fit t14 B14 ia => ?_⟩
  obtain ⟨k1, k2, tx, i1, i2, i3, hit, nk1, nk2, ttx, a1, a2, a3, a4, a5, a6⟩ := ia
  have it14 := item_tv hit nk1 nk2 ttx a1 a2 a3 a4 a5 a6
  have tok14 := B13.tv t14 tok13
  have G14 := B13.goods t14 G13
  have hsp14 := t14.at (B13.neq n13.here (fun _ _ _ _ z => by cases z)) n13.here
  refine ⟨_, ⟨true, .tup it14.1 it14.2.1⟩, asc_odd it14.2.2, fun H15 s15 => ?_⟩
  rw [item_ok nk1 nk2 ttx a1 a2 a3 a4 a5 a6]
  have tokD : ∀ Hx, Tv Hx tk [.int y, .int y'] [.int y, .int y'] → Vd Hx (.ref tk) (.tuple [.int y, .int y']) := fun Hx t => ⟨true, .tup t.1 t.2.1⟩
  have tokT : tokenD (.tuple [.int y, .int y']) = true := by
    show (within (.int y) 1 999999999999 && within (.int y') 1 999999999999) = true
    rw [within_i ⟨y0, y1⟩, within_i ⟨y0', y1'⟩]
    rfl
  have tok15 := tok14.same s15
  refine ⟨_, tokD _ tok15, ?_⟩
  rw [tokT]
  have B15 := B14.same s15
  have it15 := it14.same s15
  refine ⟨b, _, it, _, _, rfl, rfl, B15, by omega, it15, by show 1 ≤ 6; decide, by show 6 ≤ 8; decide, fun q3 ys3 es3 H16 t16 B16 tv16 ly3 => ?_⟩
  have it16 := B15.tv t16 it15
  refine ⟨b, _, it, _, _, rfl, rfl, B16, by omega, it16, by show 1 ≤ 6; decide, by show 6 ≤ 8; decide, fun q4 ys4 es4 H17 t17 B17 tv17 ly4 => ?_⟩
  have it17 := B16.tv t17 it16
  have itA : ∀ d ∈ itemDs k1 k2 tx i1 i2 i3, atomD d = true := fun d hd => by
    simp only [itemDs, List.mem_cons, List.not_mem_nil, or_false] at hd
    rcases hd with rfl | rfl | rfl | rfl | rfl | rfl <;> rfl
  refine ⟨b, _, it, _, _, rfl, rfl, B17, by omega, it17, itA, by show 2 ≤ 6; decide, by show 6 ≤ 8; decide, by show 6 ≠ 4; decide, fun w5 H18 t18 B18 g18 => ?_⟩
  have it18 := B17.tv t18 it17
  have tok18 := B17.tv t18 (B16.tv t17 (B15.tv t16 tok15))
  have six : ∀ {Hx : Hp} {q : Addr} {ys : List V} {es : List PyData}, Tv Hx q ys es → ys.length = [V.str (S k1), .str (S k2), .str (S tx), .int i1, .int i2, .int i3].length → Good Hx (.ref q) := fun tv ly => good_tup tv.1 tv.2.1 tv.2.2 (by have := DzAll.len tv.2.1; simp only [List.length_cons, List.length_nil] at ly; omega)
  have g3 : Good H18 (.ref q3) := six (B17.tv t18 (B16.tv t17 tv16)) ly3
  have g4 : Good H18 (.ref q4) := six (B17.tv t18 tv17) ly4
  have gi : Good H18 (.ref it) := good_tup it18.1 it18.2.1 it18.2.2 (by show 6 ≤ 20; decide)
  have gt : Good H18 (.ref tk) := good_tup tok18.1 tok18.2.1 tok18.2.2 (by show 2 ≤ 20; decide)
  have G18 := B17.goods t18 (B16.goods t17 (B15.goods t16 (fun x hx => (G14 x hx).same s15)))
  refine ⟨by show 5 ≤ sizeLine; decide, fun fv H19 n19 => ?_⟩
  have nsp : ∀ {m : Nat} {Hx : Hp}, BoxAt m Hx b → Hx sp = some (.lst [.ref q1, w2, .ref u3, .ref u4]) → sp ≠ b := fun B h => B.neq h (fun _ _ _ _ z => by cases z)
  have hsp15 := s15 _ _ hsp14
  have hsp16 := t16.at (nsp B15 hsp15) hsp15
  have hsp17 := t17.at (nsp B16 hsp16) hsp16
  have hsp18 := t18.at (nsp B17 hsp17) hsp17
  refine .inl ⟨_, _, n19.here, n19.keep hsp18, by show 9 ≤ sizeLine; decide, fun al H20 n20 => ?_⟩
  have s1820 := n19.same.trans n20.same
  have G20 : ∀ x ∈ [V.ref it, .ref tk, .ref q3, .ref q4, w5] ++ [V.ref q1, w2, .ref u3, .ref u4], Good H20 x := fun x hx => by
    rcases List.mem_append.mp hx with hx | hx
    · simp only [List.mem_cons, List.not_mem_nil, or_false] at hx
      rcases hx with rfl | rfl | rfl | rfl | rfl
      · exact gi.same s1820
      · exact gt.same s1820
      · exact g3.same s1820
      · exact g4.same s1820
      · exact g18.same s1820
    · exact (G18 x hx).same s1820
  have h20 := n20.here
  generalize [V.ref it, .ref tk, .ref q3, .ref q4, w5] ++ [V.ref q1, w2, .ref u3, .ref u4] = items at G20 h20
  have most : (10 : Int) ^ (12 : Int).toNat - 1 = 999999999999 := ten
  refine ⟨⟨_, SqL.of h20⟩, for_w (wk_list items) (fun i' σ H' => Same H20 H' ∧ ∃ w w9 : Option V, σ = [some (.ref a), some (.int (0 + (i : Nat))), some (.ref b), some (.int ((10 : Int) ^ (12 : Int).toNat - 1)), some (.int le), some (.ref tk), some (.ref sp), some (.ref it), w, w9]) ⟨Same.refl _, _, _, rfl⟩ (fun _ _ _ p => sqL_same p.1 (SqL.of h20)) ?_ ?_⟩
  · rintro i' x σ H21 hx' ⟨s21, w, w9, rfl⟩
    refine ⟨(G20 x (List.mem_of_getElem? hx')).same s21, fun H22 s22 => ?_⟩
    exact ⟨s21.trans s22, _, _, rfl⟩
  rintro σ H21 ⟨s21, w, w9, rfl⟩
  have s1821 := s1820.trans s21
  have B21 := B18.same s1821
  have it21 := it18.same s1821
  have tok21 := tok18.same s1821
  refine ⟨b, _, it, _, _, rfl, rfl, B21, by omega, it21, by show 1 ≤ 6; decide, by show 6 ≤ 8; decide, fun q5 ys5 es5 H22 t22 B22 tv22 ly5 => ?_⟩
  have l5 : ys5.length = 6 := ly5
  refine ⟨b, _, q5, _, _, rfl, rfl, B22, by omega, tv22, by omega, by omega, fun q6 ys6 es6 H23 t23 B23 tv23 ly6 => ?_⟩
  have tok23 := B22.tv t23 (B21.tv t22 tok21)
  refine ⟨good_tup tv23.1 tv23.2.1 tv23.2.2 (by have := DzAll.len tv23.2.1; omega), fun H24 s24 => ?_⟩
  refine ⟨_, tokD _ (tok23.same s24), ?_⟩
  rw [tokT]
  refine ⟨true, true, rfl, rfl, ?_⟩
  have t38 : But b H2 H14 := (((t28.trans t9).trans t10).trans (But.of s1013)).trans t14
  have t18' : But b H2 H18 := (((t38.trans (But.of s15)).trans t16).trans t17).trans t18
  have tall : But b H2 H24 := (((t18'.trans (But.of s1821)).trans t22).trans t23).trans (But.of s24)
  have sall : Same H H24 := ((s0.trans s1).trans s2).but ((s0.trans s1).free fb) tall
  exact ⟨sall, _, _, _, _, _, _, _, _, _, rfl⟩


end
theorem law_asks {K : PySem.W.Frag} {H : Hp} {E : XK} (a : Addr) (ns : List Int) (hl : ns.length ≤ 63) (hS : SqL K H a (ns.map V.int)) : sp_law K [.ref a] H (fun v _ => v = .bl true) E := ⟨a, ns, rfl, hS, hl, fun _ => rfl⟩
theorem all_mk {l : PySem.W.OpenLaw} {w : World} {K : PySem.W.Frag} {h : Heap} {mg : Str → Option Value} {fa : Addr} (X : K.In h) (G : h.Ns mainGlobals mg) (hfa : mg "law" = some (.ref fa))
    {f20 : Addr} {od20 an20 : Option Addr} {sl20 : Array (Option Value)} {oc20 kV20 dc20 pm20 cd20 ct20 : Value}
    (a20 : PySem.W.nsIn K mainGlobals "_law_box" = some (some (.ref f20))) (l20 : K.lookup f20 = some ⟨oc20, od20, .func (PySem.W.fnOf "_law_box" "_law_box" (defArgs s__law_box) (defBody s__law_box) (defScope s__law_box) .none kV20 dc20 pm20 an20 cd20 ct20), sl20⟩) (c20 : PySem.W.codeIn K cd20 "_law_box" = true) (k20 : PySem.W.keepIn K (.ref f20) = true)
    {f19 : Addr} {od19 an19 : Option Addr} {sl19 : Array (Option Value)} {oc19 kV19 dc19 pm19 cd19 ct19 : Value}
    (a19 : PySem.W.nsIn K mainGlobals "_law_cell" = some (some (.ref f19))) (l19 : K.lookup f19 = some ⟨oc19, od19, .func (PySem.W.fnOf "_law_cell" "_law_cell" (defArgs s__law_cell) (defBody s__law_cell) (defScope s__law_cell) .none kV19 dc19 pm19 an19 cd19 ct19), sl19⟩) (c19 : PySem.W.codeIn K cd19 "_law_cell" = true) (k19 : PySem.W.keepIn K (.ref f19) = true)
    {f21 : Addr} {od21 an21 : Option Addr} {sl21 : Array (Option Value)} {oc21 kV21 dc21 pm21 cd21 ct21 : Value}
    (a21 : PySem.W.nsIn K mainGlobals "_law_take" = some (some (.ref f21))) (l21 : K.lookup f21 = some ⟨oc21, od21, .func (PySem.W.fnOf "_law_take" "_law_take" (defArgs s__law_take) (defBody s__law_take) (defScope s__law_take) .none kV21 dc21 pm21 an21 cd21 ct21), sl21⟩) (c21 : PySem.W.codeIn K cd21 "_law_take" = true) (k21 : PySem.W.keepIn K (.ref f21) = true)
    {f31 : Addr} {od31 an31 : Option Addr} {sl31 : Array (Option Value)} {oc31 kV31 dc31 pm31 cd31 ct31 : Value}
    (a31 : PySem.W.nsIn K mainGlobals "_law_shape" = some (some (.ref f31))) (l31 : K.lookup f31 = some ⟨oc31, od31, .func (PySem.W.fnOf "_law_shape" "_law_shape" (defArgs s__law_shape) (defBody s__law_shape) (defScope s__law_shape) .none kV31 dc31 pm31 an31 cd31 ct31), sl31⟩) (c31 : PySem.W.codeIn K cd31 "_law_shape" = true) (k31 : PySem.W.keepIn K (.ref f31) = true)
    {f25 : Addr} {od25 an25 : Option Addr} {sl25 : Array (Option Value)} {oc25 kV25 dc25 pm25 cd25 ct25 : Value}
    (a25 : PySem.W.nsIn K mainGlobals "_law_odd" = some (some (.ref f25))) (l25 : K.lookup f25 = some ⟨oc25, od25, .func (PySem.W.fnOf "_law_odd" "_law_odd" (defArgs s__law_odd) (defBody s__law_odd) (defScope s__law_odd) .none kV25 dc25 pm25 an25 cd25 ct25), sl25⟩) (c25 : PySem.W.codeIn K cd25 "_law_odd" = true) (k25 : PySem.W.keepIn K (.ref f25) = true)
    {f32 : Addr} {od32 an32 : Option Addr} {sl32 : Array (Option Value)} {oc32 kV32 dc32 pm32 cd32 ct32 : Value}
    (a32 : PySem.W.nsIn K mainGlobals "_law_spoiled" = some (some (.ref f32))) (l32 : K.lookup f32 = some ⟨oc32, od32, .func (PySem.W.fnOf "_law_spoiled" "_law_spoiled" (defArgs s__law_spoiled) (defBody s__law_spoiled) (defScope s__law_spoiled) .none kV32 dc32 pm32 an32 cd32 ct32), sl32⟩) (c32 : PySem.W.codeIn K cd32 "_law_spoiled" = true) (k32 : PySem.W.keepIn K (.ref f32) = true)
    {f23 : Addr} {od23 an23 : Option Addr} {sl23 : Array (Option Value)} {oc23 kV23 dc23 pm23 cd23 ct23 : Value}
    (a23 : PySem.W.nsIn K mainGlobals "_law_text" = some (some (.ref f23))) (l23 : K.lookup f23 = some ⟨oc23, od23, .func (PySem.W.fnOf "_law_text" "_law_text" (defArgs s__law_text) (defBody s__law_text) (defScope s__law_text) .none kV23 dc23 pm23 an23 cd23 ct23), sl23⟩) (c23 : PySem.W.codeIn K cd23 "_law_text" = true) (k23 : PySem.W.keepIn K (.ref f23) = true)
    {f22 : Addr} {od22 an22 : Option Addr} {sl22 : Array (Option Value)} {oc22 kV22 dc22 pm22 cd22 ct22 : Value}
    (a22 : PySem.W.nsIn K mainGlobals "_law_name" = some (some (.ref f22))) (l22 : K.lookup f22 = some ⟨oc22, od22, .func (PySem.W.fnOf "_law_name" "_law_name" (defArgs s__law_name) (defBody s__law_name) (defScope s__law_name) .none kV22 dc22 pm22 an22 cd22 ct22), sl22⟩) (c22 : PySem.W.codeIn K cd22 "_law_name" = true) (k22 : PySem.W.keepIn K (.ref f22) = true)
    {f24 : Addr} {od24 an24 : Option Addr} {sl24 : Array (Option Value)} {oc24 kV24 dc24 pm24 cd24 ct24 : Value}
    (a24 : PySem.W.nsIn K mainGlobals "_law_item" = some (some (.ref f24))) (l24 : K.lookup f24 = some ⟨oc24, od24, .func (PySem.W.fnOf "_law_item" "_law_item" (defArgs s__law_item) (defBody s__law_item) (defScope s__law_item) .none kV24 dc24 pm24 an24 cd24 ct24), sl24⟩) (c24 : PySem.W.codeIn K cd24 "_law_item" = true) (k24 : PySem.W.keepIn K (.ref f24) = true)
    {f26 : Addr} {od26 an26 : Option Addr} {sl26 : Array (Option Value)} {oc26 kV26 dc26 pm26 cd26 ct26 : Value}
    (a26 : PySem.W.nsIn K mainGlobals "_law_within" = some (some (.ref f26))) (l26 : K.lookup f26 = some ⟨oc26, od26, .func (PySem.W.fnOf "_law_within" "_law_within" (defArgs s__law_within) (defBody s__law_within) (defScope s__law_within) .none kV26 dc26 pm26 an26 cd26 ct26), sl26⟩) (c26 : PySem.W.codeIn K cd26 "_law_within" = true) (k26 : PySem.W.keepIn K (.ref f26) = true)
    {f29 : Addr} {od29 an29 : Option Addr} {sl29 : Array (Option Value)} {oc29 kV29 dc29 pm29 cd29 ct29 : Value}
    (a29 : PySem.W.nsIn K mainGlobals "_law_is_token" = some (some (.ref f29))) (l29 : K.lookup f29 = some ⟨oc29, od29, .func (PySem.W.fnOf "_law_is_token" "_law_is_token" (defArgs s__law_is_token) (defBody s__law_is_token) (defScope s__law_is_token) .none kV29 dc29 pm29 an29 cd29 ct29), sl29⟩) (c29 : PySem.W.codeIn K cd29 "_law_is_token" = true) (k29 : PySem.W.keepIn K (.ref f29) = true)
    {f28 : Addr} {od28 an28 : Option Addr} {sl28 : Array (Option Value)} {oc28 kV28 dc28 pm28 cd28 ct28 : Value}
    (a28 : PySem.W.nsIn K mainGlobals "_law_is_body" = some (some (.ref f28))) (l28 : K.lookup f28 = some ⟨oc28, od28, .func (PySem.W.fnOf "_law_is_body" "_law_is_body" (defArgs s__law_is_body) (defBody s__law_is_body) (defScope s__law_is_body) .none kV28 dc28 pm28 an28 cd28 ct28), sl28⟩) (c28 : PySem.W.codeIn K cd28 "_law_is_body" = true) (k28 : PySem.W.keepIn K (.ref f28) = true)
    {f27 : Addr} {od27 an27 : Option Addr} {sl27 : Array (Option Value)} {oc27 kV27 dc27 pm27 cd27 ct27 : Value}
    (a27 : PySem.W.nsIn K mainGlobals "_law_is_name" = some (some (.ref f27))) (l27 : K.lookup f27 = some ⟨oc27, od27, .func (PySem.W.fnOf "_law_is_name" "_law_is_name" (defArgs s__law_is_name) (defBody s__law_is_name) (defScope s__law_is_name) .none kV27 dc27 pm27 an27 cd27 ct27), sl27⟩) (c27 : PySem.W.codeIn K cd27 "_law_is_name" = true) (k27 : PySem.W.keepIn K (.ref f27) = true)
    {f30 : Addr} {od30 an30 : Option Addr} {sl30 : Array (Option Value)} {oc30 kV30 dc30 pm30 cd30 ct30 : Value}
    (a30 : PySem.W.nsIn K mainGlobals "_law_is_item" = some (some (.ref f30))) (l30 : K.lookup f30 = some ⟨oc30, od30, .func (PySem.W.fnOf "_law_is_item" "_law_is_item" (defArgs s__law_is_item) (defBody s__law_is_item) (defScope s__law_is_item) .none kV30 dc30 pm30 an30 cd30 ct30), sl30⟩) (c30 : PySem.W.codeIn K cd30 "_law_is_item" = true) (k30 : PySem.W.keepIn K (.ref f30) = true)
    {f33 : Addr} {od33 an33 : Option Addr} {sl33 : Array (Option Value)} {oc33 kV33 dc33 pm33 cd33 ct33 : Value}
    (a33 : PySem.W.nsIn K mainGlobals "_law_told" = some (some (.ref f33))) (l33 : K.lookup f33 = some ⟨oc33, od33, .func (PySem.W.fnOf "_law_told" "_law_told" (defArgs s__law_told) (defBody s__law_told) (defScope s__law_told) .none kV33 dc33 pm33 an33 cd33 ct33), sl33⟩) (c33 : PySem.W.codeIn K cd33 "_law_told" = true) (k33 : PySem.W.keepIn K (.ref f33) = true)
    {f3 : Addr} {od3 an3 : Option Addr} {sl3 : Array (Option Value)} {oc3 kV3 dc3 pm3 cd3 ct3 : Value}
    (a3 : PySem.W.nsIn K mainGlobals "is_signs" = some (some (.ref f3))) (l3 : K.lookup f3 = some ⟨oc3, od3, .func (PySem.W.fnOf "is_signs" "is_signs" (defArgs s_is_signs) (defBody s_is_signs) (defScope s_is_signs) .none kV3 dc3 pm3 an3 cd3 ct3), sl3⟩) (c3 : PySem.W.codeIn K cd3 "is_signs" = true) (k3 : PySem.W.keepIn K (.ref f3) = true)
    {f8 : Addr} {od8 an8 : Option Addr} {sl8 : Array (Option Value)} {oc8 kV8 dc8 pm8 cd8 ct8 : Value}
    (a8 : PySem.W.nsIn K mainGlobals "is_plain" = some (some (.ref f8))) (l8 : K.lookup f8 = some ⟨oc8, od8, .func (PySem.W.fnOf "is_plain" "is_plain" (defArgs s_is_plain) (defBody s_is_plain) (defScope s_is_plain) .none kV8 dc8 pm8 an8 cd8 ct8), sl8⟩) (c8 : PySem.W.codeIn K cd8 "is_plain" = true) (k8 : PySem.W.keepIn K (.ref f8) = true)
    {f14 : Addr} {od14 an14 : Option Addr} {sl14 : Array (Option Value)} {oc14 kV14 dc14 pm14 cd14 ct14 : Value}
    (a14 : PySem.W.nsIn K mainGlobals "is_body" = some (some (.ref f14))) (l14 : K.lookup f14 = some ⟨oc14, od14, .func (PySem.W.fnOf "is_body" "is_body" (defArgs s_is_body) (defBody s_is_body) (defScope s_is_body) .none kV14 dc14 pm14 an14 cd14 ct14), sl14⟩) (c14 : PySem.W.codeIn K cd14 "is_body" = true) (k14 : PySem.W.keepIn K (.ref f14) = true)
    {f7 : Addr} {od7 an7 : Option Addr} {sl7 : Array (Option Value)} {oc7 kV7 dc7 pm7 cd7 ct7 : Value}
    (a7 : PySem.W.nsIn K mainGlobals "is_name" = some (some (.ref f7))) (l7 : K.lookup f7 = some ⟨oc7, od7, .func (PySem.W.fnOf "is_name" "is_name" (defArgs s_is_name) (defBody s_is_name) (defScope s_is_name) .none kV7 dc7 pm7 an7 cd7 ct7), sl7⟩) (c7 : PySem.W.codeIn K cd7 "is_name" = true) (k7 : PySem.W.keepIn K (.ref f7) = true)
    {f1 : Addr} {od1 an1 : Option Addr} {sl1 : Array (Option Value)} {oc1 kV1 dc1 pm1 cd1 ct1 : Value}
    (a1 : PySem.W.nsIn K mainGlobals "is_integer" = some (some (.ref f1))) (l1 : K.lookup f1 = some ⟨oc1, od1, .func (PySem.W.fnOf "is_integer" "is_integer" (defArgs s_is_integer) (defBody s_is_integer) (defScope s_is_integer) .none kV1 dc1 pm1 an1 cd1 ct1), sl1⟩) (c1 : PySem.W.codeIn K cd1 "is_integer" = true) (k1 : PySem.W.keepIn K (.ref f1) = true)
    {f2 : Addr} {od2 an2 : Option Addr} {sl2 : Array (Option Value)} {oc2 kV2 dc2 pm2 cd2 ct2 : Value}
    (a2 : PySem.W.nsIn K mainGlobals "is_within" = some (some (.ref f2))) (l2 : K.lookup f2 = some ⟨oc2, od2, .func (PySem.W.fnOf "is_within" "is_within" (defArgs s_is_within) (defBody s_is_within) (defScope s_is_within) .none kV2 dc2 pm2 an2 cd2 ct2), sl2⟩) (c2 : PySem.W.codeIn K cd2 "is_within" = true) (k2 : PySem.W.keepIn K (.ref f2) = true)
    {f17 : Addr} {od17 an17 : Option Addr} {sl17 : Array (Option Value)} {oc17 kV17 dc17 pm17 cd17 ct17 : Value}
    (a17 : PySem.W.nsIn K mainGlobals "is_item" = some (some (.ref f17))) (l17 : K.lookup f17 = some ⟨oc17, od17, .func (PySem.W.fnOf "is_item" "is_item" (defArgs s_is_item) (defBody s_is_item) (defScope s_is_item) .none kV17 dc17 pm17 an17 cd17 ct17), sl17⟩) (c17 : PySem.W.codeIn K cd17 "is_item" = true) (k17 : PySem.W.keepIn K (.ref f17) = true)
    {f15 : Addr} {od15 an15 : Option Addr} {sl15 : Array (Option Value)} {oc15 kV15 dc15 pm15 cd15 ct15 : Value}
    (a15 : PySem.W.nsIn K mainGlobals "is_number" = some (some (.ref f15))) (l15 : K.lookup f15 = some ⟨oc15, od15, .func (PySem.W.fnOf "is_number" "is_number" (defArgs s_is_number) (defBody s_is_number) (defScope s_is_number) .none kV15 dc15 pm15 an15 cd15 ct15), sl15⟩) (c15 : PySem.W.codeIn K cd15 "is_number" = true) (k15 : PySem.W.keepIn K (.ref f15) = true)
    {f16 : Addr} {od16 an16 : Option Addr} {sl16 : Array (Option Value)} {oc16 kV16 dc16 pm16 cd16 ct16 : Value}
    (a16 : PySem.W.nsIn K mainGlobals "is_token" = some (some (.ref f16))) (l16 : K.lookup f16 = some ⟨oc16, od16, .func (PySem.W.fnOf "is_token" "is_token" (defArgs s_is_token) (defBody s_is_token) (defScope s_is_token) .none kV16 dc16 pm16 an16 cd16 ct16), sl16⟩) (c16 : PySem.W.codeIn K cd16 "is_token" = true) (k16 : PySem.W.keepIn K (.ref f16) = true)
    {f34 : Addr} {od34 an34 : Option Addr} {sl34 : Array (Option Value)} {oc34 kV34 dc34 pm34 cd34 ct34 : Value}
    (a34 : PySem.W.nsIn K mainGlobals "_law_right" = some (some (.ref f34))) (l34 : K.lookup f34 = some ⟨oc34, od34, .func (PySem.W.fnOf "_law_right" "_law_right" (defArgs s__law_right) (defBody s__law_right) (defScope s__law_right) .none kV34 dc34 pm34 an34 cd34 ct34), sl34⟩) (c34 : PySem.W.codeIn K cd34 "_law_right" = true) (k34 : PySem.W.keepIn K (.ref f34) = true)
    {f35 : Addr} {od35 an35 : Option Addr} {sl35 : Array (Option Value)} {oc35 kV35 dc35 pm35 cd35 ct35 : Value}
    (a35 : PySem.W.nsIn K mainGlobals "law" = some (some (.ref f35))) (l35 : K.lookup f35 = some ⟨oc35, od35, .func (PySem.W.fnOf "law" "law" (defArgs s_law) (defBody s_law) (defScope s_law) .none kV35 dc35 pm35 an35 cd35 ct35), sl35⟩) (c35 : PySem.W.codeIn K cd35 "law" = true) (k35 : PySem.W.keepIn K (.ref f35) = true)
    (z_int : PySem.W.nsIn K mainGlobals "int" = some none)
    (z_abs : PySem.W.nsIn K mainGlobals "abs" = some none)
    (z_len : PySem.W.nsIn K mainGlobals "len" = some none)
    (z_sum : PySem.W.nsIn K mainGlobals "sum" = some none)
    (z_dict : PySem.W.nsIn K mainGlobals "dict" = some none)
    (z_list : PySem.W.nsIn K mainGlobals "list" = some none)
    (z_range : PySem.W.nsIn K mainGlobals "range" = some none)
    (z_isinstance : PySem.W.nsIn K mainGlobals "isinstance" = some none)
    (z_bool : PySem.W.nsIn K mainGlobals "bool" = some none)
    (z_tuple : PySem.W.nsIn K mainGlobals "tuple" = some none)
    (z_str : PySem.W.nsIn K mainGlobals "str" = some none)
    (z_repr : PySem.W.nsIn K mainGlobals "repr" = some none)
    (z_max : PySem.W.nsIn K mainGlobals "max" = some none)
    (z_min : PySem.W.nsIn K mainGlobals "min" = some none)
    {t_MOST_PLAIN : Tok} (v_MOST_PLAIN : PySem.W.nsIn K mainGlobals "MOST_PLAIN" = some (some (.int (60) t_MOST_PLAIN)))
    {t_MOST_BODY : Tok} (v_MOST_BODY : PySem.W.nsIn K mainGlobals "MOST_BODY" = some (some (.int (40) t_MOST_BODY)))
    {t_MOST_NAME : Tok} (v_MOST_NAME : PySem.W.nsIn K mainGlobals "MOST_NAME" = some (some (.int (8) t_MOST_NAME)))
    {t_MOST_TICKS : Tok} (v_MOST_TICKS : PySem.W.nsIn K mainGlobals "MOST_TICKS" = some (some (.int (50) t_MOST_TICKS)))
    {t_MOST_PRIORITY : Tok} (v_MOST_PRIORITY : PySem.W.nsIn K mainGlobals "MOST_PRIORITY" = some (some (.int (3) t_MOST_PRIORITY)))
    {t_MOST_NUMBER : Tok} (v_MOST_NUMBER : PySem.W.nsIn K mainGlobals "MOST_NUMBER" = some (some (.int (999999999999) t_MOST_NUMBER)))
    : ∃ fd : FuncData, (∀ (s : Shared) (v : Value), BindsTo s fd ⟨[v], []⟩ [("_law_script", v)]) ∧ ∀ base : Heap, K.In base → base.Ns mainGlobals mg → FnG l.prog w K mg base CX0 6 fa fd ["_law_script"] (sp_law K) := by
  have hl : PySem.W.nsIn K mainGlobals "law" = some (some (.ref f35)) := a35
  have e := hfa.symm.trans (PySem.W.mg_of X G a35)
  cases e
  have T : Txt K mg := ⟨PySem.W.mg_none_of X G z_int, PySem.W.mg_none_of X G z_abs, PySem.W.mg_none_of X G z_len, PySem.W.mg_none_of X G z_sum, PySem.W.mg_none_of X G z_dict, PySem.W.mg_none_of X G z_list, PySem.W.mg_none_of X G z_range, PySem.W.mg_none_of X G z_isinstance, PySem.W.mg_none_of X G z_bool, PySem.W.mg_none_of X G z_tuple, PySem.W.mg_none_of X G z_str, PySem.W.mg_none_of X G z_repr, PySem.W.mg_none_of X G z_max, PySem.W.mg_none_of X G z_min, ⟨_, PySem.W.mg_of X G v_MOST_PLAIN, ⟨_, rfl⟩⟩, ⟨_, PySem.W.mg_of X G v_MOST_BODY, ⟨_, rfl⟩⟩, ⟨_, PySem.W.mg_of X G v_MOST_NAME, ⟨_, rfl⟩⟩, ⟨_, PySem.W.mg_of X G v_MOST_TICKS, ⟨_, rfl⟩⟩, ⟨_, PySem.W.mg_of X G v_MOST_PRIORITY, ⟨_, rfl⟩⟩, ⟨_, PySem.W.mg_of X G v_MOST_NUMBER, ⟨_, rfl⟩⟩⟩
  have D__law_box : Df K mg "_law_box" s__law_box ["_law_great"] := df_mk X G a20 l20 c20 k20 fun _ _ _ _ _ _ us hl => match us, hl with | [_], _ => rfl
  have D__law_cell : Df K mg "_law_cell" s__law_cell ["_law_script", "_law_k"] := df_mk X G a19 l19 c19 k19 fun _ _ _ _ _ _ us hl => match us, hl with | [_, _], _ => rfl
  have D__law_take : Df K mg "_law_take" s__law_take ["_law_box_here", "_law_many"] := df_mk X G a21 l21 c21 k21 fun _ _ _ _ _ _ us hl => match us, hl with | [_, _], _ => rfl
  have D__law_shape : Df K mg "_law_shape" s__law_shape ["_law_box_here", "_law_value"] := df_mk X G a31 l31 c31 k31 fun _ _ _ _ _ _ us hl => match us, hl with | [_, _], _ => rfl
  have D__law_odd : Df K mg "_law_odd" s__law_odd ["_law_box_here"] := df_mk X G a25 l25 c25 k25 fun _ _ _ _ _ _ us hl => match us, hl with | [_], _ => rfl
  have D__law_spoiled : Df K mg "_law_spoiled" s__law_spoiled ["_law_box_here", "_law_value"] := df_mk X G a32 l32 c32 k32 fun _ _ _ _ _ _ us hl => match us, hl with | [_, _], _ => rfl
  have D__law_text : Df K mg "_law_text" s__law_text ["_law_box_here", "_law_most"] := df_mk X G a23 l23 c23 k23 fun _ _ _ _ _ _ us hl => match us, hl with | [_, _], _ => rfl
  have D__law_name : Df K mg "_law_name" s__law_name ["_law_box_here"] := df_mk X G a22 l22 c22 k22 fun _ _ _ _ _ _ us hl => match us, hl with | [_], _ => rfl
  have D__law_item : Df K mg "_law_item" s__law_item ["_law_box_here"] := df_mk X G a24 l24 c24 k24 fun _ _ _ _ _ _ us hl => match us, hl with | [_], _ => rfl
  have D__law_within : Df K mg "_law_within" s__law_within ["_law_value", "_law_least", "_law_most"] := df_mk X G a26 l26 c26 k26 fun _ _ _ _ _ _ us hl => match us, hl with | [_, _, _], _ => rfl
  have D__law_is_token : Df K mg "_law_is_token" s__law_is_token ["_law_value"] := df_mk X G a29 l29 c29 k29 fun _ _ _ _ _ _ us hl => match us, hl with | [_], _ => rfl
  have D__law_is_body : Df K mg "_law_is_body" s__law_is_body ["_law_value"] := df_mk X G a28 l28 c28 k28 fun _ _ _ _ _ _ us hl => match us, hl with | [_], _ => rfl
  have D__law_is_name : Df K mg "_law_is_name" s__law_is_name ["_law_value"] := df_mk X G a27 l27 c27 k27 fun _ _ _ _ _ _ us hl => match us, hl with | [_], _ => rfl
  have D__law_is_item : Df K mg "_law_is_item" s__law_is_item ["_law_value"] := df_mk X G a30 l30 c30 k30 fun _ _ _ _ _ _ us hl => match us, hl with | [_], _ => rfl
  have D__law_told : Df K mg "_law_told" s__law_told ["_law_answer", "_law_due"] := df_mk X G a33 l33 c33 k33 fun _ _ _ _ _ _ us hl => match us, hl with | [_, _], _ => rfl
  have D_is_signs : Df K mg "is_signs" s_is_signs ["value"] := df_mk X G a3 l3 c3 k3 fun _ _ _ _ _ _ us hl => match us, hl with | [_], _ => rfl
  have D_is_plain : Df K mg "is_plain" s_is_plain ["value"] := df_mk X G a8 l8 c8 k8 fun _ _ _ _ _ _ us hl => match us, hl with | [_], _ => rfl
  have D_is_body : Df K mg "is_body" s_is_body ["value"] := df_mk X G a14 l14 c14 k14 fun _ _ _ _ _ _ us hl => match us, hl with | [_], _ => rfl
  have D_is_name : Df K mg "is_name" s_is_name ["value"] := df_mk X G a7 l7 c7 k7 fun _ _ _ _ _ _ us hl => match us, hl with | [_], _ => rfl
  have D_is_integer : Df K mg "is_integer" s_is_integer ["value"] := df_mk X G a1 l1 c1 k1 fun _ _ _ _ _ _ us hl => match us, hl with | [_], _ => rfl
  have D_is_within : Df K mg "is_within" s_is_within ["value", "least", "most"] := df_mk X G a2 l2 c2 k2 fun _ _ _ _ _ _ us hl => match us, hl with | [_, _, _], _ => rfl
  have D_is_item : Df K mg "is_item" s_is_item ["value"] := df_mk X G a17 l17 c17 k17 fun _ _ _ _ _ _ us hl => match us, hl with | [_], _ => rfl
  have D_is_number : Df K mg "is_number" s_is_number ["value"] := df_mk X G a15 l15 c15 k15 fun _ _ _ _ _ _ us hl => match us, hl with | [_], _ => rfl
  have D_is_token : Df K mg "is_token" s_is_token ["value"] := df_mk X G a16 l16 c16 k16 fun _ _ _ _ _ _ us hl => match us, hl with | [_], _ => rfl
  have D__law_right : Df K mg "_law_right" s__law_right ["_law_value"] := df_mk X G a34 l34 c34 k34 fun _ _ _ _ _ _ us hl => match us, hl with | [_], _ => rfl
  have D_law : Df K mg "law" s_law ["_law_script"] := df_mk X G a35 l35 c35 k35 fun _ _ _ _ _ _ us hl => match us, hl with | [_], _ => rfl
  refine ⟨PySem.W.fnOf "law" "law" (defArgs s_law) (defBody s_law) (defScope s_law) .none kV35 dc35 pm35 an35 cd35 ct35, fun s v => .of_eq rfl, fun base _ _ => ?_⟩
  have C__law_box : Ct l.prog w K mg base CX0 1 "_law_box" ["_law_great"] (sp__law_box K) := ok__law_box T D__law_box
  have C__law_cell : Ct l.prog w K mg base CX0 1 "_law_cell" ["_law_script", "_law_k"] (sp__law_cell K) := ok__law_cell T D__law_cell
  have C__law_take : Ct l.prog w K mg base CX0 1 "_law_take" ["_law_box_here", "_law_many"] (sp__law_take K) := ok__law_take T D__law_take
  have C__law_shape : Ct l.prog w K mg base CX0 2 "_law_shape" ["_law_box_here", "_law_value"] (sp__law_shape K) := ok__law_shape T C__law_take D__law_shape
  have C__law_odd : Ct l.prog w K mg base CX0 2 "_law_odd" ["_law_box_here"] (sp__law_odd K) := ok__law_odd C__law_take D__law_odd
  have C__law_spoiled : Ct l.prog w K mg base CX0 3 "_law_spoiled" ["_law_box_here", "_law_value"] (sp__law_spoiled K) := ok__law_spoiled T C__law_take C__law_odd D__law_spoiled
  have C__law_text : Ct l.prog w K mg base CX0 2 "_law_text" ["_law_box_here", "_law_most"] (sp__law_text K) := ok__law_text T C__law_take D__law_text
  have C__law_name : Ct l.prog w K mg base CX0 2 "_law_name" ["_law_box_here"] (sp__law_name K) := ok__law_name T C__law_take D__law_name
  have C__law_item : Ct l.prog w K mg base CX0 3 "_law_item" ["_law_box_here"] (sp__law_item K) := ok__law_item C__law_take C__law_text C__law_name D__law_item
  have C__law_within : Ct l.prog w K mg base CX0 1 "_law_within" ["_law_value", "_law_least", "_law_most"] (sp__law_within K) := ok__law_within T D__law_within
  have C__law_is_token : Ct l.prog w K mg base CX0 2 "_law_is_token" ["_law_value"] (sp__law_is_token K) := ok__law_is_token T C__law_within D__law_is_token
  have C__law_is_body : Ct l.prog w K mg base CX0 1 "_law_is_body" ["_law_value"] (sp__law_is_body K) := ok__law_is_body T D__law_is_body
  have C__law_is_name : Ct l.prog w K mg base CX0 1 "_law_is_name" ["_law_value"] (sp__law_is_name K) := ok__law_is_name T D__law_is_name
  have C__law_is_item : Ct l.prog w K mg base CX0 2 "_law_is_item" ["_law_value"] (sp__law_is_item K) := ok__law_is_item T C__law_is_body C__law_is_name C__law_within D__law_is_item
  have C__law_told : Ct l.prog w K mg base CX0 1 "_law_told" ["_law_answer", "_law_due"] (sp__law_told K) := ok__law_told D__law_told
  have C_is_signs : Ct l.prog w K mg base CX0 1 "is_signs" ["value"] (sp_is_signs K) := ok_is_signs T D_is_signs
  have C_is_plain : Ct l.prog w K mg base CX0 2 "is_plain" ["value"] (sp_is_plain K) := ok_is_plain T C_is_signs D_is_plain
  have C_is_body : Ct l.prog w K mg base CX0 3 "is_body" ["value"] (sp_is_body K) := ok_is_body T C_is_plain D_is_body
  have C_is_name : Ct l.prog w K mg base CX0 2 "is_name" ["value"] (sp_is_name K) := ok_is_name T C_is_signs D_is_name
  have C_is_integer : Ct l.prog w K mg base CX0 1 "is_integer" ["value"] (sp_is_integer K) := ok_is_integer T D_is_integer
  have C_is_within : Ct l.prog w K mg base CX0 2 "is_within" ["value", "least", "most"] (sp_is_within K) := ok_is_within C_is_integer D_is_within
  have C_is_item : Ct l.prog w K mg base CX0 4 "is_item" ["value"] (sp_is_item K) := ok_is_item T C_is_body C_is_name C_is_within D_is_item
  have C_is_number : Ct l.prog w K mg base CX0 3 "is_number" ["value"] (sp_is_number K) := ok_is_number T C_is_within D_is_number
  have C_is_token : Ct l.prog w K mg base CX0 4 "is_token" ["value"] (sp_is_token K) := ok_is_token T C_is_number D_is_token
  have K_is_item : CtK l.prog w K mg base CX0 4 "is_item" ["value"] ["value"] perm_0 (sp_is_item K) := C_is_item.kw D_is_item (fun _ _ _ _ _ _ ws hl => match ws, hl with | [_], _ => rfl) perm_0_ok
  have C__law_right : Cg l.prog w K mg base CX0 5 "_law_right" ["_law_value"] (sp__law_right K) := ok__law_right T C__law_told C__law_is_item C_is_item C__law_is_token C_is_token K_is_item D__law_right
  have K_is_token : CtK l.prog w K mg base CX0 4 "is_token" ["value"] ["value"] perm_0 (sp_is_token K) := C_is_token.kw D_is_token (fun _ _ _ _ _ _ ws hl => match ws, hl with | [_], _ => rfl) perm_0_ok
  have C_law : Cg l.prog w K mg base CX0 6 "law" ["_law_script"] (sp_law K) := ok_law T C__law_box C__law_cell C__law_take C__law_shape C__law_spoiled C__law_item C__law_is_token C__law_is_item C__law_right C__law_told K_is_token D_law
  exact law_gn C_law hfa l35
theorem walk {l : PySem.W.OpenLaw} {q : Program} {loose : List Str} {XP : (Str → Option Value) → Heap → Prop} {YP : World → Heap → Prop} {d : DefRec} {K : Params → PySem.W.Frag} (hn : l.most = some 63) (hdf : d.params.defaults = [])
    (hY : ∀ (w : World) (h : Heap), YP w h → (K w.params).In h)
    (F : ∀ (w : World) (mg : Str → Option Value) (fa : Addr) (h : Heap), (K w.params).In h → h.Ns mainGlobals mg → mg d.name = some (.ref fa) →
      ∃ fd : FuncData, (∀ (s : Shared) (u : Value), BindsTo s fd ⟨[u], []⟩ [("_law_script", u)]) ∧ ∀ base : Heap, (K w.params).In base → base.Ns mainGlobals mg → FnG l.prog w (K w.params) mg base CX0 6 fa fd ["_law_script"] (sp_law (K w.params))) :
    PySem.W.WalkO q loose XP YP l.row.toRowW d [] (fun f vs => PySem.call f vs) :=
  walk_g (n := 63) (k := 6) (x := "_law_script") (CX := CX0) (sp := fun w => sp_law (K w.params)) hn (by decide) hdf ⟨⟨rfl, by decide, by decide⟩, rfl⟩ hY F (fun _ _ a ns hl hS => law_asks a ns hl hS) fun _ _ _ _ z => z
end L03_

open PySem PySem.W PyProof.Rows in
set_option maxRecDepth 100000 in
set_option maxHeartbeats 0 in
theorem PySem.Challenge.cw_inorderonce_k03_items_and_tokens_holds : PySem.Challenge.rw_inorderonce_k03_items_and_tokens.Holds := by
  w_on; o_law; k_head; (case hw => w_witness2)
  k_fill
  refine L03_.walk (l := PySem.Challenge.rw_inorderonce_k03_items_and_tokens) rfl rfl (fun w h Y => PySem.W.kIn_of Y) ?F
  case F =>
    intro w mg fa h KX G hmg
    refine' L03_.all_mk KX G hmg ?a20 ?l20 ?c20 ?k20 ?a19 ?l19 ?c19 ?k19 ?a21 ?l21 ?c21 ?k21 ?a31 ?l31 ?c31 ?k31 ?a25 ?l25 ?c25 ?k25 ?a32 ?l32 ?c32 ?k32 ?a23 ?l23 ?c23 ?k23 ?a22 ?l22 ?c22 ?k22 ?a24 ?l24 ?c24 ?k24 ?a26 ?l26 ?c26 ?k26 ?a29 ?l29 ?c29 ?k29 ?a28 ?l28 ?c28 ?k28 ?a27 ?l27 ?c27 ?k27 ?a30 ?l30 ?c30 ?k30 ?a33 ?l33 ?c33 ?k33 ?a3 ?l3 ?c3 ?k3 ?a8 ?l8 ?c8 ?k8 ?a14 ?l14 ?c14 ?k14 ?a7 ?l7 ?c7 ?k7 ?a1 ?l1 ?c1 ?k1 ?a2 ?l2 ?c2 ?k2 ?a17 ?l17 ?c17 ?k17 ?a15 ?l15 ?c15 ?k15 ?a16 ?l16 ?c16 ?k16 ?a34 ?l34 ?c34 ?k34 ?a35 ?l35 ?c35 ?k35 ?z_int ?z_abs ?z_len ?z_sum ?z_dict ?z_list ?z_range ?z_isinstance ?z_bool ?z_tuple ?z_str ?z_repr ?z_max ?z_min ?v_MOST_PLAIN ?v_MOST_BODY ?v_MOST_NAME ?v_MOST_TICKS ?v_MOST_PRIORITY ?v_MOST_NUMBER
    (case a20 => k_is)
    (case l20 => k_is)
    (case c20 => k_is)
    (case k20 => k_is)
    (case a19 => k_is)
    (case l19 => k_is)
    (case c19 => k_is)
    (case k19 => k_is)
    (case a21 => k_is)
    (case l21 => k_is)
    (case c21 => k_is)
    (case k21 => k_is)
    (case a31 => k_is)
    (case l31 => k_is)
    (case c31 => k_is)
    (case k31 => k_is)
    (case a25 => k_is)
    (case l25 => k_is)
    (case c25 => k_is)
    (case k25 => k_is)
    (case a32 => k_is)
    (case l32 => k_is)
    (case c32 => k_is)
    (case k32 => k_is)
    (case a23 => k_is)
    (case l23 => k_is)
    (case c23 => k_is)
    (case k23 => k_is)
    (case a22 => k_is)
    (case l22 => k_is)
    (case c22 => k_is)
    (case k22 => k_is)
    (case a24 => k_is)
    (case l24 => k_is)
    (case c24 => k_is)
    (case k24 => k_is)
    (case a26 => k_is)
    (case l26 => k_is)
    (case c26 => k_is)
    (case k26 => k_is)
    (case a29 => k_is)
    (case l29 => k_is)
    (case c29 => k_is)
    (case k29 => k_is)
    (case a28 => k_is)
    (case l28 => k_is)
    (case c28 => k_is)
    (case k28 => k_is)
    (case a27 => k_is)
    (case l27 => k_is)
    (case c27 => k_is)
    (case k27 => k_is)
    (case a30 => k_is)
    (case l30 => k_is)
    (case c30 => k_is)
    (case k30 => k_is)
    (case a33 => k_is)
    (case l33 => k_is)
    (case c33 => k_is)
    (case k33 => k_is)
    (case a3 => k_is)
    (case l3 => k_is)
    (case c3 => k_is)
    (case k3 => k_is)
    (case a8 => k_is)
    (case l8 => k_is)
    (case c8 => k_is)
    (case k8 => k_is)
    (case a14 => k_is)
    (case l14 => k_is)
    (case c14 => k_is)
    (case k14 => k_is)
    (case a7 => k_is)
    (case l7 => k_is)
    (case c7 => k_is)
    (case k7 => k_is)
    (case a1 => k_is)
    (case l1 => k_is)
    (case c1 => k_is)
    (case k1 => k_is)
    (case a2 => k_is)
    (case l2 => k_is)
    (case c2 => k_is)
    (case k2 => k_is)
    (case a17 => k_is)
    (case l17 => k_is)
    (case c17 => k_is)
    (case k17 => k_is)
    (case a15 => k_is)
    (case l15 => k_is)
    (case c15 => k_is)
    (case k15 => k_is)
    (case a16 => k_is)
    (case l16 => k_is)
    (case c16 => k_is)
    (case k16 => k_is)
    (case a34 => k_is)
    (case l34 => k_is)
    (case c34 => k_is)
    (case k34 => k_is)
    (case a35 => k_is)
    (case l35 => k_is)
    (case c35 => k_is)
    (case k35 => k_is)
    (case z_int => k_is)
    (case z_abs => k_is)
    (case z_len => k_is)
    (case z_sum => k_is)
    (case z_dict => k_is)
    (case z_list => k_is)
    (case z_range => k_is)
    (case z_isinstance => k_is)
    (case z_bool => k_is)
    (case z_tuple => k_is)
    (case z_str => k_is)
    (case z_repr => k_is)
    (case z_max => k_is)
    (case z_min => k_is)
    (case v_MOST_PLAIN => k_is)
    (case v_MOST_BODY => k_is)
    (case v_MOST_NAME => k_is)
    (case v_MOST_TICKS => k_is)
    (case v_MOST_PRIORITY => k_is)
    (case v_MOST_NUMBER => k_is)

