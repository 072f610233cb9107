import PyProof.Rows.All
import Wide.All
import OpenK.AllK
import Wide.FinOn
import HandS.ForMost
import HandS.IsInst
import HandS.StrMore
import HandS.TupAny
import HandS.TupLe
import HandS.Codes
import PySem.Challenge.RW_inorderonce_k09_frames_there_and_back
set_option Elab.async false
set_option linter.all false
set_option maxRecDepth 100000
set_option maxHeartbeats 8000000
/-! Z: own layer over the hand layer: readings that compute. -/
namespace Z
open PySem PySem.Spec PyProof.Rows L2

/-! ### heaps -/
/-- H2 is H with a new object at p -/
structure Nw (H : Hp) (p : Addr) (o : HO) (H2 : Hp) : Prop where
  fresh : H p = none
  here : H2 p = some o
  off : ∀ a, a ≠ p → H2 a = H a
/-- H2 is H with another object at l -/
structure Wr (H : Hp) (l : Addr) (o : HO) (H2 : Hp) : Prop where
  here : H2 l = some o
  off : ∀ a, a ≠ l → H2 a = H a
/-- all that was tracked is there, but for b -/
def But (b : Addr) (H H2 : Hp) : Prop := ∀ a o, a ≠ b → H a = some o → H2 a = some o
theorem nw {H : Hp} {p : Addr} {o : HO} (h : H p = none) : Nw H p o (upd H p o) := ⟨h, upd_same, fun _ e => upd_ne e⟩
theorem wr {H : Hp} {p : Addr} {o : HO} : Wr H p o (upd H p o) := ⟨upd_same, fun _ e => upd_ne e⟩
theorem Nw.keep {H H2 : Hp} {p a : Addr} {o u : HO} (n : Nw H p o H2) (h : H a = some u) : H2 a = some u := by
  rw [n.off a (ne_of_none h n.fresh)]
  exact h
theorem Nw.same {H H2 : Hp} {p : Addr} {o : HO} (n : Nw H p o H2) : Same H H2 := fun _ _ h => n.keep h
theorem Wr.keep {H H2 : Hp} {l a : Addr} {o u : HO} (n : Wr H l o H2) (e : a ≠ l) (h : H a = some u) : H2 a = some u := by
  rw [n.off a e]
  exact h
theorem Wr.but {H H2 : Hp} {l : Addr} {o : HO} (n : Wr H l o H2) : But l H H2 := fun a _ e h => n.keep e h
theorem Nw.but {H H2 : Hp} {p b : Addr} {o : HO} (n : Nw H p o H2) : But b H H2 := fun _ _ _ h => n.keep h
theorem But.refl (b : Addr) (H : Hp) : But b H H := fun _ _ _ h => h
theorem But.trans {b : Addr} {H H1 H2 : Hp} (x : But b H H1) (y : But b H1 H2) : But b H H2 := fun a o e h => y a o e (x a o e h)
theorem But.of {b : Addr} {H H1 : Hp} (x : Same H H1) : But b H H1 := fun a o _ h => x a o h
theorem But.at {b a : Addr} {o : HO} {H H1 : Hp} (x : But b H H1) (e : a ≠ b) (h : H a = some o) : H1 a = some o := x a o e h
/-- what was new to H and written later: H is kept -/
theorem _root_.L2.Same.wr {H H1 H2 : Hp} {l : Addr} {o : HO} (x : Same H H1) (f : H l = none) (w : Wr H1 l o H2) : Same H H2 := fun a u h =>
  w.keep (ne_of_none h f) (x a u h)
theorem _root_.L2.Same.but {H H1 H2 : Hp} {l : Addr} (x : Same H H1) (f : H l = none) (w : But l H1 H2) : Same H H2 := fun a u h =>
  w a u (ne_of_none h f) (x a u h)
theorem But.butNew {b l : Addr} {H H1 H2 : Hp} (x : But b H H1) (f : H l = none) (w : But l H1 H2) (hb : H b ≠ none → True) : But b H H2 := fun a u e h =>
  w a u (ne_of_none h f) (x a u e h)
theorem But.wr {b l : Addr} {o : HO} {H H1 H2 : Hp} (x : But b H H1) (f : H l = none) (w : Wr H1 l o H2) : But b H H2 := fun a u e h => w.keep (ne_of_none h f) (x a u e h)
theorem But.nw {b l : Addr} {o : HO} {H H1 H2 : Hp} (x : But b H H1) (w : Nw H1 l o H2) : But b H H2 := fun a u e h => w.keep (x a u e h)
theorem But.free {b l : Addr} {H H1 : Hp} (x : But b H H1) (e : l ≠ b) (f : H1 l = none) : H l = none := by
  cases q : H l with
  | none => rfl
  | some o =>
    rw [x l o e q] at f
    cases f
theorem sz {n : Nat} (h : n ≤ 16000000) : n ≤ sizeLine := Nat.le_trans h (by decide)
theorem szlt {n : Nat} (h : n ≤ 16000000) : n < sizeLine := Nat.lt_of_le_of_lt h (by decide)
theorem free_of {H H1 : Hp} {l : Addr} (x : Same H H1) (f : H1 l = none) : H l = none := x.free f

/-- the same of lists and tuples that are read -/
theorem sqL_same {K : PySem.W.Frag} {H H' : Hp} {a : Addr} {xs : List V} (e : Same H H') (h : SqL K H a xs) : SqL K H' a xs := e.seq h
theorem sqT_same {K : PySem.W.Frag} {H H' : Hp} {a : Addr} {xs : List V} (e : Same H H') (h : SqT K H a xs) : SqT K H' a xs := by
  rcases h with (h | ⟨o, h⟩) | h
  · exact .inl (.inl (e _ _ h))
  · exact .inl (.inr ⟨o, e _ _ h⟩)
  · exact .inr h

/-! ### names -/
def tV (i : Nat) : TE := fun σ H Q => match σ[i]? with
  | some (some v) => Q v H
  | _ => False
theorem tV_of {i : Nat} {σ : L2.St} {H : Hp} {Q : VK} (h : tV i σ H Q) : tVar i σ H Q := by
  unfold tV at h
  split at h
  · exact ⟨_, by assumption, h⟩
  · exact h.elim
section
variable {X : Cx}
theorem pz (i : Nat) {x : Str} {pos : Pos} (hN : X.N[i]? = some x := by rfl) (hv : Vis X.env.scope x := by first | exact Or.inl rfl | exact Or.inr (Or.inl rfl) | exact Or.inr (Or.inr rfl)) (hd : (x == ("__debug__" : Str)) = false := by decide)
    (hcd : (x == ("__classdict__" : Str)) = false := by decide) : PE X (.Name x pos) (tV i) :=
  ⟨fun pins s σ H Q I h => (pe_var hN hv hd hcd).run pins s σ H Q I (tV_of h)⟩
end

/-! ### operators on values, that compute -/
def zI (g : Int → Int → V) : R2 := fun x y H Q => match x, y with
  | .int i, .int j => Q (g i j) H
  | _, _ => False
def zIC (C : Int → Int → Prop) (g : Int → Int → V) : R2 := fun x y H Q => match x, y with
  | .int i, .int j => C i j ∧ Q (g i j) H
  | _, _ => False
theorem opr_w {X : Cx} {f : Value → Value → Sem Value} {r r' : R2} (h : OpR X f r') (i : ∀ x y H Q, r x y H Q → r' x y H Q) : OpR X f r :=
  fun pins s σ H x y v u Q I rx ry q => h pins s σ H x y v u Q I rx ry (i x y H Q q)
theorem zI_of {g : Int → Int → V} (x y : V) (H : Hp) (Q : VK) (h : zI g x y H Q) : rI0 g x y H Q := by
  unfold zI at h
  split at h
  · exact ⟨_, _, rfl, rfl, h⟩
  · exact h.elim
theorem zIC_of {C : Int → Int → Prop} {g : Int → Int → V} (x y : V) (H : Hp) (Q : VK) (h : zIC C g x y H Q) : rI C g x y H Q := by
  unfold zIC at h
  split at h
  · exact ⟨_, _, rfl, rfl, h.1, h.2⟩
  · exact h.elim
section
variable {X : Cx}
theorem o_sub : OpR X (binaryOp .Sub) (zI fun i j => .int (i - j)) := opr_w op_sub fun x y H Q h => zI_of x y H Q h
theorem o_mod : OpR X (binaryOp .Mod) (zIC (fun _ j => 0 < j) fun i j => .int (i % j)) := opr_w op_mod fun x y H Q h => zIC_of x y H Q h
theorem o_fdiv : OpR X (binaryOp .FloorDiv) (zIC CDiv fun i j => .int (i / j)) := opr_w op_fdiv fun x y H Q h => zIC_of x y H Q h
theorem o_pow : OpR X (binaryOp .Pow) (zIC CPow fun i j => .int (i ^ j.toNat)) := opr_w op_pow fun x y H Q h => zIC_of x y H Q h
/-- + : ints, texts, lists, tuples -/
def zAdd (K : PySem.W.Frag) : R2 := fun x y H Q => match x, y with
  | .int i, .int j => Q (.int (i + j)) H
  | .str a, .str b => a.length + b.length ≤ sizeLine ∧ Q (.str (a ++ b)) H
  | .ref l, .ref b =>
      (∃ xs zs, H l = some (.lst xs) ∧ H b = some (.lst zs) ∧ xs.length + zs.length ≤ sizeLine ∧ ∀ p H2, Nw H p (.lst (xs ++ zs)) H2 → Q (.ref p) H2) ∨
      (∃ xs zs, SqT K H l xs ∧ SqT K H b zs ∧ xs.length + zs.length ≤ sizeLine ∧ (xs = [] → Q (.ref b) H) ∧ (xs ≠ [] → zs = [] → Q (.ref l) H) ∧
        (xs ≠ [] → zs ≠ [] → ∀ p H2, Nw H p (.tup (xs ++ zs)) H2 → Q (.ref p) H2))
  | _, _ => False
theorem o_add : OpR X (binaryOp .Add) (zAdd X.K) := by
  intro pins s σ H x y v u Q I rx ry h
  unfold zAdd at h
  split at h
  · exact op_add pins s σ H _ _ v u Q I rx ry ⟨_, _, rfl, rfl, h⟩
  · exact op_add_str pins s σ H _ _ v u Q I rx ry ⟨_, _, rfl, rfl, h.1, h.2⟩
  · rcases h with ⟨xs, zs, h1, h2, h3, q⟩ | ⟨xs, zs, h1, h2, h3, q1, q2, q3⟩
    · exact op_cat pins s σ H _ _ v u Q I rx ry ⟨_, _, xs, zs, rfl, rfl, h1, h2, h3, fun p hp => q p _ (nw hp)⟩
    · exact op_catA pins s σ H _ _ v u Q I rx ry ⟨_, _, xs, zs, rfl, rfl, h1, h2, h3, q1, q2, fun a b p hp => q3 a b p _ (nw hp)⟩
  · exact h.elim
/-- a text so many times -/
def rep (x : Str) (n : Int) : Str := ⟨(List.replicate n.toNat x.cps.toList).flatten.toArray⟩
theorem rep_fold (l : List Nat) : ∀ (n : Nat) (acc : Array Nat), (List.replicate n l.toArray).foldl (· ++ ·) acc = acc ++ (List.replicate n l).flatten.toArray
  | 0, acc => by simp
  | n + 1, acc => by
    rw [List.replicate_succ, List.foldl_cons, rep_fold l n, List.replicate_succ, List.flatten_cons]
    simp [Array.append_assoc]
/-- * : ints, a text, a list -/
def zMul : R2 := fun x y H Q => match x, y with
  | .int i, .int j => CMul i j ∧ Q (.int (i * j)) H
  | .str a, .int n => -(2 ^ 62) ≤ n ∧ n < 2 ^ 62 ∧ a.length * n.toNat ≤ 1000000 ∧ Q (.str (rep a n)) H
  | .ref l, .int k => ∃ xs, H l = some (.lst xs) ∧ -(2 ^ 63) ≤ k ∧ k < 2 ^ 63 ∧ xs.length * k.toNat ≤ sizeLine ∧ ∀ p H2, Nw H p (.lst (List.replicate k.toNat xs).flatten) H2 → Q (.ref p) H2
  | _, _ => False
theorem str_size0 {a : Str} (h : a.length = 0) : a = Str.empty := by
  obtain ⟨c⟩ := a
  have h : c.size = 0 := h
  have : c = #[] := Array.eq_empty_of_size_eq_zero h
  rw [this]
  rfl
theorem o_mul : OpR X (binaryOp .Mult) zMul := by
  intro pins s σ H x y v u Q I rx ry h
  unfold zMul at h
  split at h
  · exact op_mul pins s σ H _ _ v u Q I rx ry ⟨_, _, rfl, rfl, h.1, h.2⟩
  · rename_i a n
    obtain ⟨h1, h2, h3, q⟩ := h
    obtain ⟨t, rfl⟩ := rx
    obtain ⟨t', rfl⟩ := ry
    have two : (2 : Int) ^ 62 = 4611686018427387904 := by decide
    have two3 : (2 : Int) ^ 63 = 9223372036854775808 := by decide
    refine PySem.P.mul_str ?_ (fun hn hz => ?_) (fun hn hz => ?_) ?_
    · rw [decide_eq_false (by omega), decide_eq_false (by omega)]
      rfl
    · intro hc
      have hn1 : 1 ≤ n := by omega
      have hd : ((2 : Int) ^ 63 - 1) / n * n ≤ 2 ^ 63 - 1 := Int.ediv_mul_le _ (by omega)
      have hlt : ((2 : Int) ^ 63 - 1) < (((2 : Int) ^ 63 - 1) / n + 1) * n := Int.lt_ediv_add_one_mul_self _ (by omega)
      have hle : (((2 : Int) ^ 63 - 1) / n + 1) * n ≤ (a.length : Int) * n := Int.mul_le_mul_of_nonneg_right (by omega) (by omega)
      have hcast : ((a.length * n.toNat : Nat) : Int) = (a.length : Int) * n := by
        rw [Int.natCast_mul, Int.toNat_of_nonneg (by omega)]
      omega
    · show decide (a.length * n.toNat > sizeLine) = false
      have hs : 1000000 ≤ sizeLine := by decide
      exact decide_eq_false (by omega)
    · have fit : (rep a n).length ≤ sizeLine := by
        have e : (rep a n).length = a.length * n.toNat := by
          show ((List.replicate n.toNat a.cps.toList).flatten.toArray).size = a.length * n.toNat
          rw [List.size_toArray, List.length_flatten, List.map_replicate, List.sum_replicate_nat, Array.length_toList, Nat.mul_comm]
          rfl
        have hs : 1000000 ≤ sizeLine := by decide
        omega
      have fin : ∀ (tk : Nat) (t' : Tok), EP X pins σ Q (.str (rep a n) t') { s with toks := tk } := fun tk t' => ⟨.str (rep a n), H, I.tok tk, ⟨t', rfl⟩, q⟩
      by_cases hn : n < 1
      · have e : rep a n = Str.empty := by
          have : n.toNat = 0 := by omega
          unfold rep
          rw [this]
          rfl
        rw [if_pos hn]
        rw [e] at fin
        exact ⟨by decide, fin _ _⟩
      · rw [if_neg hn]
        by_cases hz : (n == 1 || a.length == 0) = true
        · rw [if_pos hz]
          have e : rep a n = a := by
            rw [Bool.or_eq_true] at hz
            rcases hz with hz | hz
            · have : n = 1 := by simpa using hz
              subst this
              obtain ⟨c⟩ := a
              show (⟨(List.replicate (1 : Int).toNat c.toList).flatten.toArray⟩ : Str) = ⟨c⟩
              simp
            · have e0 := str_size0 (a := a) (by simpa using hz)
              subst e0
              unfold rep
              show (⟨(List.replicate n.toNat ([] : List Nat)).flatten.toArray⟩ : Str) = Str.empty
              rw [List.flatten_replicate_nil]
              rfl
          rw [e] at fin
          exact fin s.toks t
        · rw [if_neg hz]
          have e : (⟨(List.replicate n.toNat a.cps).foldl (· ++ ·) #[]⟩ : Str) = rep a n := by
            obtain ⟨c⟩ := a
            unfold rep
            have q := rep_fold c.toList n.toNat #[]
            simp only [Array.toArray_toList] at q
            rw [q]
            simp
          rw [e]
          exact ⟨fit, fin _ _⟩
  · obtain ⟨xs, h1, h2, h3, h4, q⟩ := h
    exact op_rep pins s σ H _ _ v u Q I rx ry ⟨_, _, xs, rfl, rfl, h1, h2, h3, h4, fun p hp => q p _ (nw hp)⟩
  · exact h.elim
end

/-! ### any rule, its end carried -/
def mon (t : TE) : TE := fun σ H Q => ∃ Q0 : VK, t σ H Q0 ∧ ∀ x H1, Q0 x H1 → Q x H1
def monA (t : TA) : TA := fun σ H Q => ∃ Q0 : List V → Hp → Prop, t σ H Q0 ∧ ∀ x H1, Q0 x H1 → Q x H1
def monR (r : R2) : R2 := fun x y H Q => ∃ Q0 : VK, r x y H Q0 ∧ ∀ x H1, Q0 x H1 → Q x H1
section
variable {X : Cx} {a b e o : Expr} {es rest : List Expr} {ta tb te to : TE} {t t' : TE} {pos : Pos}
theorem pe_w (h : PE X e t) (i : ∀ σ H Q, t' σ H Q → t σ H Q) : PE X e t' := ⟨fun pins s σ H Q I q => h.run pins s σ H Q I (i σ H Q q)⟩
theorem pt_w {t t' : TT} (h : PT X e t) (i : ∀ σ H Q, t' σ H Q → t σ H Q) : PT X e t' := ⟨fun pins s σ H Q I q => h.run pins s σ H Q I (i σ H Q q)⟩
theorem po_w {e : Option Expr} {t t' : TO} (h : PO X e t) (i : ∀ σ H Q, t' σ H Q → t σ H Q) : PO X e t' := ⟨fun pins s σ H Q I q => h.run pins s σ H Q I (i σ H Q q)⟩
theorem ps_w {st : Stmt} {t t' : TS} (h : PS X st t) (i : ∀ D σ H, t' D σ H → t D σ H) : PS X st t' := ⟨fun pins s σ H D I q => h.run pins s σ H D I (i D σ H q)⟩
theorem pg_w {g : Expr} {t t' : TG} (h : PG X g t) (i : ∀ v σ H Q, t' v σ H Q → t v σ H Q) : PG X g t' := ⟨fun pins s σ H v u Q I r q => h.run pins s σ H v u Q I r (i v σ H Q q)⟩
theorem pi_w {g e : Expr} {t t' : TI} (h : PI X g e t) (i : ∀ σ H R, t' σ H R → t σ H R) : PI X g e t' := ⟨fun pins s σ H R I q => h.run pins s σ H R I (i σ H R q)⟩
theorem callr_w {f : Value} {r r' : List V → Hp → VK → Prop} (h : CallR X f r') (i : ∀ vs H Q, r vs H Q → r' vs H Q) : CallR X f r :=
  fun pins s σ H xs us Q I rs q => h pins s σ H xs us Q I rs (i xs H Q q)
theorem pe_mon (h : PE X e t) : PE X e (mon t) := ⟨fun pins s σ H Q I ⟨Q0, q, i⟩ => thn (h.run pins s σ H Q0 I q) fun u s' ⟨v, H', I', r, z⟩ => ⟨v, H', I', r, i v H' z⟩⟩
theorem pa_mon {t : TA} (h : PA X es t) : PA X es (monA t) := ⟨fun pos pins s σ H Q I ⟨Q0, q, i⟩ => thn (h.run pos pins s σ H Q0 I q) fun u s' ⟨v, H', I', r, z⟩ => ⟨v, H', I', r, i v H' z⟩⟩
theorem opr_mon {f : Value → Value → Sem Value} {r : R2} (h : OpR X f r) : OpR X f (monR r) := fun pins s σ H x y v u Q I rx ry ⟨Q0, q, i⟩ =>
  thn (h pins s σ H x y v u Q0 I rx ry q) fun u s' ⟨v, H', I', r, z⟩ => ⟨v, H', I', r, i v H' z⟩

/-! ### tests and bools -/
/-- what follows of a bool -/
def zB (x : V) (H : Hp) (Q : Bool → Hp → Prop) : Prop := match x with
  | .bl k => Q k H
  | _ => False
theorem zB_of {x : V} {H : Hp} {Q : Bool → Hp → Prop} (h : zB x H Q) : ∃ k, x = .bl k ∧ Q k H := by
  unfold zB at h
  split at h
  · exact ⟨_, rfl, h⟩
  · exact h.elim
def tBz (t : TE) : TT := fun σ H Q => t σ H fun x H1 => zB x H1 Q
theorem pt_cmpZ {op : CmpOp} {r : R2} (ho : OpR X (compareOp op) r) (ha : PE X a ta) (hb : PE X b tb) (hm : behindInMarks op b = false) : PT X (.Compare a [op] [b] pos) (tBz (tOp r ta tb)) :=
  pt_w (pt_cmpR (opr_mon ho) (pe_mon ha) (pe_mon hb) hm) fun σ H Q h => ⟨_, h, fun x H1 h1 => ⟨_, h1, fun y H2 h2 => ⟨_, h2, fun z H3 h3 => zB_of h3⟩⟩⟩
theorem pt_chainZ {c : Expr} {tc : TE} {op op' : CmpOp} {r r' : R2} (h : PE X (.Compare a [op, op'] [b, c] pos) t) (he : ∀ whole, isTrue (.Compare a [op, op'] [b, c] pos) X.env whole = (do let v ← whole; standAt (Expr.Compare a [op, op'] [b, c] pos).pos; holding [v] (truthy v)) := by intro _; rfl) :
    PT X (.Compare a [op, op'] [b, c] pos) (tBz t) := pt_w (pt_val (pe_mon h) he) fun σ H Q h => ⟨_, h, fun x H1 h1 => zB_of h1⟩
/-- a < b < c as a value -/
def tChZ (r r' : R2) (ta tb tc : TE) : TE := fun σ H Q => ta σ H fun x H1 => tb σ H1 fun y H2 => r x y H2 fun z H3 => zB z H3 fun k H3 => if k = true then tc σ H3 fun w' H4 => r' y w' H4 Q else Q (.bl false) H3
theorem pe_chZ {c : Expr} {tc : TE} {op op' : CmpOp} {r r' : R2} (h : PE X (.Compare a [op, op'] [b, c] pos) (tChain (monR r) r' (mon ta) (mon tb) tc)) : PE X (.Compare a [op, op'] [b, c] pos) (tChZ r r' ta tb tc) :=
  pe_w h fun σ H Q h => ⟨_, h, fun x H1 h1 => ⟨_, h1, fun y H2 h2 => ⟨_, h2, fun z H3 h3 => zB_of h3⟩⟩⟩
/-- an expression's truth -/
def zTr (K : PySem.W.Frag) (x : V) (H : Hp) (Q : Bool → Hp → Prop) : Prop := match x with
  | .bl k => Q k H
  | .non => Q false H
  | .int i => Q (i != 0) H
  | .str y => y.length ≤ sizeLine ∧ Q ((y.length : Int) != 0) H
  | .ref p => (∃ xs, SqL K H p xs ∧ Q (!xs.isEmpty) H) ∨ (∃ xs, SqT K H p xs ∧ Q (!xs.isEmpty) H) ∨ ∃ kvs, H p = some (.dK kvs) ∧ Q (!kvs.isEmpty) H
  | _ => False
theorem zTr_of {K : PySem.W.Frag} {x : V} {H : Hp} {Q : Bool → Hp → Prop} (h : zTr K x H Q) : ∃ k, TruV K x H k ∧ Q k H := by
  unfold zTr at h
  split at h
  · exact ⟨_, rfl, h⟩
  · exact ⟨_, rfl, h⟩
  · exact ⟨_, rfl, h⟩
  · exact ⟨_, ⟨h.1, rfl⟩, h.2⟩
  · rcases h with ⟨xs, h, q⟩ | ⟨xs, h, q⟩ | ⟨kvs, h, q⟩
    · exact ⟨_, .inl ⟨xs, h, rfl⟩, q⟩
    · exact ⟨_, .inr (.inl ⟨xs, h, rfl⟩), q⟩
    · exact ⟨_, .inr (.inr ⟨kvs, h, rfl⟩), q⟩
  · exact h.elim
def tTr (K : PySem.W.Frag) (t : TE) : TT := fun σ H Q => t σ H fun x H1 => zTr K x H1 Q
theorem pt_tr (h : PE X a ta) (he : ∀ whole, isTrue a X.env whole = (do let v ← whole; standAt a.pos; holding [v] (truthy v)) := by intro _; rfl) : PT X a (tTr X.K ta) :=
  pt_w (pt_truth (pe_mon h) he) fun σ H Q h => ⟨_, h, fun x H1 h1 => zTr_of h1⟩
/-- and, or, not as values of bools -/
def tAndZ (ta tb : TE) : TE := fun σ H Q => ta σ H fun x H1 => zB x H1 fun c H1 => if c = true then tb σ H1 Q else Q (.bl false) H1
def tOrZ (ta tb : TE) : TE := fun σ H Q => ta σ H fun x H1 => zB x H1 fun c H1 => if c = true then Q (.bl true) H1 else tb σ H1 Q
def tNotZ (ta : TE) : TE := fun σ H Q => ta σ H fun x H1 => zB x H1 fun c H1 => Q (.bl (!c)) H1
theorem pe_andZ (ha : PE X a ta) (hb : PE X (.BoolOp .And (b :: rest) pos) tb) : PE X (.BoolOp .And (a :: b :: rest) pos) (tAndZ ta tb) :=
  pe_w (pe_and (pe_mon ha) hb) fun σ H Q h => ⟨_, h, fun x H1 h1 => zB_of h1⟩
theorem pe_orZ (ha : PE X a ta) (hb : PE X (.BoolOp .Or (b :: rest) pos) tb) : PE X (.BoolOp .Or (a :: b :: rest) pos) (tOrZ ta tb) :=
  pe_w (pe_or (pe_mon ha) hb) fun σ H Q h => ⟨_, h, fun x H1 h1 => zB_of h1⟩
theorem pe_notZ (ha : PE X a ta) : PE X (.UnaryOp .Not a pos) (tNotZ ta) := pe_w (pe_not (pe_mon ha)) fun σ H Q h => ⟨_, h, fun x H1 h1 => zB_of h1⟩

/-! ### comparisons -/
theorem o_lt : OpR X (compareOp .Lt) (zI fun i j => .bl (decide (i < j))) := opr_w op_lt fun x y H Q h => zI_of x y H Q h
theorem o_le : OpR X (compareOp .LtE) (zI fun i j => .bl (decide (i ≤ j))) := opr_w op_le fun x y H Q h => zI_of x y H Q h
theorem o_gt : OpR X (compareOp .Gt) (zI fun i j => .bl (decide (j < i))) := opr_w op_gt fun x y H Q h => zI_of x y H Q h
theorem o_ge : OpR X (compareOp .GtE) (zI fun i j => .bl (decide (j ≤ i))) := opr_w op_ge fun x y H Q h => zI_of x y H Q h
/-- < of two signs or ints -/
def zLt : R2 := fun x y H Q => match x, y with
  | .int i, .int j => Q (.bl (decide (i < j))) H
  | .str a, .str b => Q (.bl (decide (a.cps.toList < b.cps.toList))) H
  | _, _ => False
def zGt : R2 := fun x y H Q => match x, y with
  | .int i, .int j => Q (.bl (decide (j < i))) H
  | .str a, .str b => Q (.bl (decide (b.cps.toList < a.cps.toList))) H
  | _, _ => False
theorem o_ltS : OpR X (compareOp .Lt) zLt := by
  intro pins s σ H x y v u Q I rx ry h
  unfold zLt at h
  split at h
  · exact op_lt pins s σ H _ _ v u Q I rx ry ⟨_, _, rfl, rfl, h⟩
  · exact op_lt_str pins s σ H _ _ v u Q I rx ry ⟨_, _, rfl, rfl, h⟩
  · exact h.elim
theorem o_gtS : OpR X (compareOp .Gt) zGt := by
  intro pins s σ H x y v u Q I rx ry h
  unfold zGt at h
  split at h
  · exact op_gt pins s σ H _ _ v u Q I rx ry ⟨_, _, rfl, rfl, h⟩
  · exact op_gt_str pins s σ H _ _ v u Q I rx ry ⟨_, _, rfl, rfl, h⟩
  · exact h.elim
/-- == of plain things, of data -/
def zEq (K : PySem.W.Frag) (neg : Bool) : R2 := fun x y H Q => match scal x y with
  | true => Q (.bl (neg ^^ decide (x = y))) H
  | false => ∃ d e, Dp K H x d ∧ Dp K H y e ∧ SeqAt.shaped d = true ∧ SeqAt.shaped e = true ∧ Q (.bl (neg ^^ PyData.eqv d e)) H
theorem o_eq (hu : X.A.units + 64 < cLine) : OpR X (compareOp .Eq) (zEq X.K false) := by
  intro pins s σ H x y v u Q I rx ry h
  unfold zEq at h
  split at h
  · rename_i e
    exact op_eq pins s σ H x y v u Q I rx ry ⟨e, by simpa using h⟩
  · exact op_eqD hu pins s σ H x y v u Q I rx ry (by simpa [rEqD] using h)
theorem o_ne (hu : X.A.units + 64 < cLine) : OpR X (compareOp .NotEq) (zEq X.K true) := by
  intro pins s σ H x y v u Q I rx ry h
  unfold zEq at h
  split at h
  · rename_i e
    exact op_ne pins s σ H x y v u Q I rx ry ⟨e, by simpa using h⟩
  · exact op_neD hu pins s σ H x y v u Q I rx ry (by simpa [rNeD] using h)
/-- is None, is True, is False -/
def zIs (neg : Bool) : R2 := fun x y H Q => match y, x with
  | .non, x => Q (.bl (neg ^^ decide (x = .non))) H
  | .bl b, .bl a => Q (.bl (neg ^^ decide (a = b))) H
  | _, _ => False
theorem o_is : OpR X (compareOp .Is) (zIs false) := by
  intro pins s σ H x y v u Q I rx ry h
  unfold zIs at h
  split at h
  · exact op_isN pins s σ H _ _ v u Q I rx ry ⟨rfl, by simpa using h⟩
  · exact op_is_bl pins s σ H _ _ v u Q I rx ry ⟨_, _, rfl, rfl, by simpa using h⟩
  · exact h.elim
theorem o_isn : OpR X (compareOp .IsNot) (zIs true) := by
  intro pins s σ H x y v u Q I rx ry h
  unfold zIs at h
  split at h
  · exact op_notN pins s σ H _ _ v u Q I rx ry ⟨rfl, by simpa using h⟩
  · exact op_isnot_bl pins s σ H _ _ v u Q I rx ry ⟨_, _, rfl, rfl, by simpa using h⟩
  · exact h.elim
/-- in, not in: a sign in a text, a flat thing in a list or tuple -/
def zIn (K : PySem.W.Frag) (neg : Bool) : R2 := fun x y H Q => match y with
  | .str z => ∃ c : Nat, x = .str ⟨#[c]⟩ ∧ Q (.bl (neg ^^ decide (c ∈ z.cps.toList))) H
  | .ref p => ∃ xs, (SqL K H p xs ∨ SqT K H p xs) ∧ flatV x = true ∧ xs.all flatV = true ∧ Q (.bl (neg ^^ inV x xs)) H
  | _ => False
theorem o_in : OpR X (compareOp .In) (zIn X.K false) := by
  intro pins s σ H x y v u Q I rx ry h
  unfold zIn at h
  split at h
  · obtain ⟨c, rfl, q⟩ := h
    exact op_in_sign pins s σ H _ _ v u Q I rx ry ⟨c, _, rfl, rfl, by simpa using q⟩
  · obtain ⟨xs, h1, h2, h3, q⟩ := h
    exact op_in_seq pins s σ H _ _ v u Q I rx ry ⟨_, xs, rfl, h1, h2, h3, by simpa using q⟩
  · exact h.elim
theorem o_nin : OpR X (compareOp .NotIn) (zIn X.K true) := by
  intro pins s σ H x y v u Q I rx ry h
  unfold zIn at h
  split at h
  · obtain ⟨c, rfl, q⟩ := h
    exact op_notIn_sign pins s σ H _ _ v u Q I rx ry ⟨c, _, rfl, rfl, by simpa using q⟩
  · obtain ⟨xs, h1, h2, h3, q⟩ := h
    exact op_notIn_seq pins s σ H _ _ v u Q I rx ry ⟨_, xs, rfl, h1, h2, h3, by simpa using q⟩
  · exact h.elim

/-! ### items and slices -/
def zIx (K : PySem.W.Frag) : R2 := fun x y H Q => match x, y with
  | .str z, .int i => ∃ c, z.length ≤ sizeLine ∧ atI z.cps.toList i = some c ∧ Q (.str ⟨#[c]⟩) H
  | .ref p, .int i => ∃ xs v, (SqL K H p xs ∨ SqT K H p xs) ∧ atI xs i = some v ∧ Q v H
  | _, _ => False
theorem o_ix : IxR X (zIx X.K) := by
  intro value slice pins s σ H x y v u Q I rx ry h hs
  unfold zIx at h
  split at h
  · obtain ⟨c, h1, h2, q⟩ := h
    exact ix_str value slice pins s σ H _ _ v u Q I rx ry ⟨_, _, c, rfl, rfl, h1, h2, q⟩ hs
  · obtain ⟨xs, z, h1 | h1, h2, q⟩ := h
    · exact ix_list value slice pins s σ H _ _ v u Q I rx ry ⟨_, _, _, z, rfl, rfl, h1, h2, q⟩ hs
    · exact ix_tup value slice pins s σ H _ _ v u Q I rx ry ⟨_, _, _, z, rfl, rfl, h1, h2, q⟩ hs
  · exact h.elim
def zSl (K : PySem.W.Frag) : V → Option Int → Option Int → Hp → VK → Prop := fun x lo hi H Q => match x with
  | .str z => z.length ≤ sizeLine ∧ Q (.str (cutS z lo hi)) H
  | .ref a => (∃ xs, SqL K H a xs ∧ ∀ p H2, Nw H p (.lst (cutV xs lo hi)) H2 → Q (.ref p) H2) ∨
      (∃ xs, SqT K H a xs ∧ (HT.sIx xs.length 0 lo = 0 ∧ HT.sIx xs.length xs.length hi = xs.length → Q (.ref a) H) ∧
        (¬ (HT.sIx xs.length 0 lo = 0 ∧ HT.sIx xs.length xs.length hi = xs.length) → ∀ p H2, Nw H p (.tup (cutV xs lo hi)) H2 → Q (.ref p) H2))
  | _ => False
theorem o_sl : SlR X (zSl X.K) := by
  intro pins s σ H x v vl vu lo hi sl Q I rx hs pl pu h
  unfold zSl at h
  split at h
  · exact sl_str pins s σ H _ v vl vu lo hi sl Q I rx hs pl pu ⟨_, rfl, h.1, h.2⟩
  · rcases h with ⟨xs, h1, q⟩ | ⟨xs, h1, q1, q2⟩
    · exact sl_list pins s σ H _ v vl vu lo hi sl Q I rx hs pl pu ⟨_, xs, rfl, h1, fun p hp => q p _ (nw hp)⟩
    · exact sl_tupA pins s σ H _ v vl vu lo hi sl Q I rx hs pl pu ⟨_, xs, rfl, h1, q1, fun z p hp => q2 z p _ (nw hp)⟩
  · exact h.elim
def tPz (t : TE) : TO := fun σ H Q => t σ H fun x H1 => match x with
  | .int i => Q (some i) H1
  | _ => False
theorem po_z (h : PE X e te) : PO X (some e) (tPz te) := po_w (po_some (pe_mon h)) fun σ H Q h => ⟨_, h, fun x H1 h1 => by
  split at h1
  · exact ⟨_, rfl, h1⟩
  · exact h1.elim⟩

/-! ### displays -/
def tLz (t : TA) : TE := fun σ H Q => t σ H fun xs H1 => xs.length ≤ sizeLine ∧ ∀ p H2, Nw H1 p (.lst xs) H2 → Q (.ref p) H2
def tTz (t : TA) : TE := fun σ H Q => t σ H fun xs H1 => xs.length ≤ sizeLine ∧ ∀ p H2, Nw H1 p (.tup xs) H2 → Q (.ref p) H2
theorem pe_lz {t : TA} (h : PA X es t) : PE X (.List es pos) (tLz t) := pe_w (pe_lst (pa_mon h)) fun σ H Q h => ⟨_, h, fun xs H1 h1 => ⟨h1.1, fun p hp => h1.2 p _ (nw hp)⟩⟩
theorem pe_tz {t : TA} {x1} (h : PA X es t) : PE X (.Tuple es x1 pos) (tTz t) := pe_w (pe_tup (pa_mon h)) fun σ H Q h => ⟨_, h, fun xs H1 h1 => ⟨h1.1, fun p hp => h1.2 p _ (nw hp)⟩⟩

/-! ### calls of built-ins -/
def zLen (K : PySem.W.Frag) : List V → Hp → VK → Prop := fun vs H Q => match vs with
  | [.str z] => z.length ≤ sizeLine ∧ Q (.int z.length) H
  | [.ref p] => (∃ xs, (SqL K H p xs ∨ SqT K H p xs) ∧ Q (.int xs.length) H) ∨ ∃ kvs, H p = some (.dK kvs) ∧ Q (.int kvs.length) H
  | _ => False
theorem c_len : CallR X (.builtin "len") (zLen X.K) := by
  intro pins s σ H xs us Q I r h
  unfold zLen at h
  split at h
  · exact call_len_str pins s σ H _ us Q I r ⟨_, rfl, h.1, h.2⟩
  · rcases h with ⟨xs, h, q⟩ | ⟨kvs, h, q⟩
    · exact call_len_seq pins s σ H _ us Q I r ⟨_, xs, rfl, h, q⟩
    · exact call_lenD pins s σ H _ us Q I r ⟨_, kvs, rfl, h, q⟩
  · exact h.elim
def zInt : List V → Hp → VK → Prop := fun vs H Q => match vs with
  | [.int i] => Q (.int i) H
  | [.bl k] => Q (.int (if k then 1 else 0)) H
  | [.str a] => ∃ n, PySem.intText? a = some n ∧ a.length ≤ 640 ∧ Q (.int n) H
  | _ => False
theorem c_int : CallR X (.type "int") zInt := by
  intro pins s σ H xs us Q I r h
  unfold zInt at h
  split at h
  · exact call_int1 pins s σ H _ us Q I r (.inl ⟨_, rfl, h⟩)
  · exact call_int1 pins s σ H _ us Q I r (.inr ⟨_, rfl, h⟩)
  · obtain ⟨n, h1, h2, q⟩ := h
    exact call_int_str pins s σ H _ us Q I r ⟨_, n, rfl, h1, h2, q⟩
  · exact h.elim
def zStr : List V → Hp → VK → Prop := fun vs H Q => match vs with
  | [.int i] => i.natAbs.log2 < 1920 ∧ Q (.str (toString i)) H
  | _ => False
theorem c_str : CallR X (.type "str") zStr := callr_w call_str_int fun vs H Q h => by
  unfold zStr at h
  split at h
  · exact ⟨_, rfl, h.1, h.2⟩
  · exact h.elim
def zAbs : List V → Hp → VK → Prop := fun vs H Q => match vs with
  | [.int i] => Q (.int (if i < 0 then -i else i)) H
  | _ => False
theorem c_abs : CallR X (.builtin "abs") zAbs := callr_w call_abs fun vs H Q h => by
  unfold zAbs at h
  split at h
  · exact ⟨_, rfl, h⟩
  · exact h.elim
def zMax : List V → Hp → VK → Prop := fun vs H Q => match vs with
  | [.int i, .int j] => Q (.int (if j > i then j else i)) H
  | _ => False
theorem c_max (hc : X.calm = true) : CallR X (.builtin "max") zMax := callr_w (call_max2 hc) fun vs H Q h => by
  unfold zMax at h
  split at h
  · exact ⟨_, _, rfl, h⟩
  · exact h.elim
def zMin : List V → Hp → VK → Prop := fun vs H Q => match vs with
  | [.int i, .int j] => Q (.int (if j < i then j else i)) H
  | _ => False
theorem c_min (hc : X.calm = true) : CallR X (.builtin "min") zMin := callr_w (call_min2 hc) fun vs H Q h => by
  unfold zMin at h
  split at h
  · exact ⟨_, _, rfl, h⟩
  · exact h.elim
def zSum (K : PySem.W.Frag) : List V → Hp → VK → Prop := fun vs H Q => match vs with
  | [.ref p] => ∃ ns : List Int, SqL K H p (ns.map V.int) ∧ Q (.int ns.sum) H
  | _ => False
theorem c_sum (hc : X.calm = true) : CallR X (.builtin "sum") (zSum X.K) := callr_w (cr_sum hc) fun vs H Q h => by
  unfold zSum at h
  split at h
  · obtain ⟨ns, h, q⟩ := h
    exact ⟨_, ns, rfl, h, q⟩
  · exact h.elim
def zAll (K : PySem.W.Frag) : List V → Hp → VK → Prop := fun vs H Q => match vs with
  | [.ref p] => ∃ bs : List Bool, SqL K H p (bs.map V.bl) ∧ Q (.bl (bs.all id)) H
  | _ => False
theorem c_all (hc : X.calm = true) : CallR X (.builtin "all") (zAll X.K) := callr_w (cr_all hc) fun vs H Q h => by
  unfold zAll at h
  split at h
  · obtain ⟨ns, h, q⟩ := h
    exact ⟨_, ns, rfl, h, q⟩
  · exact h.elim
def zList (K : PySem.W.Frag) : List V → Hp → VK → Prop := fun vs H Q => match vs with
  | [.ref p] => ∃ ys, (SqL K H p ys ∨ SqT K H p ys) ∧ ∀ l H2, Nw H l (.lst ys) H2 → Q (.ref l) H2
  | _ => False
theorem c_list : CallR X (.type "list") (zList X.K) := callr_w call_list_of fun vs H Q h => by
  unfold zList at h
  split at h
  · obtain ⟨ys, h, q⟩ := h
    exact ⟨_, ys, rfl, h, fun l hl => q l _ (nw hl)⟩
  · exact h.elim
def zTuple (K : PySem.W.Frag) : List V → Hp → VK → Prop := fun vs H Q => match vs with
  | [.ref p] => ∃ ys, (SqL K H p ys ∧ ∀ l H2, Nw H l (.tup ys) H2 → Q (.ref l) H2) ∨ (SqT K H p ys ∧ Q (.ref p) H)
  | _ => False
theorem c_tuple : CallR X (.type "tuple") (zTuple X.K) := callr_w call_tuple_of fun vs H Q h => by
  unfold zTuple at h
  split at h
  · obtain ⟨ys, ⟨h, q⟩ | ⟨h, q⟩⟩ := h
    · exact ⟨_, ys, rfl, .inl ⟨h, fun l hl => q l _ (nw hl)⟩⟩
    · exact ⟨_, ys, rfl, .inr ⟨h, q⟩⟩
  · exact h.elim

/-! ### isinstance -/
def isK (k T : String) : Bool := k == T || (k == "bool" && T == "int")
/-- a value's kind -/
def KindV (K : PySem.W.Frag) (H : Hp) (x : V) (k : String) : Prop := match x with
  | .non => k = "NoneType"
  | .bl _ => k = "bool"
  | .int _ => k = "int"
  | .str _ => k = "str"
  | .ref p => (k = "list" ∧ ∃ xs, SqL K H p xs) ∨ (k = "tuple" ∧ ∃ xs, SqT K H p xs) ∨ (k = "dict" ∧ ((∃ kvs, H p = some (.dK kvs)) ∨ ∃ kvs, H p = some (.dT kvs)))
  | _ => False
theorem KindV.tyx {K : PySem.W.Frag} {H : Hp} {x : V} {k : String} (h : KindV K H x k) : TyX K H x (.type k) ∧ k ∈ ["NoneType", "bool", "int", "str", "list", "tuple", "dict"] := by
  unfold KindV at h
  split at h
  · subst h; exact ⟨.base .non, by simp⟩
  · subst h; exact ⟨.base (.bl _), by simp⟩
  · subst h; exact ⟨.base (.int _), by simp⟩
  · subst h; exact ⟨.base (.str _), by simp⟩
  · rcases h with ⟨rfl, xs, (h | ⟨o, h⟩) | ⟨o, its, n, h1, h2, _⟩⟩ | ⟨rfl, xs, (h | ⟨o, h⟩) | ⟨o, its, n, h1, h2, _⟩⟩ | ⟨rfl, ⟨kvs, h⟩ | ⟨kvs, h⟩⟩
    · exact ⟨.base (.lst h), by simp⟩
    · exact ⟨.base (.frz h), by simp⟩
    · exact ⟨.kList h1 h2, by simp⟩
    · exact ⟨.base (.tup h), by simp⟩
    · exact ⟨.fTuple h, by simp⟩
    · exact ⟨.kTuple h1 h2, by simp⟩
    · exact ⟨.base (.dK h), by simp⟩
    · exact ⟨.base (.dT h), by simp⟩
  · exact h.elim
theorem kit_isK {K : PySem.W.Frag} {k T : String} (hk : k ∈ ["NoneType", "bool", "int", "str", "list", "tuple", "dict"]) (hT : T ∈ ["bool", "int", "str", "list", "tuple", "dict"]) : PySem.W.kitOne K (.type k) (.type T) = some (isK k T) := by
  refine kit_ty ?_
  have all : (["NoneType", "bool", "int", "str", "list", "tuple", "dict"].all fun k => ["bool", "int", "str", "list", "tuple", "dict"].all fun T => kitB k T == some (isK k T)) = true := by decide +kernel
  have h1 := (List.all_eq_true.mp all) k hk
  have h2 := (List.all_eq_true.mp h1) T hT
  exact eq_of_beq h2
def zIsi (K : PySem.W.Frag) : List V → Hp → VK → Prop := fun vs H Q => match vs with
  | [x, .ty T] => T ∈ ["bool", "int", "str", "list", "tuple", "dict"] ∧ ∃ k, KindV K H x k ∧ Q (.bl (isK k T)) H
  | [x, .ref tp] => ∃ T U k, H tp = some (.tup [.ty T, .ty U]) ∧ T ∈ ["bool", "int", "str", "list", "tuple", "dict"] ∧ U ∈ ["bool", "int", "str", "list", "tuple", "dict"] ∧ KindV K H x k ∧ Q (.bl (isK k T || isK k U)) H
  | _ => False
theorem c_isi : CallR X (.builtin "isinstance") (zIsi X.K) := by
  intro pins s σ H xs us Q I r h
  unfold zIsi at h
  split at h
  · obtain ⟨hT, k, hk, q⟩ := h
    obtain ⟨h1, h2⟩ := hk.tyx
    exact call_isi pins s σ H _ us Q I r ⟨_, _, _, _, _, rfl, .ty _, h1, kit_isK h2 hT, q⟩
  · obtain ⟨T, U, k, hp, hT, hU, hk, q⟩ := h
    obtain ⟨h1, h2⟩ := hk.tyx
    refine call_isiT pins s σ H _ us Q I r ⟨_, _, _, _, _, _, rfl, hp, .cons (.ty T) (.cons (.ty U) .nil), h1, kitAny_cons (b := isK k T) (kit_isK h2 hT) (fun e => ?_) (fun e => ?_), q⟩
    · rw [e, Bool.false_or]
      refine kitAny_cons (kit_isK h2 hU) (fun e2 => ?_) (fun e2 => e2)
      rw [e2]
      rfl
    · rw [e]
      rfl
  · exact h.elim
end

/-! ### methods of built-in types -/
section
variable {X : Cx} {a b e o : Expr} {es : List Expr} {te to : TE} {t : TA} {name : Str} {apos cpos : Pos} {T id : String}
/-- a text's method -/
def tMs (r : Str → List V → Hp → VK → Prop) (to : TE) (t : TA) : TE := fun σ H Q => to σ H fun x H1 => match x with
  | .str a => t σ H1 fun xs H2 => r a xs H2 Q
  | _ => False
def tMs0 (r : Str → Hp → VK → Prop) (to : TE) : TE := fun σ H Q => to σ H fun x H1 => match x with
  | .str a => r a H1 Q
  | _ => False
def ofS (r : Str → List V → Hp → VK → Prop) : V → List V → Hp → VK → Prop := fun x xs H Q => ∃ a, x = .str a ∧ r a xs H Q
theorem pe_ms {r : Str → List V → Hp → VK → Prop} (slot : Slot "str" name id) (hty : typeOf (.builtin id) = pure (.type "method_descriptor")) (hm : MtR X id (ofS r)) (ho : PE X o to) (ha : PA X (e :: es) t)
    (hbase : attributeBase o name X.env (eval o X.env) = eval o X.env := by rfl)
    (hfew : ((backTo cpos (starEach (e :: es) X.env)).all (fun x => !x.1) && (backToKw cpos (keywordEach [] X.env)).all (fun x => x.1.isSome)
      && decide ((e :: es).length + ([] : List Keyword).length + (if ([] : List Keyword).isEmpty then 0 else 1) < 30)) = true := by rfl)
    (hline : (apos.endLine == cpos.line) = true := by rfl) (hs : starEach (e :: es) X.env = (false, eval e X.env) :: starEach es X.env := by rfl) (hplain : (backTo cpos (starEach es X.env)).any (·.1) = false := by rfl) :
    PE X (.Call (.Attribute o name apos) (e :: es) [] cpos) (tMs r to t) :=
  pe_w (pe_bm PySem.F.plainAttrs_str slot hty hm (pe_mon ho) (pa_mon ha) hbase hfew hline hs hplain) fun σ H Q h => ⟨_, h, fun x H1 h1 => by
    split at h1
    · exact ⟨rfl, _, h1, fun xs H2 h2 => ⟨_, rfl, h2⟩⟩
    · exact h1.elim⟩
theorem pe_ms0 {r : Str → Hp → VK → Prop} (slot : Slot "str" name id) (hty : typeOf (.builtin id) = pure (.type "method_descriptor")) (hm : MtR X id (ofS fun a xs H Q => xs = [] ∧ r a H Q)) (ho : PE X o to)
    (hbase : attributeBase o name X.env (eval o X.env) = eval o X.env := by rfl) (hline : (apos.endLine == cpos.line) = true := by rfl) :
    PE X (.Call (.Attribute o name apos) [] [] cpos) (tMs0 r to) :=
  pe_w (pe_bm0 PySem.F.plainAttrs_str slot hty hm (pe_mon ho) hbase hline) fun σ H Q h => ⟨_, h, fun x H1 h1 => by
    split at h1
    · exact ⟨rfl, _, rfl, rfl, h1⟩
    · exact h1.elim⟩
theorem mt_w {id : String} {r r' : V → List V → Hp → VK → Prop} (h : MtR X id r') (i : ∀ x vs H Q, r x vs H Q → r' x vs H Q) : MtR X id r :=
  fun pins s σ H x xs v us Q I rx rs q => h pins s σ H x xs v us Q I rx rs (i x xs H Q q)
def zJoin (K : PySem.W.Frag) : Str → List V → Hp → VK → Prop := fun a xs H Q => match xs with
  | [.ref p] => ∃ ys : List Str, (SqL K H p (ys.map V.str) ∨ SqT K H p (ys.map V.str)) ∧ (ys.map (·.length)).sum + ys.length * a.length ≤ 16777216 ∧ Q (.str (Txt.join a ys)) H
  | _ => False
theorem m_join : MtR X "str.join" (ofS (zJoin X.K)) := mt_w mt_join fun x vs H Q ⟨a, e, h⟩ => by
  unfold zJoin at h
  split at h
  · obtain ⟨ys, h1, h2, q⟩ := h
    exact ⟨a, _, ys, e, rfl, h1, h2, q⟩
  · exact h.elim
def zZfill : Str → List V → Hp → VK → Prop := fun a xs H Q => match xs with
  | [.int i] => PadOk i = true ∧ Q (.str (Txt.zfill a i)) H
  | _ => False
theorem m_zfill : MtR X "str.zfill" (ofS zZfill) := mt_w mt_zfill fun x vs H Q ⟨a, e, h⟩ => by
  unfold zZfill at h
  split at h
  · exact ⟨a, _, e, rfl, h.1, h.2⟩
  · exact h.elim
def zPure (g : Str → V) : Str → Hp → VK → Prop := fun a H Q => Q (g a) H
theorem m0_of {id : String} {g : Str → V} (h : MtR X id (fun x xs H Q => ∃ a, x = .str a ∧ xs = [] ∧ True ∧ Q (g a) H)) : MtR X id (ofS fun a xs H Q => xs = [] ∧ zPure g a H Q) :=
  mt_w h fun x vs H Q ⟨a, e, h1, h2⟩ => ⟨a, e, h1, trivial, h2⟩
theorem m_isascii : MtR X "str.isascii" (ofS fun a xs H Q => xs = [] ∧ zPure (fun a => .bl (Txt.isascii a)) a H Q) := m0_of mt_isascii
theorem m_isprintable : MtR X "str.isprintable" (ofS fun a xs H Q => xs = [] ∧ zPure (fun a => .bl (Txt.isprintable a)) a H Q) := m0_of mt_isprintable
theorem m_islower : MtR X "str.islower" (ofS fun a xs H Q => xs = [] ∧ zPure (fun a => .bl (Txt.islower a)) a H Q) := m0_of mt_islower
theorem m_isalpha : MtR X "str.isalpha" (ofS fun a xs H Q => xs = [] ∧ zPure (fun a => .bl (Txt.isalpha a)) a H Q) := m0_of mt_isalpha
theorem m_isdigit : MtR X "str.isdigit" (ofS fun a xs H Q => xs = [] ∧ zPure (fun a => .bl (Txt.isdigit a)) a H Q) := m0_of mt_isdigit
/-- a list's method -/
def tMl (K : PySem.W.Frag) (r : Addr → List V → Hp → VK → Prop) (to : TE) (t : TA) : TE := fun σ H Q => to σ H fun x H1 => match x with
  | .ref l => (∃ xs, SqL K H1 l xs) ∧ t σ H1 fun xs H2 => r l xs H2 Q
  | _ => False
def ofL (r : Addr → List V → Hp → VK → Prop) : V → List V → Hp → VK → Prop := fun x xs H Q => ∃ a, x = .ref a ∧ r a xs H Q
theorem pe_ml {r : Addr → List V → Hp → VK → Prop} (slot : Slot "list" name id) (hty : typeOf (.builtin id) = pure (.type "method_descriptor")) (hm : MtR X id (ofL r)) (ho : PE X o to) (ha : PA X (e :: es) t)
    (hbase : attributeBase o name X.env (eval o X.env) = eval o X.env := by rfl)
    (hfew : ((backTo cpos (starEach (e :: es) X.env)).all (fun x => !x.1) && (backToKw cpos (keywordEach [] X.env)).all (fun x => x.1.isSome)
      && decide ((e :: es).length + ([] : List Keyword).length + (if ([] : List Keyword).isEmpty then 0 else 1) < 30)) = true := by rfl)
    (hline : (apos.endLine == cpos.line) = true := by rfl) (hs : starEach (e :: es) X.env = (false, eval e X.env) :: starEach es X.env := by rfl) (hplain : (backTo cpos (starEach es X.env)).any (·.1) = false := by rfl) :
    PE X (.Call (.Attribute o name apos) (e :: es) [] cpos) (tMl X.K r to t) :=
  pe_w (pe_bm PySem.F.plainAttrs_list slot hty hm (pe_mon ho) (pa_mon ha) hbase hfew hline hs hplain) fun σ H Q h => ⟨_, h, fun x H1 h1 => by
    split at h1
    · exact ⟨.inl ⟨rfl, h1.1⟩, _, h1.2, fun xs H2 h2 => ⟨_, rfl, h2⟩⟩
    · exact h1.elim⟩
def zApp : Addr → List V → Hp → VK → Prop := fun l ys H Q => match ys with
  | [y] => ∃ xs, H l = some (.lst xs) ∧ xs.length < sizeLine ∧ ∀ H2, Wr H l (.lst (xs ++ [y])) H2 → Q .non H2
  | _ => False
theorem m_append : MtR X "list.append" (ofL zApp) := mt_w mt_append fun x vs H Q ⟨a, e, h⟩ => by
  unfold zApp at h
  split at h
  · obtain ⟨xs, h1, h2, q⟩ := h
    exact ⟨a, xs, _, e, rfl, h1, h2, q _ wr⟩
  · exact h.elim
end

/-! ### targets and statements -/
section
variable {X : Cx} {a b e o i : Expr} {es : List Expr} {te to ti : TE} {pos : Pos}
def zSetL : V → V → V → Hp → (Hp → Prop) → Prop := fun o i v H Q => match o, i with
  | .ref p, .int k => ∃ xs j, H p = some (.lst xs) ∧ ixN xs.length k = some j ∧ ∀ H2, Wr H p (.lst (xs.set j v)) H2 → Q H2
  | _, _ => False
theorem s_list : PSet X zSetL := by
  intro pins s σ H o i v ov iv u Q I ro ri rv h
  unfold zSetL at h
  split at h
  · obtain ⟨xs, j, h1, h2, q⟩ := h
    exact set_list pins s σ H _ _ v ov iv u Q I ro ri rv ⟨_, xs, _, j, rfl, rfl, h1, h2, q _ wr⟩
  · exact h.elim
def gCz (t : TG) (u : TGs) : TGs := fun vs σ H Q => match vs with
  | v :: r => t v σ H fun σ' H' => u r σ' H' Q
  | [] => False
def gNz : TGs := fun vs σ H Q => match vs with
  | [] => Q σ H
  | _ => False
theorem pgs_w {g : List Expr} {t t' : TGs} (h : PGs X g t) (i : ∀ v σ H Q, t' v σ H Q → t v σ H Q) : PGs X g t' := ⟨fun pins s σ H v u Q I r q => h.run pins s σ H v u Q I r (i v σ H Q q)⟩
theorem pgs_nz : PGs X [] gNz := pgs_w pgs_nil fun v σ H Q h => by
  unfold gNz at h
  split at h
  · exact ⟨rfl, h⟩
  · exact h.elim
theorem pgs_cz {t : TG} {u : TGs} (ht : PG X e t) (hu : PGs X es u) (hs : (assignEach (e :: es) X.env).map (·.2) = assign e X.env :: (assignEach es X.env).map (·.2) := by rfl) : PGs X (e :: es) (gCz t u) :=
  pgs_w (pgs_cons ht hu hs) fun v σ H Q h => by
    unfold gCz at h
    split at h
    · exact ⟨_, _, rfl, h⟩
    · exact h.elim
def gTz (K : PySem.W.Frag) (n : Nat) (t : TGs) : TG := fun v σ H Q => match v with
  | .ref a => ∃ xs, SqT K H a xs ∧ xs.length = n ∧ t xs σ H Q
  | _ => False
theorem pg_tz {k : Nat} {t : TGs} {n : Nat} (hc : X.calm = true) (h : PGs X es t) (hn : (assignEach es X.env).length = n := by rfl) (hst : (assignEach es X.env).findIdx? (·.1) = none := by rfl) : PG X (.Tuple es k pos) (gTz X.K n t) :=
  pg_w (pg_tup hc h hn hst) fun v σ H Q h => by
    unfold gTz at h
    split at h
    · obtain ⟨xs, h1, h2, q⟩ := h
      exact ⟨_, xs, rfl, h1, h2, q⟩
    · exact h.elim
def tPrz (i j : Nat) (ta : TA) : TS := fun D σ H => ta σ H fun vs H1 => match vs with
  | [v, w] => D.nx ((σ.set i (some v)).set j (some w)) H1
  | _ => False
theorem ps_parZ {i j : Nat} {x y : Str} {ta : TA} {px py pt : Pos} {kt k2 pt2} (hc : X.calm = true) (hN : X.N.Nodup) (hi : X.N[i]? = some x) (hj : X.N[j]? = some y) (hij : i ≠ j)
    (hx : X.env.scope.names.lookup x = some .local) (hy : X.env.scope.names.lookup y = some .local) (ha : PA X [a, b] ta)
    (hw : swappedStores [.Tuple [.Name x px, .Name y py] kt pt] (.Tuple [a, b] k2 pt2) X.env = pure (some [x, y]))
    (hs : swapsWithSole [.Tuple [.Name x px, .Name y py] kt pt] (.Tuple [a, b] k2 pt2) pos.line X.env = pure false := by rfl) :
    PS X (.Assign [.Tuple [.Name x px, .Name y py] kt pt] (.Tuple [a, b] k2 pt2) pos) (tPrz i j ta) :=
  ps_w (ps_par hc hN hi hj hij hx hy (pa_mon ha) hw hs) fun D σ H h => ⟨_, h, fun vs H1 h1 => by
    split at h1
    · exact ⟨_, _, rfl, h1⟩
    · exact h1.elim⟩
def tRngZ (ta : TA) : TI := fun σ H R => ta σ H fun vs H1 => match vs with
  | [.int j] => -(2 ^ 62) ≤ j ∧ j < 2 ^ 62 ∧ R (Itr 0 j.toNat) H1
  | _ => False
theorem pi_rngZ {tg : Expr} {p : Pos} {ta : TA} (hg : Gl X "range") (hm : X.mg "range" = none) (ha : PA X [a] ta) (hs : starEach [a] X.env = [(false, eval a X.env)] := by rfl) : PI X tg (.Call (.Name "range" p) [a] [] pos) (tRngZ ta) :=
  pi_w (pi_range1 hg hm (pa_mon ha) hs) fun σ H R h => ⟨_, h, fun vs H1 h1 => by
    split at h1
    · exact ⟨_, rfl, h1⟩
    · exact h1.elim⟩
def tItL (K : PySem.W.Frag) (te : TE) : TI := fun σ H R => te σ H fun x H1 => match x with
  | .ref a => (∃ xs, SqL K H1 a xs) ∧ R (Itl K a) H1
  | _ => False
theorem pi_lz {tg : Expr} (h : PE X e te) : PI X tg e (tItL X.K te) := pi_w (pi_list (pe_mon h)) fun σ H R h => ⟨_, h, fun x H1 h1 => by
  split at h1
  · exact ⟨_, rfl, h1.1, h1.2⟩
  · exact h1.elim⟩
def tItT (K : PySem.W.Frag) (te : TE) : TI := fun σ H R => te σ H fun x H1 => match x with
  | .ref a => (∃ xs, SqT K H1 a xs) ∧ R (Itt K a) H1
  | _ => False
theorem pi_tz {tg : Expr} (h : PE X e te) : PI X tg e (tItT X.K te) := pi_w (pi_tup (pe_mon h)) fun σ H R h => ⟨_, h, fun x H1 h1 => by
  split at h1
  · exact ⟨_, rfl, h1.1, h1.2⟩
  · exact h1.elim⟩
def tItS (te : TE) : TI := fun σ H R => te σ H fun x H1 => match x with
  | .str a => R (Its a) H1
  | _ => False
theorem pi_sz {tg : Expr} (h : PE X e te) : PI X tg e (tItS te) := pi_w (pi_str (pe_mon h)) fun σ H R h => ⟨_, h, fun x H1 h1 => by
  split at h1
  · exact ⟨_, rfl, h1⟩
  · exact h1.elim⟩
end

/-! ### defs -/
/-- a def that stands under its name: its contract -/
structure Ct (P : Program) (w : World) (K : PySem.W.Frag) (mg : Str → Option Value) (base : Heap) (CX : CXT) (k : Nat) (x : Str) (ps : List Str) (sp : Sp) : Prop where
  ex : ∃ f fd, mg x = some (.ref f) ∧ PySem.W.keepIn K (.ref f) = true ∧ Binds K fd ps [] ∧ FnOk P w K mg base CX k f fd ps sp ∧ ∃ oc od osl, K.lookup f = some ⟨oc, od, .func fd, osl⟩
/-- a def of the top as it stands -/
structure Df (K : PySem.W.Frag) (mg : Str → Option Value) (x : Str) (st : Stmt) (ps : List Str) : Prop where
  ex : ∃ f fd, Fun K x x st f fd ∧ mg x = some (.ref f) ∧ Binds K fd ps []
def tCl (sp : Sp) (E : XK) (t : TA) : TE := fun σ H Q => t σ H fun vs H1 => sp vs H1 Q E
section
variable {X : Cx} {CX : CXT} {k : Nat} {x : Str} {ps : List Str} {sp : Sp} {E : XK} {p pos : Pos} {e : Expr} {es : List Expr} {t : TA}
theorem pe_cl (C : Ct X.prog X.w X.K X.mg X.base CX k x ps sp) (hr : Room k X.A) (hx : Passes CX X E) (ha : PA X (e :: es) t) (hg : Gl X x := by rfl)
    (hdb : (x == ("__debug__" : Str)) = false := by decide)
    (he : starEach (e :: es) X.env = (false, eval e X.env) :: starEach es X.env := by rfl) (hpl : (backTo pos (starEach es X.env)).any (·.1) = false := by rfl) : PE X (.Call (.Name x p) (e :: es) [] pos) (tCl sp E t) := by
  obtain ⟨f, fd, hm, hk, hb, F, _⟩ := C.ex
  refine pe_w (pe_call F hr hg hm hk hb .nil hx ha hdb he hpl) fun σ H Q h => ?_
  show t σ H fun vs H1 => sp (vs ++ []) H1 Q E
  have e : (fun (vs : List V) (H1 : Hp) => sp (vs ++ []) H1 Q E) = fun vs H1 => sp vs H1 Q E := by
    funext vs H1
    rw [List.append_nil]
  rw [e]
  exact h
theorem pe_cl0 (C : Ct X.prog X.w X.K X.mg X.base CX k x ps sp) (hr : Room k X.A) (hx : Passes CX X E) (hg : Gl X x := by rfl) (hdb : (x == ("__debug__" : Str)) = false := by decide) : PE X (.Call (.Name x p) [] [] pos) (tCl sp E tNil) := by
  obtain ⟨f, fd, hm, hk, hb, F, _⟩ := C.ex
  exact pe_call0 F hr hg hm hk hb .nil hx hdb
end
/-- promises by the parameters -/
def sp1 (p : V → Hp → VK → XK → Prop) : Sp := fun vs H Q E => match vs with
  | [a] => p a H Q E
  | _ => False
def sp2 (p : V → V → Hp → VK → XK → Prop) : Sp := fun vs H Q E => match vs with
  | [a, b] => p a b H Q E
  | _ => False
def sp3 (p : V → V → V → Hp → VK → XK → Prop) : Sp := fun vs H Q E => match vs with
  | [a, b, c] => p a b c H Q E
  | _ => False
def sp4 (p : V → V → V → V → Hp → VK → XK → Prop) : Sp := fun vs H Q E => match vs with
  | [a, b, c, d] => p a b c d H Q E
  | _ => False
theorem sp1_of {p : V → Hp → VK → XK → Prop} {vs : List V} {H : Hp} {Q : VK} {E : XK} (h : sp1 p vs H Q E) : ∃ a, vs = [a] ∧ p a H Q E := by
  unfold sp1 at h
  split at h
  · exact ⟨_, rfl, h⟩
  · exact h.elim
theorem sp2_of {p : V → V → Hp → VK → XK → Prop} {vs : List V} {H : Hp} {Q : VK} {E : XK} (h : sp2 p vs H Q E) : ∃ a b, vs = [a, b] ∧ p a b H Q E := by
  unfold sp2 at h
  split at h
  · exact ⟨_, _, rfl, h⟩
  · exact h.elim
theorem sp3_of {p : V → V → V → Hp → VK → XK → Prop} {vs : List V} {H : Hp} {Q : VK} {E : XK} (h : sp3 p vs H Q E) : ∃ a b c, vs = [a, b, c] ∧ p a b c H Q E := by
  unfold sp3 at h
  split at h
  · exact ⟨_, _, _, rfl, h⟩
  · exact h.elim
theorem sp4_of {p : V → V → V → V → Hp → VK → XK → Prop} {vs : List V} {H : Hp} {Q : VK} {E : XK} (h : sp4 p vs H Q E) : ∃ a b c d, vs = [a, b, c, d] ∧ p a b c d H Q E := by
  unfold sp4 at h
  split at h
  · exact ⟨_, _, _, _, rfl, h⟩
  · exact h.elim
section
variable {P : Program} {w : World} {K : PySem.W.Frag} {mg : Str → Option Value} {base : Heap}
theorem fun_at {x q : Str} {st : Stmt} {f : Addr} {fd : FuncData} (F : Fun K x q st f fd) : ∃ oc od osl, K.lookup f = some ⟨oc, od, .func fd, osl⟩ := by
  obtain ⟨oc, od, _, _, _, _, _, _, osl, _, h, _⟩ := F.ex
  exact ⟨oc, od, osl, h⟩
/-- the same def called by names alone, the names in the order ks: g puts the values in the parameters' order -/
structure CtK (P : Program) (w : World) (K : PySem.W.Frag) (mg : Str → Option Value) (base : Heap) (CX : CXT) (k : Nat) (x : Str) (ps ks : List Str) (g : {α : Type} → List α → List α) (sp : Sp) : Prop where
  ex : ∃ f fd, mg x = some (.ref f) ∧ PySem.W.keepIn K (.ref f) = true ∧ (∀ (s : Shared) (ws : List Value), (g ws).length = ps.length → BindsTo s fd ⟨[], ks.zip ws⟩ (ps.zip (g ws))) ∧
    (∀ {zs : List V} {ws : List Value}, Vals zs ws → Vals (g zs) (g ws)) ∧ FnOk P w K mg base CX k f fd ps sp
theorem Ct.kw {CX : CXT} {k : Nat} {x : Str} {st : Stmt} {ps ks : List Str} {g : {α : Type} → List α → List α} {sp : Sp} (C : Ct P w K mg base CX k x ps sp) (D : Df K mg x st ps)
    (h : ∀ (kV doc pm : Value) (an : Option Addr) (cdv ct : Value) (ws : List Value), (g ws).length = ps.length → bindArgs (PySem.W.fnOf x x (defArgs st) (defBody st) (defScope st) .none kV doc pm an cdv ct) ⟨[], ks.zip ws⟩ = pure (ps.zip (g ws)))
    (hg : ∀ {zs : List V} {ws : List Value}, Vals zs ws → Vals (g zs) (g ws)) : CtK P w K mg base CX k x ps ks g sp := by
  obtain ⟨f, fd, hm, hk, hb, F, oc, od, osl, hl⟩ := C.ex
  obtain ⟨f', fd', F', hm', _⟩ := D.ex
  have e : f = f' := by
    rw [hm] at hm'
    cases hm'
    rfl
  subst e
  obtain ⟨oc', od', kV, doc, pm, an, cdv, ct, osl', rfl, hl', _⟩ := F'.ex
  have e2 : fd = PySem.W.fnOf x x (defArgs st) (defBody st) (defScope st) .none kV doc pm an cdv ct := by
    rw [hl] at hl'
    cases hl'
    rfl
  subst e2
  exact ⟨f, _, hm, hk, fun s ws hlen => .of_eq (h kV doc pm an cdv ct ws hlen), hg, F⟩
/-- f(k = v, ..) -/
def tClK (g : {α : Type} → List α → List α) (sp : Sp) (E : XK) (t : TA) : TE := fun σ H Q => t σ H fun zs H1 => sp (g zs) H1 Q E
theorem pe_clK {X : Cx} {CX : CXT} {k : Nat} {x : Str} {ps ks : List Str} {g : {α : Type} → List α → List α} {sp : Sp} {E : XK} {p pos : Pos} {kws : List Keyword} {t : TA} (C : CtK X.prog X.w X.K X.mg X.base CX k x ps ks g sp) (hr : Room k X.A) (hx : Passes CX X E)
    (hkw : PK X kws t) (hg : Gl X x := by rfl) (hall : (backToKw pos (keywordEach kws X.env)).all (·.1.isSome) = true := by rfl) (hks : (backToKw pos (keywordEach kws X.env)).filterMap (·.1) = ks := by rfl)
    (hdb : (x == ("__debug__" : Str)) = false := by decide)
    (hpl : ((backTo pos (starEach [] X.env)).any (·.1) || (backToKw pos (keywordEach kws X.env)).any (·.1.isNone)) = false := by rfl) :
    PE X (.Call (.Name x p) [] kws pos) (tClK g sp E t) := by
  obtain ⟨f, fd, hm, hk, hb, hrel, F⟩ := C.ex
  refine ⟨fun pins s σ H Q I h => wpAny_Call_Name_kw (ld_glob I hg hm ?_ hdb)⟩
  refine PySem.W.callWith_KW0 (h₀ := X.base) I.ok.mod.kin hk hall (thn (hkw.run pos pins s σ H _ I h) fun ws s1 ⟨zs, H1, I1, rz, q⟩ => ⟨I1.kIn, ?_⟩) hpl
  rw [hks]
  have r2 := hrel rz
  have hl : (g ws).length = ps.length := by
    rw [← r2.length]
    exact F.len _ _ _ _ q
  refine wpAny_call (codeAny_mono (F.run X.A X.stack s1 H1 ⟨[], ks.zip ws⟩ (g ws) (g zs) Q E hr I1.env0 (hb s1 ws hl) r2 q) fun r s' hq => ?_)
  match r, hq with
  | .error e, hq => exact hx pins σ H1 s1 e s' I1 hq
  | .ok (.ret u), hq => exact I1.after hq
  | .ok .next, hq => exact False.elim hq
  | .ok .brk, hq => exact False.elim hq
  | .ok .cont, hq => exact False.elim hq
/-- a def that raises nothing, one parameter -/
theorem ct1 {x : Str} {st : Stmt} {a : Str} {N : List Str} {k : Nat} {p : V → Hp → VK → XK → Prop} (D : Df K mg x st [a]) (S : FnScope N [a] (defScope st))
    (body : ∀ (f : Addr) (cdv : Value) (A : Around) (outer : List Env) (s : Shared) (H : Hp) (u : V) (Q : VK) (E : XK), Room k (A.deeper (envOfC x (defScope st) s.heap.objs.size f cdv)) → p u H Q E →
      ∃ t, PSs (cxOf CX0 P w K mg base N x (defScope st) f cdv A outer s H E).nox (defBody st) t ∧ t { nx := fun _ H' => Q .non H', rt := Q } (start N [u]) H) : Ct P w K mg base CX0 (k + 1) x [a] (sp1 p) := by
  obtain ⟨f, fd, F, hm, hb⟩ := D.ex
  refine ⟨f, fd, hm, F.kp, hb, F.ok S (fun vs H Q E h => ?_) (fun cdv A outer s H vs Q E hr h => ?_), fun_at F⟩
  · obtain ⟨u, rfl, _⟩ := sp1_of h
    rfl
  · obtain ⟨u, rfl, h⟩ := sp1_of h
    exact body f cdv A outer s H u Q E hr h
theorem ct2 {x : Str} {st : Stmt} {a b : Str} {N : List Str} {k : Nat} {p : V → V → Hp → VK → XK → Prop} (D : Df K mg x st [a, b]) (S : FnScope N [a, b] (defScope st))
    (body : ∀ (f : Addr) (cdv : Value) (A : Around) (outer : List Env) (s : Shared) (H : Hp) (u v : V) (Q : VK) (E : XK), Room k (A.deeper (envOfC x (defScope st) s.heap.objs.size f cdv)) → p u v H Q E →
      ∃ t, PSs (cxOf CX0 P w K mg base N x (defScope st) f cdv A outer s H E).nox (defBody st) t ∧ t { nx := fun _ H' => Q .non H', rt := Q } (start N [u, v]) H) : Ct P w K mg base CX0 (k + 1) x [a, b] (sp2 p) := by
  obtain ⟨f, fd, F, hm, hb⟩ := D.ex
  refine ⟨f, fd, hm, F.kp, hb, F.ok S (fun vs H Q E h => ?_) (fun cdv A outer s H vs Q E hr h => ?_), fun_at F⟩
  · obtain ⟨u, v, rfl, _⟩ := sp2_of h
    rfl
  · obtain ⟨u, v, rfl, h⟩ := sp2_of h
    exact body f cdv A outer s H u v Q E hr h
theorem ct3 {x : Str} {st : Stmt} {a b c : Str} {N : List Str} {k : Nat} {p : V → V → V → Hp → VK → XK → Prop} (D : Df K mg x st [a, b, c]) (S : FnScope N [a, b, c] (defScope st))
    (body : ∀ (f : Addr) (cdv : Value) (A : Around) (outer : List Env) (s : Shared) (H : Hp) (u v y : V) (Q : VK) (E : XK), Room k (A.deeper (envOfC x (defScope st) s.heap.objs.size f cdv)) → p u v y H Q E →
      ∃ t, PSs (cxOf CX0 P w K mg base N x (defScope st) f cdv A outer s H E).nox (defBody st) t ∧ t { nx := fun _ H' => Q .non H', rt := Q } (start N [u, v, y]) H) : Ct P w K mg base CX0 (k + 1) x [a, b, c] (sp3 p) := by
  obtain ⟨f, fd, F, hm, hb⟩ := D.ex
  refine ⟨f, fd, hm, F.kp, hb, F.ok S (fun vs H Q E h => ?_) (fun cdv A outer s H vs Q E hr h => ?_), fun_at F⟩
  · obtain ⟨u, v, y, rfl, _⟩ := sp3_of h
    rfl
  · obtain ⟨u, v, y, rfl, h⟩ := sp3_of h
    exact body f cdv A outer s H u v y Q E hr h
theorem ct4 {x : Str} {st : Stmt} {a b c d : Str} {N : List Str} {k : Nat} {p : V → V → V → V → Hp → VK → XK → Prop} (D : Df K mg x st [a, b, c, d]) (S : FnScope N [a, b, c, d] (defScope st))
    (body : ∀ (f : Addr) (cdv : Value) (A : Around) (outer : List Env) (s : Shared) (H : Hp) (u v y z : V) (Q : VK) (E : XK), Room k (A.deeper (envOfC x (defScope st) s.heap.objs.size f cdv)) → p u v y z H Q E →
      ∃ t, PSs (cxOf CX0 P w K mg base N x (defScope st) f cdv A outer s H E).nox (defBody st) t ∧ t { nx := fun _ H' => Q .non H', rt := Q } (start N [u, v, y, z]) H) : Ct P w K mg base CX0 (k + 1) x [a, b, c, d] (sp4 p) := by
  obtain ⟨f, fd, F, hm, hb⟩ := D.ex
  refine ⟨f, fd, hm, F.kp, hb, F.ok S (fun vs H Q E h => ?_) (fun cdv A outer s H vs Q E hr h => ?_), fun_at F⟩
  · obtain ⟨u, v, y, z, rfl, _⟩ := sp4_of h
    rfl
  · obtain ⟨u, v, y, z, rfl, h⟩ := sp4_of h
    exact body f cdv A outer s H u v y z Q E hr h
end

/-! ### loops over known items -/
/-- the iterator J gives these items while S stands -/
structure Wk (J : It) (items : List V) (S : Hp → Prop) : Prop where
  go : ∀ i H, S H → i < items.length → J.go i H
  stop : ∀ H, S H → J.stop items.length H
  yld : ∀ i H x H', S H → i < items.length → J.yld i H x H' → H' = H ∧ items[i]? = some x
theorem wk_list {K : PySem.W.Frag} {a : Addr} (xs : List V) : Wk (Itl K a) xs (fun H => SqL K H a xs) where
  go i H s h := ⟨xs, xs[i], s, by simp [h]⟩
  stop H s := ⟨xs, s, Nat.le_refl _⟩
  yld i H x H' s _ y := ⟨y.1, y.2 xs s⟩
theorem wk_tup {K : PySem.W.Frag} {a : Addr} (xs : List V) : Wk (Itt K a) xs (fun H => SqT K H a xs) where
  go i H s h := ⟨xs, xs[i], s, by simp [h]⟩
  stop H s := ⟨xs, s, Nat.le_refl _⟩
  yld i H x H' s _ y := ⟨y.1, y.2 xs s⟩
def rngV (lo : Int) (n : Nat) : List V := (List.range n).map fun (i : Nat) => V.int (lo + i)
theorem rngV_len (lo : Int) (n : Nat) : (rngV lo n).length = n := by simp [rngV]
theorem rngV_get {lo : Int} {n i : Nat} (h : i < n) : (rngV lo n)[i]? = some (.int (lo + i)) := by
  rw [rngV, List.getElem?_map, List.getElem?_range h]
  rfl
theorem rngV_at {lo : Int} {n i : Nat} {x : V} (h : (rngV lo n)[i]? = some x) : i < n ∧ x = .int (lo + i) := by
  have hi : i < n := by
    have q := (List.getElem?_eq_some_iff.mp h).1
    rw [rngV_len] at q
    exact q
  rw [rngV_get hi] at h
  exact ⟨hi, (Option.some.inj h).symm⟩
theorem wk_rng (lo : Int) (n : Nat) : Wk (Itr lo n) (rngV lo n) (fun _ => True) where
  go i H _ h := by
    rw [rngV_len] at h
    exact h
  stop H _ := by
    show n ≤ (rngV lo n).length
    rw [rngV_len]
    exact Nat.le_refl n
  yld i H x H' s h y := by
    rw [rngV_len] at h
    obtain ⟨y1, y2⟩ := y
    exact ⟨y1, by rw [y2, rngV_get h]⟩
def signV (c : Nat) : V := V.str ⟨#[c]⟩
def signsV (x : Str) : List V := x.cps.toList.map signV
theorem wk_str (x : Str) : Wk (Its x) (signsV x) (fun _ => True) where
  go i H _ h := by
    rw [signsV, List.length_map, Array.length_toList] at h
    exact h
  stop H _ := by
    show x.cps.size ≤ (signsV x).length
    rw [signsV, List.length_map, Array.length_toList]
    exact Nat.le_refl _
  yld i H v H' s h y := by
    obtain ⟨y1, c, y2, y3⟩ := y
    refine ⟨y1, ?_⟩
    rw [signsV, List.getElem?_map, Array.getElem?_toList, y2, y3]
    rfl
/-- for: the invariant by the turn -/
theorem for_w {J : It} {items : List V} {S : Hp → Prop} (wk : Wk J items S) {g : TG} {tb : TS} {D : Ends} {σ : L2.St} {H : Hp} (Pv : Nat → L2.St → Hp → Prop) (h0 : Pv 0 σ H) (hS : ∀ i σ H, Pv i σ H → S H)
    (hs : ∀ i x σ H, items[i]? = some x → Pv i σ H → g x σ H fun σ2 H2 => tb { D with nx := Pv (i + 1), ct := Pv (i + 1), bk := D.nx } σ2 H2) (hd : ∀ σ H, Pv items.length σ H → D.nx σ H) :
    ∃ W : Nat → Nat → L2.St → Hp → Prop, (∃ m, W 0 m σ H) ∧ ∀ i m σ H, W i m σ H →
      (J.stop i H ∧ D.nx σ H) ∨ (J.go i H ∧ ∃ N : L2.St → Hp → Prop, (∀ σ' H', N σ' H' → ∃ m', m' < m ∧ W (i + 1) m' σ' H') ∧ ∀ x H', J.yld i H x H' → g x σ H' fun σ2 H2 => tb { D with nx := N, ct := N, bk := D.nx } σ2 H2) := by
  refine ⟨fun i m σ H => m = items.length - i ∧ i ≤ items.length ∧ Pv i σ H, ⟨_, rfl, Nat.zero_le _, h0⟩, ?_⟩
  rintro i m σ H ⟨rfl, hi, p⟩
  have s := hS i σ H p
  rcases Nat.lt_or_ge i items.length with hlt | hge
  · refine .inr ⟨wk.go i H s hlt, Pv (i + 1), fun σ' H' p' => ⟨items.length - (i + 1), by omega, rfl, hlt, p'⟩, fun x H' y => ?_⟩
    obtain ⟨rfl, hx⟩ := wk.yld i H x H' s hlt y
    exact hs i x σ _ hx p
  · have e : i = items.length := Nat.le_antisymm hi hge
    subst e
    exact .inl ⟨wk.stop H s, hd σ H p⟩

/-! ### comprehensions -/
def monI (t : TI) : TI := fun σ H R => ∃ R0 : It → Hp → Prop, t σ H R0 ∧ ∀ J H1, R0 J H1 → R J H1
def monG (t : TG) : TG := fun v σ H Q => ∃ Q0 : L2.St → Hp → Prop, t v σ H Q0 ∧ ∀ σ1 H1, Q0 σ1 H1 → Q σ1 H1
def monT (t : TT) : TT := fun σ H Q => ∃ Q0 : Bool → Hp → Prop, t σ H Q0 ∧ ∀ b H1, Q0 b H1 → Q b H1
theorem pi_mon {X : Cx} {g e : Expr} {t : TI} (h : PI X g e t) : PI X g e (monI t) := ⟨fun pins s σ H R I ⟨R0, q, i⟩ =>
  thn (h.run pins s σ H R0 I q) fun v s1 h1 => thn h1 fun u s2 ⟨it, fp, tn, J, H', a1, a2, a3, a4, a5, a6⟩ => ⟨it, fp, tn, J, H', a1, a2, a3, a4, a5, i _ _ a6⟩⟩
theorem pg_mon {X : Cx} {g : Expr} {t : TG} (h : PG X g t) : PG X g (monG t) := ⟨fun pins s σ H v u Q I r ⟨Q0, q, i⟩ =>
  thn (h.run pins s σ H v u Q0 I r q) fun _ s1 ⟨σ', H', a, b⟩ => ⟨σ', H', a, i _ _ b⟩⟩
theorem pts_mon {X : Cx} {es : List Expr} {t : TT} (h : PTs X es t) : PTs X es (monT t) := ⟨fun pins s σ H Q I ⟨Q0, q, i⟩ =>
  thn (h.run pins s σ H Q0 I q) fun b s1 ⟨H', a, c⟩ => ⟨H', a, i _ _ c⟩⟩
/-- [te for g in wi if tt]: W by the turn, a measure, the list so far -/
def tLcz (wi : TI) (g : TG) (tt : TT) (te : TE) (vs : List Nat) : TE := fun σ H Q => wi σ H fun J H1 => ∀ D, H1 D = none → ∃ W : Nat → Nat → List V → Hp → Prop, (∃ m, ∀ H2, Nw H1 D (.lst []) H2 → W 0 m [] H2) ∧
  ∀ i m acc H, H D = some (.lst acc) → W i m acc H → (J.stop i H ∧ Q (.ref D) H) ∨
    (acc.length < sizeLine ∧ J.go i H ∧ ∃ Nx : List V → Hp → Prop, (∀ a' H', Nx a' H' → ∃ m', m' < m ∧ W (i + 1) m' a' H') ∧ ∀ x H', J.yld i H x H' → g x (wipe σ vs) H' fun σ2 H2 => wipe σ2 vs = wipe σ vs ∧ tt σ2 H2 fun b H3 =>
      if b = true then te σ2 H3 fun y H4 => H4 D = some (.lst acc) ∧ ∀ H5, Wr H4 D (.lst (acc ++ [y])) H5 → Nx (acc ++ [y]) H5 else H3 D = some (.lst acc) ∧ Nx acc H3)
theorem tLcz_of {wi : TI} {g : TG} {tt : TT} {te : TE} {vs : List Nat} {σ : L2.St} {H : Hp} {Q : VK} (h : tLcz wi g tt te vs σ H Q) : tLc (monI wi) (monG g) (monT tt) (mon te) vs σ H Q := by
  refine ⟨_, h, fun J H1 h1 D hD => ?_⟩
  obtain ⟨W, ⟨m, w0⟩, step⟩ := h1 D hD
  refine ⟨fun i m H => ∃ acc, H D = some (.lst acc) ∧ W i m acc H, ⟨m, [], upd_same, w0 _ (nw hD)⟩, ?_⟩
  rintro i m H ⟨acc, hacc, w⟩
  rcases step i m acc H hacc w with q | ⟨hz, go, Nx, hN, body⟩
  · exact .inl q
  · refine .inr ⟨go, fun H' => ∃ acc, H' D = some (.lst acc) ∧ Nx acc H', fun H' ⟨a', e, n⟩ => ?_, fun x H' y => ?_⟩
    · obtain ⟨m', l, w'⟩ := hN a' H' n
      exact ⟨m', l, a', e, w'⟩
    · refine ⟨_, body x H' y, fun σ2 H2 ⟨e, h2⟩ => ⟨e, _, h2, fun b H3 h3 => ?_⟩⟩
      cases b with
      | true =>
        rw [if_pos rfl] at h3 ⊢
        exact ⟨_, h3, fun z H4 h4 => ⟨acc, h4.1, hz, _, upd_same, h4.2 _ wr⟩⟩
      | false =>
        rw [if_neg Bool.false_ne_true] at h3 ⊢
        exact ⟨acc, h3.1, h3.2⟩
theorem pe_lcz {X : Cx} {elt tg iter : Expr} {ifs : List Expr} {scope : Scope} {own : List (Str × Nat)} {pos : Pos} {wi : TI} {g : TG} {tt : TT} {te : TE} (hc : X.calm = true) (hN : X.N.Nodup) (hi : PI X tg iter wi) (ok : BlkOk X.N X.env.scope scope own)
    (hg : ∀ (s : Shared) (H : Hp) (C : Addr) (cl : List (Str × Addr)) (fp : List Addr), PG (X.blk s H scope (compEnvC scope cl C X.env) fp) tg g) (ht : ∀ (s : Shared) (H : Hp) (C : Addr) (cl : List (Str × Addr)) (fp : List Addr), PTs (X.blk s H scope (compEnvC scope cl C X.env) fp) ifs tt)
    (he : ∀ (s : Shared) (H : Hp) (C : Addr) (cl : List (Str × Addr)) (fp : List Addr), PE (X.blk s H scope (compEnvC scope cl C X.env) fp) elt te) (hs : ∀ x, foldedSetIterable iter X.env x = pure x := by intro _; rfl) :
    PE X (.ListComp elt [⟨tg, iter, ifs, 0⟩] scope pos) (tLcz wi g tt te (own.map (·.2))) :=
  pe_w (pe_lc hc hN (pi_mon hi) ok (fun s H C cl fp => pg_mon (hg s H C cl fp)) (fun s H C cl fp => pts_mon (ht s H C cl fp)) (fun s H C cl fp => pe_mon (he s H C cl fp)) hs) fun σ H Q h => tLcz_of h
theorem ps_setLcz {X : Cx} {i : Nat} {y : Str} {py : Pos} {elt tg iter : Expr} {ifs : List Expr} {scope : Scope} {own : List (Str × Nat)} {pos spos : Pos} {wi : TI} {g : TG} {tt : TT} {te : TE} (hc : X.calm = true) (hN : X.N.Nodup) (hy : X.N[i]? = some y) (hyl : X.env.scope.names.lookup y = some .local)
    (hsw : swapsWith (.ListComp elt [⟨tg, iter, ifs, 0⟩] scope pos) (some (.Name y py)) spos.line X.env = pure true) (hi : PI X tg iter wi) (ok : BlkOk X.N X.env.scope scope own)
    (hg : ∀ (s : Shared) (H : Hp) (C : Addr) (cl : List (Str × Addr)) (fp : List Addr), PG (X.blk s H scope (compEnvC scope cl C X.env) fp) tg g) (ht : ∀ (s : Shared) (H : Hp) (C : Addr) (cl : List (Str × Addr)) (fp : List Addr), PTs (X.blk s H scope (compEnvC scope cl C X.env) fp) ifs tt)
    (he : ∀ (s : Shared) (H : Hp) (C : Addr) (cl : List (Str × Addr)) (fp : List Addr), PE (X.blk s H scope (compEnvC scope cl C X.env) fp) elt te) (hs : ∀ x, foldedSetIterable iter X.env x = pure x := by intro _; rfl) :
    PS X (.Assign [.Name y py] (.ListComp elt [⟨tg, iter, ifs, 0⟩] scope pos) spos) (tAsg (tLcz wi g tt te (own.map (·.2))) (gName i)) :=
  ps_w (ps_setLc hc hN hy hyl hsw (pi_mon hi) ok (fun s H C cl fp => pg_mon (hg s H C cl fp)) (fun s H C cl fp => pts_mon (ht s H C cl fp)) (fun s H C cl fp => pe_mon (he s H C cl fp)) hs) fun D σ H h => tLcz_of h
/-- a comprehension over known items: the invariant by the turn and the list so far -/
theorem lc_w {J : It} {items : List V} {S : Hp → Prop} (wk : Wk J items S) (hz : items.length ≤ 1000000) {g : TG} {tt : TT} {te : TE} {vs : List Nat} {σ : L2.St} {H1 : Hp} {D : Addr} {Qd : Hp → Prop} (Pv : Nat → List V → Hp → Prop) (h0 : ∀ H2, Nw H1 D (.lst []) H2 → Pv 0 [] H2)
    (hS : ∀ i acc H, Pv i acc H → S H) (hL : ∀ i acc H, Pv i acc H → acc.length ≤ i)
    (hs : ∀ i x acc H, items[i]? = some x → H D = some (.lst acc) → Pv i acc H → g x (wipe σ vs) H fun σ2 H2 => wipe σ2 vs = wipe σ vs ∧ tt σ2 H2 fun b H3 =>
      if b = true then te σ2 H3 fun y H4 => H4 D = some (.lst acc) ∧ ∀ H5, Wr H4 D (.lst (acc ++ [y])) H5 → Pv (i + 1) (acc ++ [y]) H5 else H3 D = some (.lst acc) ∧ Pv (i + 1) acc H3)
    (hd : ∀ acc H, acc.length ≤ items.length → H D = some (.lst acc) → Pv items.length acc H → Qd H) :
    ∃ W : Nat → Nat → List V → Hp → Prop, (∃ m, ∀ H2, Nw H1 D (.lst []) H2 → W 0 m [] H2) ∧
  ∀ i m acc H, H D = some (.lst acc) → W i m acc H → (J.stop i H ∧ Qd H) ∨
    (acc.length < sizeLine ∧ J.go i H ∧ ∃ Nx : List V → Hp → Prop, (∀ a' H', Nx a' H' → ∃ m', m' < m ∧ W (i + 1) m' a' H') ∧ ∀ x H', J.yld i H x H' → g x (wipe σ vs) H' fun σ2 H2 => wipe σ2 vs = wipe σ vs ∧ tt σ2 H2 fun b H3 =>
      if b = true then te σ2 H3 fun y H4 => H4 D = some (.lst acc) ∧ ∀ H5, Wr H4 D (.lst (acc ++ [y])) H5 → Nx (acc ++ [y]) H5 else H3 D = some (.lst acc) ∧ Nx acc H3) := by
  have hs1 : 1000000 < sizeLine := by decide
  -- the list is never longer than the turns done
  refine ⟨fun i m acc H => m = items.length - i ∧ i ≤ items.length ∧ Pv i acc H, ⟨items.length, fun H2 n => ⟨by omega, Nat.zero_le _, h0 H2 n⟩⟩, ?_⟩
  rintro i m acc H hacc ⟨rfl, hi, p⟩
  have hl := hL i acc H p
  have s := hS i acc H p
  rcases Nat.lt_or_ge i items.length with hlt | hge
  · refine .inr ⟨by omega, wk.go i H s hlt, Pv (i + 1), fun a' H' p' => ⟨items.length - (i + 1), by omega, rfl, hlt, p'⟩, fun x H' y => ?_⟩
    obtain ⟨rfl, hx⟩ := wk.yld i H x H' s hlt y
    exact hs i x acc _ hx hacc p
  · have e : i = items.length := Nat.le_antisymm hi hge
    subst e
    exact .inl ⟨wk.stop H s, hd acc H hl hacc p⟩

/-! ### constants of the module, permutations -/
theorem pe_gk {X : Cx} {x : Str} {v : V} {pos : Pos} (h : ∃ u, X.mg x = some u ∧ RelV v u) (hg : Gl X x := by rfl) (hd : (x == ("__debug__" : Str)) = false := by decide) : PE X (.Name x pos) (tC v) := by
  obtain ⟨u, hm, r⟩ := h
  exact pe_glob hg hm r hd
def zNeg : V → Hp → VK → Prop := fun x H Q => match x with
  | .int i => Q (.int (-i)) H
  | _ => False
theorem un_negZ {X : Cx} : UnR X (unaryOp .USub) zNeg :=
  fun pins s σ H x v Q I r h => by
    unfold zNeg at h
    split at h
    · exact un_neg pins s σ H _ v Q I r ⟨_, rfl, h⟩
    · exact h.elim
def perm_0 {α : Type} (l : List α) : List α := l
theorem perm_0_ok {zs : List V} {ws : List Value} (r : Vals zs ws) : Vals (perm_0 zs) (perm_0 ws) := r
def perm_1_0 {α : Type} : List α → List α
  | [a, b] => [b, a]
  | _ => []
theorem perm_1_0_ok {zs : List V} {ws : List Value} (r : Vals zs ws) : Vals (perm_1_0 zs) (perm_1_0 ws) := by
  match zs, ws, r with
  | [], [], _ => exact .nil
  | [_], [_], _ => exact .nil
  | [_, _], [_, _], .cons a (.cons b .nil) => exact .cons b (.cons a .nil)
  | _ :: _ :: _ :: _, _ :: _ :: _ :: _, _ => exact .nil

/-! ### the same rules over the written part by its own name (a block's rules must not speak of the block) -/
section
variable {X : Cx} (K : PySem.W.Frag)
theorem k_add (hK : X.K = K := by rfl) : OpR X (binaryOp .Add) (zAdd K) := hK ▸ o_add
theorem k_eq (hu : X.A.units + 64 < cLine) (hK : X.K = K := by rfl) : OpR X (compareOp .Eq) (zEq K false) := hK ▸ o_eq hu
theorem k_ne (hu : X.A.units + 64 < cLine) (hK : X.K = K := by rfl) : OpR X (compareOp .NotEq) (zEq K true) := hK ▸ o_ne hu
theorem k_in (hK : X.K = K := by rfl) : OpR X (compareOp .In) (zIn K false) := hK ▸ o_in
theorem k_nin (hK : X.K = K := by rfl) : OpR X (compareOp .NotIn) (zIn K true) := hK ▸ o_nin
theorem k_ix (hK : X.K = K := by rfl) : IxR X (zIx K) := hK ▸ o_ix
theorem k_sl (hK : X.K = K := by rfl) : SlR X (zSl K) := hK ▸ o_sl
theorem k_len (hK : X.K = K := by rfl) : CallR X (.builtin "len") (zLen K) := hK ▸ c_len
theorem k_sum (hc : X.calm = true) (hK : X.K = K := by rfl) : CallR X (.builtin "sum") (zSum K) := hK ▸ c_sum hc
theorem k_all (hc : X.calm = true) (hK : X.K = K := by rfl) : CallR X (.builtin "all") (zAll K) := hK ▸ c_all hc
theorem k_list (hK : X.K = K := by rfl) : CallR X (.type "list") (zList K) := hK ▸ c_list
theorem k_tuple (hK : X.K = K := by rfl) : CallR X (.type "tuple") (zTuple K) := hK ▸ c_tuple
theorem k_isi (hK : X.K = K := by rfl) : CallR X (.builtin "isinstance") (zIsi K) := hK ▸ c_isi
theorem mk_join (hK : X.K = K := by rfl) : MtR X "str.join" (ofS (zJoin K)) := hK ▸ m_join
theorem pt_trK {a : Expr} {ta : TE} (h : PE X a ta) (hK : X.K = K := by rfl) (he : ∀ whole, isTrue a X.env whole = (do let v ← whole; standAt a.pos; holding [v] (truthy v)) := by intro _; rfl) : PT X a (tTr K ta) := hK ▸ pt_tr h he
theorem pi_lzK {tg e : Expr} {te : TE} (h : PE X e te) (hK : X.K = K := by rfl) : PI X tg e (tItL K te) := hK ▸ pi_lz h
theorem pi_tzK {tg e : Expr} {te : TE} (h : PE X e te) (hK : X.K = K := by rfl) : PI X tg e (tItT K te) := hK ▸ pi_tz h
theorem pg_tzK {es : List Expr} {k : Nat} {pos : Pos} {t : TGs} {n : Nat} (hc : X.calm = true) (h : PGs X es t) (hK : X.K = K := by rfl) (hn : (assignEach es X.env).length = n := by rfl) (hst : (assignEach es X.env).findIdx? (·.1) = none := by rfl) : PG X (.Tuple es k pos) (gTz K n t) :=
  hK ▸ pg_tz hc h hn hst
theorem pe_mlK {e o : Expr} {es : List Expr} {to : TE} {t : TA} {name : Str} {apos cpos : Pos} {id : String} {r : Addr → List V → Hp → VK → Prop} (slot : Slot "list" name id) (hty : typeOf (.builtin id) = pure (.type "method_descriptor")) (hm : MtR X id (ofL r)) (ho : PE X o to) (ha : PA X (e :: es) t)
    (hK : X.K = K := by rfl) (hbase : attributeBase o name X.env (eval o X.env) = eval o X.env := by rfl)
    (hfew : ((backTo cpos (starEach (e :: es) X.env)).all (fun x => !x.1) && (backToKw cpos (keywordEach [] X.env)).all (fun x => x.1.isSome)
      && decide ((e :: es).length + ([] : List Keyword).length + (if ([] : List Keyword).isEmpty then 0 else 1) < 30)) = true := by rfl)
    (hline : (apos.endLine == cpos.line) = true := by rfl) (hs : starEach (e :: es) X.env = (false, eval e X.env) :: starEach es X.env := by rfl) (hplain : (backTo cpos (starEach es X.env)).any (·.1) = false := by rfl) :
    PE X (.Call (.Attribute o name apos) (e :: es) [] cpos) (tMl K r to t) := hK ▸ pe_ml slot hty hm ho ha hbase hfew hline hs hplain
end

/-! ### items at a place -/
theorem atI_some {α : Type} {xs : List α} {r : Int} (h0 : 0 ≤ r) (h : r < (xs.length : Int)) : ∃ v, atI xs r = some v ∧ v ∈ xs ∧ xs[r.toNat]? = some v := by
  have hl : r.toNat < xs.length := by omega
  have q := atI_nat (List.getElem?_eq_getElem hl)
  rw [Int.toNat_of_nonneg h0] at q
  exact ⟨xs[r.toNat], q, List.getElem_mem hl, List.getElem?_eq_getElem hl⟩
/-- an int of a written list -/
theorem menuI (ms : List Int) {r : Int} (h0 : 0 ≤ r) (h : r < (ms.length : Int)) : ∃ v, atI (ms.map V.int) r = some (.int v) ∧ v ∈ ms := by
  obtain ⟨v, h1, h2, _⟩ := atI_some (xs := ms.map V.int) h0 (by rw [List.length_map]; exact h)
  obtain ⟨i, hi, rfl⟩ := List.mem_map.mp h2
  exact ⟨i, h1, hi⟩
theorem iteY {c : Bool} {A B : Prop} (h : c = true) (a : A) : if c = true then A else B := by
  rw [if_pos h]
  exact a
theorem iteN {c : Bool} {A B : Prop} (h : c = false) (b : B) : if c = true then A else B := by
  rw [if_neg (by rw [h]; exact Bool.false_ne_true)]
  exact b
/-- one of two walks -/
def tIor (a b : TI) : TI := fun σ H R => a σ H R ∨ b σ H R
theorem pi_or {X : Cx} {tg e : Expr} {a b : TI} (ha : PI X tg e a) (hb : PI X tg e b) : PI X tg e (tIor a b) := ⟨fun pins s σ H R I h => by
  rcases h with h | h
  · exact ha.run pins s σ H R I h
  · exact hb.run pins s σ H R I h⟩
theorem dT {p : Prop} [Decidable p] (h : decide p = true) : p := of_decide_eq_true h
theorem dF {p : Prop} [Decidable p] (h : ¬ decide p = true) : ¬ p := fun q => h (decide_eq_true q)
theorem signsV_len (x : Str) : (signsV x).length = x.length := by
  rw [signsV, List.length_map, Array.length_toList]
  rfl
theorem signsV_at {x : Str} {i : Nat} {v : V} (h : (signsV x)[i]? = some v) : ∃ c, x.cps.toList[i]? = some c ∧ v = signV c := by
  rw [signsV, List.getElem?_map] at h
  cases e : x.cps.toList[i]? with
  | none => rw [e] at h; cases h
  | some c =>
    rw [e] at h
    exact ⟨c, rfl, (Option.some.inj h).symm⟩

/-! ### the end -/
section
variable {P : Program} {w : World} {K : PySem.W.Frag} {mg : Str → Option Value} {base : Heap}
theorem df_mk {h : Heap} (X : K.In h) (G : h.Ns mainGlobals mg) {x : Str} {st : Stmt} {ps : List Str} {f : Addr} {oc : Value} {od an : Option Addr} {osl : Array (Option Value)} {kV doc pm cdv ct : Value} (a : PySem.W.nsIn K mainGlobals x = some (some (.ref f)))
    (l : K.lookup f = some ⟨oc, od, .func (PySem.W.fnOf x x (defArgs st) (defBody st) (defScope st) .none kV doc pm an cdv ct), osl⟩) (c : PySem.W.codeIn K cdv x = true) (k : PySem.W.keepIn K (.ref f) = true)
    (b : ∀ (kV doc pm : Value) (an : Option Addr) (cdv ct : Value) (us : List Value), us.length = ps.length → bindArgs (PySem.W.fnOf x x (defArgs st) (defBody st) (defScope st) .none kV doc pm an cdv ct) ⟨us, []⟩ = pure (ps.zip us)) : Df K mg x st ps :=
  ⟨f, _, fun_mk l c k, PySem.W.mg_of X G a, (fun_mk l c k).binds b⟩
theorem law_fn {CX : CXT} {k : Nat} {x : Str} {ps : List Str} {sp : Sp} {fa : Addr} {fd : FuncData} {oc : Value} {od : Option Addr} {osl : Array (Option Value)} (C : Ct P w K mg base CX k x ps sp) (hfa : mg x = some (.ref fa))
    (l : K.lookup fa = some ⟨oc, od, .func fd, osl⟩) : FnOk P w K mg base CX k fa fd ps sp := by
  obtain ⟨f, fd', hm, _, _, F, oc', od', osl', hl⟩ := C.ex
  have e : f = fa := by
    rw [hm] at hfa
    cases hfa
    rfl
  subst e
  have e2 : fd' = fd := by
    rw [hl] at l
    cases l
    rfl
  subst e2
  exact F
end
end Z

/-! M9: texts as lists of codes: signs, frames, their reading. -/
namespace M9
open PySem PySem.Spec PyProof.Rows L2 Z SX PySem.NumText

/-! ### signs -/
def Pr (l : List Nat) : Prop := ∀ c ∈ l, 32 ≤ c ∧ c ≤ 126
theorem pr_nil : Pr [] := fun _ h => by cases h
theorem pr_cons {c : Nat} {l : List Nat} (h : 32 ≤ c ∧ c ≤ 126) (t : Pr l) : Pr (c :: l) := fun d hd => by
  rcases List.mem_cons.mp hd with rfl | hd
  · exact h
  · exact t d hd
theorem pr_app {l m : List Nat} (a : Pr l) (b : Pr m) : Pr (l ++ m) := fun c hc => (List.mem_append.mp hc).elim (a c) (b c)
theorem pr_take {l : List Nat} (n : Nat) (a : Pr l) : Pr (l.take n) := fun c hc => a c (List.mem_of_mem_take hc)
theorem pr_drop {l : List Nat} (n : Nat) (a : Pr l) : Pr (l.drop n) := fun c hc => a c (List.mem_of_mem_drop hc)
theorem pr_rep {l : List Nat} (n : Nat) (a : Pr l) : Pr (List.replicate n l).flatten := fun c hc => by
  obtain ⟨m, hm, hc⟩ := List.mem_flatten.mp hc
  rw [(List.mem_replicate.mp hm).2] at hc
  exact a c hc
theorem pr_flat {ls : List (List Nat)} (a : ∀ l ∈ ls, Pr l) : Pr ls.flatten := fun c hc => by
  obtain ⟨m, hm, hc⟩ := List.mem_flatten.mp hc
  exact a m hm c hc
theorem pr_of {l : List Nat} (h : (l.all fun c => decide (32 ≤ c) && decide (c ≤ 126)) = true) : Pr l := fun c hc => by
  have q := (List.all_eq_true.mp h) c hc
  simpa using q
theorem printable_all : ∀ c : _root_.Fin 127, 32 ≤ c.val → Unicode.isPrintable c.val = true := by decide +kernel
theorem isascii_S {l : List Nat} (h : Pr l) : Txt.isascii (S l) = true := by
  show (l.toArray.all fun c => decide (c < 128)) = true
  rw [← Array.all_toList, List.all_eq_true]
  intro c hc
  have := h c (by simpa using hc)
  exact decide_eq_true (by omega)
theorem isprintable_S {l : List Nat} (h : Pr l) : Txt.isprintable (S l) = true := by
  show (l.toArray.all Unicode.isPrintable) = true
  rw [← Array.all_toList, List.all_eq_true]
  intro c hc
  have q := h c (by simpa using hc)
  exact printable_all ⟨c, by omega⟩ q.1
theorem S_lit {s : Str} {l : List Nat} (h : s.cps.toList = l) : s = S l := by
  rw [← h]
theorem length_S (l : List Nat) : (S l).length = l.length := S_len l
theorem cps_S (l : List Nat) : (S l).cps.toList = l := by simp [S]
theorem cut_S (l : List Nat) (lo hi : Option Int) : cutS (S l) lo hi = S ((l.drop (HT.sIx l.length 0 lo)).take (HT.sIx l.length l.length hi - HT.sIx l.length 0 lo)) := by
  unfold cutS
  rw [length_S]
theorem sIx_pos {n d : Nat} {i : Int} (h : 0 ≤ i) : HT.sIx n d (some i) = min i.toNat n := by
  show (if i < 0 then (i + (n : Int)).toNat else min i.toNat n) = min i.toNat n
  rw [if_neg (by omega)]
/-- l[a:b] for counts -/
theorem cut_nn {l : List Nat} {a b : Nat} : cutS (S l) (some (a : Int)) (some (b : Int)) = S ((l.drop a).take (b - a)) := by
  rw [cut_S, sIx_pos (by omega), sIx_pos (by omega), Int.toNat_natCast, Int.toNat_natCast]
  congr 1
  rcases Nat.le_total a l.length with h | h
  · rw [Nat.min_eq_left h]
    rcases Nat.le_total b l.length with h2 | h2
    · rw [Nat.min_eq_left h2]
    · rw [Nat.min_eq_right h2, List.take_of_length_le (by rw [List.length_drop]; omega), List.take_of_length_le (by rw [List.length_drop]; omega)]
  · rw [Nat.min_eq_right h, List.drop_of_length_le (Nat.le_refl _), List.drop_of_length_le h]
    simp
theorem cut_n {l : List Nat} {b : Nat} : cutS (S l) none (some (b : Int)) = S (l.take b) := by
  rw [cut_S, sIx_pos (by omega), Int.toNat_natCast]
  show S ((l.drop 0).take (min b l.length - 0)) = S (l.take b)
  rw [List.drop_zero, Nat.sub_zero]
  rcases Nat.le_total b l.length with h | h
  · rw [Nat.min_eq_left h]
  · rw [Nat.min_eq_right h, List.take_of_length_le (Nat.le_refl _), List.take_of_length_le h]
theorem cut_from {l : List Nat} {a : Nat} : cutS (S l) (some (a : Int)) none = S (l.drop a) := by
  rw [cut_S, sIx_pos (by omega), Int.toNat_natCast]
  show S ((l.drop (min a l.length)).take (l.length - min a l.length)) = S (l.drop a)
  rcases Nat.le_total a l.length with h | h
  · rw [Nat.min_eq_left h, List.take_of_length_le (by rw [List.length_drop]; omega)]
  · rw [Nat.min_eq_right h, List.drop_of_length_le (Nat.le_refl _), List.drop_of_length_le h]
    simp
theorem rep_S (l : List Nat) (n : Int) : rep (S l) n = S (List.replicate n.toNat l).flatten := by
  unfold rep
  rw [cps_S]
theorem rep_one (c : Nat) (n : Nat) : (List.replicate n [c]).flatten = List.replicate n c := by
  induction n with
  | zero => rfl
  | succ n ih => rw [List.replicate_succ, List.flatten_cons, ih]; rfl
theorem joinL_nil (ls : List (List Nat)) : TL.joinL [] ls = ls.flatten := by
  induction ls with
  | nil => rfl
  | cons a r ih =>
    cases r with
    | nil => simp [TL.joinL]
    | cons b r => rw [TL.joinL, ih]; simp
theorem join_flat {e : Str} (he : e = S []) (ls : List (List Nat)) : Txt.join e (ls.map S) = S ls.flatten := by
  rw [he, join_S, joinL_nil]

/-! ### frames -/
def frL (l : List Nat) : List Nat := List.replicate (5 - (TL.numL l.length).length) 48 ++ TL.numL l.length ++ [58] ++ l ++ [59]
theorem numL5 {n : Nat} (h : n < 100000) : (TL.numL n).length ≤ 5 ∧ 1 ≤ (TL.numL n).length := by
  refine ⟨TL.numL_len (by decide) (by simpa using h), ?_⟩
  rcases Nat.eq_zero_or_pos (TL.numL n).length with e | e
  · exact absurd (List.length_eq_zero_iff.mp e) (TL.numL_ne n)
  · exact e
theorem frL_len {l : List Nat} (h : l.length < 100000) : (frL l).length = l.length + 7 := by
  obtain ⟨h1, h2⟩ := numL5 h
  unfold frL
  simp only [List.length_append, List.length_replicate, List.length_singleton]
  omega
theorem numL_pr (n : Nat) : Pr (TL.numL n) := fun c hc => by
  have := TL.numL_digits n c hc
  omega
theorem frL_pr {l : List Nat} (h : Pr l) : Pr (frL l) := by
  unfold frL
  refine pr_app (pr_app (pr_app (pr_app (fun c hc => ?_) (numL_pr _)) (pr_of (by decide))) h) (pr_of (by decide))
  rw [(List.mem_replicate.mp hc).2]
  omega
/-- str(n).zfill(5) -/
theorem zfill_S {n : Nat} (h : n < 100000) : Txt.zfill (S (TL.numL n)) 5 = S (List.replicate (5 - (TL.numL n).length) 48 ++ TL.numL n) := by
  obtain ⟨h1, h2⟩ := numL5 h
  unfold Txt.zfill
  rw [length_S]
  by_cases h5 : (TL.numL n).length = 5
  · rw [if_pos (by omega), h5]
    rfl
  · rw [if_neg (by omega)]
    have e : (5 : Int).toNat - (TL.numL n).length = 5 - (TL.numL n).length := rfl
    rw [e]
    obtain ⟨c, r, hc⟩ : ∃ c r, TL.numL n = c :: r := by
      cases q : TL.numL n with
      | nil => exact absurd q (TL.numL_ne n)
      | cons c r => exact ⟨c, r, rfl⟩
    have hd := TL.numL_digits n c (by rw [hc]; exact List.mem_cons_self)
    unfold zfilled
    have e0 : (S (TL.numL n)).cps[0]? = some c := by
      rw [hc]
      simp [S]
    rw [e0]
    have pad : Builtin.Str.padded (S (TL.numL n)) (5 - (TL.numL n).length) 0 48 = S (List.replicate (5 - (TL.numL n).length) 48 ++ TL.numL n) := by
      unfold Builtin.Str.padded
      simp [S]
    split
    · rename_i q; cases q; omega
    · rename_i q; cases q; omega
    · exact pad

/-! ### reading frames -/
def digs (l : List Nat) : Bool := l.all fun c => decide (48 ≤ c) && decide (c ≤ 57)
/-- the number of a head -/
def headN (h : List Nat) : Option Nat := if h.length < 6 ∨ h[5]? ≠ some 58 ∨ digs (h.take 5) = false then none else some (digitsVal (h.take 5))
/-- the end of the frame that begins at i -/
def fEnd (l : List Nat) (i : Nat) : Option Nat := match headN ((l.drop i).take 6) with
  | none => none
  | some n => if n ≤ 80000 ∧ (l.drop (i + 6 + n)).take 1 = [59] then some (i + 6 + n + 1) else none
theorem take1 {l : List Nat} {i c : Nat} (h : (l.drop i).take 1 = [c]) : i < l.length ∧ l[i]? = some c := by
  have hl : i < l.length := by
    rcases Nat.lt_or_ge i l.length with q | q
    · exact q
    · rw [List.drop_of_length_le q] at h
      cases h
  rw [List.drop_eq_getElem_cons hl] at h
  have h2 : [l[i]] = [c] := h
  refine ⟨hl, ?_⟩
  rw [List.getElem?_eq_getElem hl]
  cases h2
  rfl
theorem fEnd_bounds {l : List Nat} {i e : Nat} (h : fEnd l i = some e) : i + 7 ≤ e ∧ e ≤ l.length := by
  unfold fEnd at h
  split at h
  · cases h
  · split at h
    · rename_i q
      cases h
      obtain ⟨h1, _⟩ := take1 q.2
      omega
    · cases h
def scan : Nat → List Nat → Nat → List (List Nat) × Nat
  | 0, _, i => ([], i)
  | f + 1, l, i => match fEnd l i with
    | none => ([], i)
    | some e => ((l.drop (i + 6)).take (e - 1 - (i + 6)) :: (scan f l e).1, (scan f l e).2)
theorem scan_stable : ∀ (f f' : Nat) (l : List Nat) (i : Nat), l.length + 1 ≤ i + f → l.length + 1 ≤ i + f' → scan f l i = scan f' l i
  | 0, 0, _, _, _, _ => rfl
  | 0, f' + 1, l, i, h, _ => by
    unfold scan
    cases q : fEnd l i with
    | none => rfl
    | some e => have := fEnd_bounds q; omega
  | f + 1, 0, l, i, _, h => by
    unfold scan
    cases q : fEnd l i with
    | none => rfl
    | some e => have := fEnd_bounds q; omega
  | f + 1, f' + 1, l, i, h, h' => by
    unfold scan
    cases q : fEnd l i with
    | none => rfl
    | some e =>
      have := fEnd_bounds q
      simp only
      rw [scan_stable f f' l e (by omega) (by omega)]
/-- the frames from i on -/
def sc (l : List Nat) (i : Nat) : List (List Nat) × Nat := scan (l.length + 1) l i
theorem sc_none {l : List Nat} {i : Nat} (h : fEnd l i = none) : sc l i = ([], i) := by
  unfold sc scan
  rw [h]
theorem sc_some {l : List Nat} {i e : Nat} (h : fEnd l i = some e) : sc l i = ((l.drop (i + 6)).take (e - 1 - (i + 6)) :: (sc l e).1, (sc l e).2) := by
  have b := fEnd_bounds h
  have e1 : scan l.length l e = scan (l.length + 1) l e := scan_stable _ _ _ _ (by omega) (by omega)
  show scan (l.length + 1) l i = _
  rw [scan, h]
  simp only
  rw [e1]
  rfl
theorem sc_le : ∀ (f : Nat) (l : List Nat) (i : Nat), i ≤ l.length → i ≤ (scan f l i).2 ∧ (scan f l i).2 ≤ l.length ∧ (scan f l i).1.length * 7 + i ≤ (scan f l i).2
  | 0, l, i, h => ⟨Nat.le_refl _, h, by simp [scan]⟩
  | f + 1, l, i, h => by
    unfold scan
    cases q : fEnd l i with
    | none => exact ⟨Nat.le_refl _, h, by simp⟩
    | some e =>
      have b := fEnd_bounds q
      have r := sc_le f l e b.2
      refine ⟨by simp only; omega, r.2.1, ?_⟩
      simp only [List.length_cons]
      omega
theorem sc_bounds {l : List Nat} {i : Nat} (h : i ≤ l.length) : i ≤ (sc l i).2 ∧ (sc l i).2 ≤ l.length ∧ (sc l i).1.length * 7 + i ≤ (sc l i).2 := sc_le _ l i h
theorem digitsVal_lt : ∀ (l : List Nat), digs l = true → digitsVal l < 10 ^ l.length := by
  intro l
  have gen : ∀ (l : List Nat) (a k : Nat), digs l = true → a < 10 ^ k → l.foldl (fun acc c => acc * 10 + (c - 48)) a < 10 ^ (k + l.length) := by
    intro l
    induction l with
    | nil => intro a k _ h; exact h
    | cons c r ih =>
      intro a k hd h
      have hd' : (decide (48 ≤ c) && decide (c ≤ 57) && digs r) = true := hd
      simp only [Bool.and_eq_true, decide_eq_true_eq] at hd'
      rw [List.foldl_cons, List.length_cons]
      have q := ih (a * 10 + (c - 48)) (k + 1) hd'.2 (by rw [Nat.pow_succ]; omega)
      rw [show k + (r.length + 1) = k + 1 + r.length by omega]
      exact q
  intro h
  have q := gen l 0 0 h (by decide)
  simpa [digitsVal] using q
theorem intText_head {h : List Nat} (h5 : h.length = 5) (hd : digs h = true) : intText? (S h) = some ((digitsVal h : Nat) : Int) := int_S hd (fun e => by rw [e] at h5; cases h5) (by omega)

/-! ### texts as data -/
def strsV (ls : List (List Nat)) : List V := (ls.map S).map V.str
theorem strsV_len (ls : List (List Nat)) : (strsV ls).length = ls.length := by simp [strsV]
theorem strsV_app (ls : List (List Nat)) (l : List Nat) : strsV (ls ++ [l]) = strsV ls ++ [.str (S l)] := by simp [strsV]
theorem strsV_at {ls : List (List Nat)} {i : Nat} {x : V} (h : (strsV ls)[i]? = some x) : ∃ l, ls[i]? = some l ∧ x = .str (S l) ∧ l ∈ ls := by
  unfold strsV at h
  rw [List.getElem?_map, List.getElem?_map] at h
  cases e : ls[i]? with
  | none => rw [e] at h; cases h
  | some l =>
    rw [e] at h
    exact ⟨l, rfl, (Option.some.inj h).symm, List.mem_of_getElem? e⟩
def strsD (ls : List (List Nat)) : PyData := .list (ls.map fun l => .str (S l))
theorem dpAll_strs {K : PySem.W.Frag} {H : Hp} : ∀ ls : List (List Nat), DpAll K H (strsV ls) (ls.map fun l => .str (S l))
  | [] => .nil
  | l :: r => .cons (.str (S l)) (dpAll_strs r)
theorem dp_strs {K : PySem.W.Frag} {H : Hp} {a : Addr} {ls : List (List Nat)} (h : SqL K H a (strsV ls)) : Dp K H (.ref a) (strsD ls) := .lst h (dpAll_strs ls)
theorem strOk_S {l : List Nat} (h : Pr l) : PyData.strOk (S l) = true := by
  show (l.toArray.all fun c => decide (c < 0x110000)) = true
  rw [← Array.all_toList, List.all_eq_true]
  intro c hc
  have := h c (by simpa using hc)
  exact decide_eq_true (by omega)
theorem lay_strs : ∀ {ls : List (List Nat)}, (∀ l ∈ ls, Pr l) → PyData.canLayAll0 (ls.map fun l => .str (S l)) = true
  | [], _ => rfl
  | l :: r, h => by
    show (PyData.strOk (S l) && PyData.canLayAll0 (r.map fun l => .str (S l))) = true
    rw [strOk_S (h l List.mem_cons_self), lay_strs fun l hl => h l (List.mem_cons_of_mem _ hl)]
    rfl
theorem depth_strs : ∀ ls : List (List Nat), PyData.depthAll (ls.map fun l => .str (S l)) = 0
  | [] => rfl
  | l :: r => by
    show max 0 (PyData.depthAll (r.map fun l => .str (S l))) = 0
    rw [depth_strs r]
    rfl
theorem shaped_strs {ls : List (List Nat)} (h : ∀ l ∈ ls, Pr l) : SeqAt.shaped (strsD ls) = true := by
  show (PyData.canLayAll0 _ && decide (PyData.depthAll (ls.map fun l => .str (S l)) + 1 ≤ 64)) = true
  rw [lay_strs h, depth_strs]
  rfl
theorem shaped_pair {d : PyData} {i : Int} (h : SeqAt.shaped d = true) (hd : d.depth ≤ 10) : SeqAt.shaped (.tuple [d, .int i]) = true := by
  have h1 : (d.canLay0 && decide (d.depth ≤ 64)) = true := h
  rw [Bool.and_eq_true] at h1
  show ((d.canLay0 && true) && decide (max d.depth (max 0 0) + 1 ≤ 64)) = true
  rw [h1.1]
  simp
  omega
theorem depth_strsD (ls : List (List Nat)) : (strsD ls).depth = 1 := by
  show PyData.depthAll (ls.map fun l => .str (S l)) + 1 = 1
  rw [depth_strs]
theorem sc_pr {l : List Nat} (h : Pr l) : ∀ (f i : Nat), ∀ m ∈ (scan f l i).1, Pr m
  | 0, _, m, hm => by cases hm
  | f + 1, i, m, hm => by
    unfold scan at hm
    cases q : fEnd l i with
    | none => rw [q] at hm; cases hm
    | some e =>
      rw [q] at hm
      rcases List.mem_cons.mp hm with rfl | hm
      · exact pr_take _ (pr_drop _ h)
      · exact sc_pr h f e m hm
theorem eqv_self {d : PyData} (h : SeqAt.shaped d = true) : PyData.eqv d d = true := SeqAt.eqv_refl d (SeqAt.canLay_of_shaped h)
theorem eqv_nil (ds : List PyData) : PyData.eqv (.list ds) (.list []) = ds.isEmpty := by
  rw [PyData.eqv]
  cases ds <;> rfl
def isdig (c : Nat) : Bool := decide (48 ≤ c) && decide (c ≤ 57)
theorem digits_list : ("0123456789" : Str).cps.toList = [48, 49, 50, 51, 52, 53, 54, 55, 56, 57] := by decide +kernel
theorem dig_in (c : Nat) : decide (c ∈ ("0123456789" : Str).cps.toList) = isdig c := by
  rw [digits_list]
  unfold isdig
  rw [Bool.eq_iff_iff]
  simp only [decide_eq_true_eq, Bool.and_eq_true, List.mem_cons, List.not_mem_nil, or_false]
  omega
theorem digs_all (l : List Nat) : digs l = (l.map isdig).all id := by
  unfold digs
  rw [List.all_map]
  rfl
theorem signs_strs (cs : List Nat) : cs.map signV = strsV (cs.map fun c => [c]) := by
  unfold strsV
  rw [List.map_map, List.map_map]
  rfl
theorem pr_one {c : Nat} (h : 32 ≤ c ∧ c ≤ 126) : Pr [c] := pr_cons h pr_nil
theorem digs_filter : ∀ l : List Nat, digs l = (l.filter fun c => !isdig c).isEmpty
  | [] => rfl
  | c :: r => by
    show (isdig c && digs r) = _
    rw [digs_filter r, List.filter_cons]
    cases isdig c <;> rfl
end M9

namespace L09_
open PySem PySem.Spec PyProof.Rows L2 Z
open SX M9
def top (i : Nat) : Stmt := PySem.Challenge.pw_inorderonce_k09_frames_there_and_back.main.body.getD i (.Pass ⟨0, 0, 0, 0⟩)
structure Txt (K : PySem.W.Frag) (mg : Str → Option Value) : Prop where
  n_int : mg "int" = none
  n_abs : mg "abs" = none
  n_len : mg "len" = none
  n_sum : mg "sum" = none
  n_str : mg "str" = none
  n_range : mg "range" = none
  n_isinstance : mg "isinstance" = none
  n_tuple : mg "tuple" = none
  n_list : mg "list" = none
  n_all : mg "all" = none
  n_bool : mg "bool" = none
  n_max : mg "max" = none
  n_min : mg "min" = none
  c_MOST_SIGNS : ∃ u, mg "MOST_SIGNS" = some u ∧ RelV (.int (80000)) u
  c_FIGURES : ∃ u, mg "FIGURES" = some u ∧ RelV (.str "0123456789") u
theorem bt_int : bootBuiltins "int" = some (.type "int") := by decide +kernel
theorem bt_abs : bootBuiltins "abs" = some (.builtin "abs") := by decide +kernel
theorem bt_len : bootBuiltins "len" = some (.builtin "len") := by decide +kernel
theorem bt_sum : bootBuiltins "sum" = some (.builtin "sum") := by decide +kernel
theorem bt_str : bootBuiltins "str" = some (.type "str") := by decide +kernel
theorem bt_isinstance : bootBuiltins "isinstance" = some (.builtin "isinstance") := by decide +kernel
theorem bt_tuple : bootBuiltins "tuple" = some (.type "tuple") := by decide +kernel
theorem bt_list : bootBuiltins "list" = some (.type "list") := by decide +kernel
theorem bt_all : bootBuiltins "all" = some (.builtin "all") := by decide +kernel
theorem bt_bool : bootBuiltins "bool" = some (.type "bool") := by decide +kernel
theorem bt_max : bootBuiltins "max" = some (.builtin "max") := by decide +kernel
theorem bt_min : bootBuiltins "min" = some (.builtin "min") := by decide +kernel


local macro_rules | `(tactic| walk_at "hp") => `(tactic| first | assumption | (refine Nw.keep (by assumption) ?_; walk_at "hp") | (refine But.at (by assumption) (by assumption) ?_; walk_at "hp") | (refine Wr.keep (by assumption) (by assumption) ?_; walk_at "hp"))
/-! ### promises -/
/-- a box of digits and draws, with at most n draws so far -/
def BoxAt (n : Nat) (H : Hp) (b : Addr) : Prop := ∃ (g : Int) (f : Bool) (s c : Int), H b = some (.lst [.int g, .bl f, .int s, .int c]) ∧ 0 ≤ g ∧ 0 ≤ s ∧ s < 2147483648 ∧ 0 ≤ c ∧ c ≤ n
theorem BoxAt.mono {n m : Nat} {H : Hp} {b : Addr} (h : BoxAt n H b) (e : n ≤ m) : BoxAt m H b := by
  obtain ⟨g, f, s, c, h1, h2, h3, h4, h5, h6⟩ := h
  exact ⟨g, f, s, c, h1, h2, h3, h4, h5, by omega⟩
theorem BoxAt.same {n : Nat} {H H2 : Hp} {b : Addr} (h : BoxAt n H b) (e : Same H H2) : BoxAt n H2 b := by
  obtain ⟨g, f, s, c, h1, h2⟩ := h
  exact ⟨g, f, s, c, e _ _ h1, h2⟩
theorem BoxAt.some {n : Nat} {H : Hp} {b : Addr} (h : BoxAt n H b) : ∃ o, H b = Option.some o := by
  obtain ⟨g, f, s, c, h1, h2⟩ := h
  exact ⟨_, h1⟩
theorem BoxAt.ne {n : Nat} {H : Hp} {b p : Addr} (h : BoxAt n H b) (e : H p = none) : b ≠ p := by
  obtain ⟨o, h⟩ := h.some
  exact ne_of_none h e
theorem BoxAt.wr {n : Nat} {H H2 : Hp} {b l : Addr} {o : HO} (h : BoxAt n H b) (e : b ≠ l) (w : Wr H l o H2) : BoxAt n H2 b := by
  obtain ⟨g, f, s, c, h1, h2⟩ := h
  exact ⟨g, f, s, c, w.keep e h1, h2⟩
theorem BoxAt.but {n : Nat} {H H2 : Hp} {b l : Addr} (h : BoxAt n H b) (e : b ≠ l) (w : But l H H2) : BoxAt n H2 b := by
  obtain ⟨g, f, s, c, h1, h2⟩ := h
  exact ⟨g, f, s, c, w.at e h1, h2⟩
def TX (n : Nat) (l : List Nat) : Prop := Pr l ∧ l.length ≤ n
def sp__law_box (K : PySem.W.Frag) : Sp := sp1 fun great H Q _ => ∃ g, great = .int g ∧ ∀ b H2, H b = none → Same H H2 → BoxAt 0 H2 b → Q (.ref b) H2
def sp__law_cell (K : PySem.W.Frag) : Sp := sp2 fun script k H Q _ => ∃ (a : Addr) (i : Int) (ns : List Int), script = .ref a ∧ k = .int i ∧ 0 ≤ i ∧ i < 1000 ∧ SqL K H a (ns.map V.int) ∧ ns.length ≤ 63 ∧ ∀ z H2, Same H H2 → Q (.int z) H2
def sp__law_take (K : PySem.W.Frag) : Sp := sp2 fun box many H Q _ => ∃ (b : Addr) (m : Int) (n : Nat), box = .ref b ∧ many = .int m ∧ 0 < m ∧ m < 1000000 ∧ BoxAt n H b ∧ n < 1000000 ∧ ∀ r H2, But b H H2 → BoxAt (n + 1) H2 b → 0 ≤ r → r < m → Q (.int r) H2
def sp__law_sign (K : PySem.W.Frag) : Sp := sp2 fun box near H Q _ => ∃ (b : Addr) (k : Bool) (n : Nat), box = .ref b ∧ near = .bl k ∧ BoxAt n H b ∧ n < 900000 ∧ ∀ c H2, But b H H2 → BoxAt (n + 1) H2 b → 32 ≤ c ∧ c ≤ 126 → Q (.str (S [c])) H2
def sp__law_frame (K : PySem.W.Frag) : Sp := sp1 fun row H Q _ => ∃ l, row = .str (S l) ∧ l.length ≤ 80000 ∧ Q (.str (S (frL l))) H
def sp__law_text (K : PySem.W.Frag) : Sp := sp1 fun box H Q _ => ∃ (b : Addr) (n : Nat), box = .ref b ∧ BoxAt n H b ∧ n < 800000 ∧ ∀ l H2, But b H H2 → BoxAt (n + 20) H2 b → TX 101 l → Q (.str (S l)) H2
def sp__law_texts (K : PySem.W.Frag) : Sp := sp1 fun box H Q _ => ∃ (b : Addr) (n : Nat), box = .ref b ∧ BoxAt n H b ∧ n < 700000 ∧
  ∀ p ls H2, H p = none → But b H H2 → BoxAt (n + 200) H2 b → H2 p = some (.lst (strsV ls)) → ls.length ≤ 7 → (∀ l ∈ ls, TX 101 l) → Q (.ref p) H2
def sp_is_signs (K : PySem.W.Frag) : Sp := sp1 fun v H Q _ => ∃ l, v = .str (S l) ∧ Pr l ∧ Q (.bl true) H
def sp_has_frame (K : PySem.W.Frag) : Sp := sp1 fun v H Q _ => ∃ l, v = .str (S l) ∧ Pr l ∧ l.length ≤ 80000 ∧ Q (.bl true) H
def sp_framed (K : PySem.W.Frag) : Sp := sp1 fun v H Q _ => ∃ l, v = .str (S l) ∧ Pr l ∧ l.length ≤ 80000 ∧ Q (.str (S (frL l))) H
def sp_is_list (K : PySem.W.Frag) : Sp := sp1 fun v H Q _ => ∃ a xs, v = .ref a ∧ (SqL K H a xs ∨ SqT K H a xs) ∧ ∀ H2, Same H H2 → Q (.bl true) H2
def sp_check_texts (K : PySem.W.Frag) : Sp := sp1 fun v H Q _ => ∃ a ls, v = .ref a ∧ (SqL K H a (strsV ls) ∨ SqT K H a (strsV ls)) ∧ (∀ l ∈ ls, Pr l ∧ l.length ≤ 80000) ∧ ∀ H2, Same H H2 → Q .non H2
def sp_all_framed (K : PySem.W.Frag) : Sp := sp1 fun v H Q _ => ∃ a ls, v = .ref a ∧ (SqL K H a (strsV ls) ∨ SqT K H a (strsV ls)) ∧ (∀ l ∈ ls, Pr l ∧ l.length ≤ 80000) ∧ (ls.map frL).flatten.length ≤ 1000000 ∧
  ∀ H2, Same H H2 → Q (.str (S (ls.map frL).flatten)) H2
def optV : Option Nat → V
  | none => .non
  | some e => .int (e : Nat)
def sp_frame_end (K : PySem.W.Frag) : Sp := sp2 fun v u H Q _ => ∃ (l : List Nat) (i : Nat), v = .str (S l) ∧ u = .int (i : Nat) ∧ Pr l ∧ i ≤ l.length ∧ l.length ≤ 1000000 ∧ ∀ H2, Same H H2 → Q (optV (fEnd l i)) H2
def sp_frames_in (K : PySem.W.Frag) : Sp := sp1 fun v H Q _ => ∃ l, v = .str (S l) ∧ Pr l ∧ l.length ≤ 1000000 ∧
  ∀ p q H2, Same H H2 → H p = none → H q = none → H2 q = some (.lst (strsV (sc l 0).1)) → H2 p = some (.tup [.ref q, .int ((sc l 0).2 : Nat)]) → Q (.ref p) H2
def sp_is_whole (K : PySem.W.Frag) : Sp := sp1 fun v H Q _ => ∃ l, v = .str (S l) ∧ Pr l ∧ l.length ≤ 1000000 ∧ ∀ H2, Same H H2 → Q (.bl (decide ((sc l 0).2 = l.length))) H2
def sp__law_read (K : PySem.W.Frag) : Sp := sp1 fun v H Q _ => ∃ l, v = .str (S l) ∧ Pr l ∧ l.length ≤ 80000 ∧
  ∀ p q H2, Same H H2 → H p = none → H q = none → H2 q = some (.lst (strsV (sc l 0).1)) → H2 p = some (.tup [.ref q, .int ((sc l 0).2 : Nat)]) → Q (.ref p) H2
def sp__law_reads_right (K : PySem.W.Frag) : Sp := sp1 fun v H Q _ => ∃ l, v = .str (S l) ∧ Pr l ∧ l.length ≤ 80000 ∧ ∀ H2, Same H H2 → Q (.bl true) H2
def sp__law_frames_right (K : PySem.W.Frag) : Sp := sp2 fun v u H Q _ => ∃ a c ls ms, v = .ref a ∧ u = .ref c ∧ H a = some (.lst (strsV ls)) ∧ H c = some (.lst (strsV ms)) ∧ ls.length ≤ 7 ∧ ms.length ≤ 7 ∧ (∀ l ∈ ls, TX 101 l) ∧ (∀ l ∈ ms, TX 101 l) ∧
  ∀ H2, Same H H2 → Q (.bl true) H2
def sp__law_turned (K : PySem.W.Frag) : Sp := sp2 fun box v H Q _ => ∃ (b : Addr) (n : Nat) (m : List Nat), box = .ref b ∧ v = .str (S (frL m)) ∧ TX 101 m ∧ BoxAt n H b ∧ n < 800000 ∧ ∀ l H2, But b H H2 → BoxAt (n + 10) H2 b → TX 120 l → Q (.str (S l)) H2
def sp__law_tail (K : PySem.W.Frag) : Sp := sp1 fun box H Q _ => ∃ (b : Addr) (n : Nat), box = .ref b ∧ BoxAt n H b ∧ n < 700000 ∧ ∀ l H2, But b H H2 → BoxAt (n + 60) H2 b → TX 120 l → Q (.str (S l)) H2
def sp_law (K : PySem.W.Frag) : Sp := sp1 fun v H Q _ => ∃ (a : Addr) (ns : List Int), v = .ref a ∧ SqL K H a (ns.map V.int) ∧ ns.length ≤ 63 ∧ ∀ H2, Q (.bl true) H2
theorem lit_0 : ("0" : Str) = S [48] := by decide +kernel
theorem lit_colon : (":" : Str) = S [58] := by decide +kernel
theorem lit_semi : (";" : Str) = S [59] := by decide +kernel
theorem lit_nil : ("" : Str) = S [] := by decide +kernel
theorem log_small {n : Nat} (h : n < 10000000) : ((n : Nat) : Int).natAbs.log2 < 1920 := by
  rw [Int.natAbs_natCast]
  rcases Nat.eq_zero_or_pos n with e | e
  · subst e; decide
  · have q : 2 ^ n.log2 ≤ n := Nat.log2_self_le (by omega)
    have h2 : n < 2 ^ 24 := by omega
    have : n.log2 < 24 := (Nat.pow_lt_pow_iff_right (by decide : 1 < 2)).mp (Nat.lt_of_le_of_lt q h2)
    omega
theorem joinSz (ls : List (List Nat)) (h : ls.flatten.length ≤ 10000000) : ((ls.map S).map (·.length)).sum + (ls.map S).length * ("" : Str).length ≤ 16777216 := by
  rw [lit_nil, length_S, lens, ← List.length_flatten]
  show _ + _ * 0 ≤ _
  omega
theorem neq_lit {t : Str} {l m : List Nat} (ht : t = S m) (h : ¬ (true ^^ decide (V.str (S l) = V.str t)) = true) : l = m := by
  by_cases e : V.str (S l) = V.str t
  · rw [ht] at e
    exact S_inj (V.str.inj e)
  · rw [decide_eq_false e] at h
    exact absurd rfl h
theorem neq_lit1 {t : Str} {c d : Nat} (ht : t = S [d]) (h : ¬ (true ^^ decide (V.str (S [c]) = V.str t)) = true) : c = d := (List.cons.inj (neq_lit ht h)).1
theorem nself (x : V) : (true ^^ decide (x = x)) = false := by rw [decide_eq_true rfl]; rfl
theorem eself (x : V) : (false ^^ decide (x = x)) = true := by rw [decide_eq_true rfl]; rfl
theorem frs_len {k : Nat} (hk : k ≤ 80000) : ∀ {ls : List (List Nat)}, (∀ l ∈ ls, TX k l) → (ls.map frL).flatten.length ≤ ls.length * (k + 7)
  | [], _ => Nat.zero_le _
  | l :: r, h => by
    have h1 := (h l List.mem_cons_self).2
    have h2 := frs_len hk fun m hm => h m (List.mem_cons_of_mem _ hm)
    rw [List.map_cons, List.flatten_cons, List.length_append, List.length_cons, frL_len (by omega), Nat.succ_mul]
    omega
theorem frs_pr {ls : List (List Nat)} (h : ∀ l ∈ ls, Pr l) : Pr (ls.map frL).flatten := pr_flat fun l hl => by
  obtain ⟨m, hm, rfl⟩ := List.mem_map.mp hl
  exact frL_pr (h m hm)
/-- ''.join([_law_frame(row) for row in xs]): the block over a list of texts -/
theorem frs_lc {K : PySem.W.Frag} {a D : Addr} {ls : List (List Nat)} {H1 : Hp} {σ : L2.St} {i : Nat} {Qd : Hp → Prop} (hls : ls.length ≤ 1000) (hz : ∀ l ∈ ls, l.length ≤ 80000) (hx : SqL K H1 a (strsV ls)) (hD : H1 D = none)
    (hw : ∀ v, wipe ((wipe σ [i]).set i (some v)) [i] = wipe σ [i]) (hi : ∀ v, ((wipe σ [i]).set i (some v))[i]? = some (some v)) (hd : ∀ H, H D = some (.lst (strsV (ls.map frL))) → Same H1 H → Qd H) :
    ∃ W : Nat → Nat → List V → Hp → Prop, (∃ m, ∀ H2, Nw H1 D (.lst []) H2 → W 0 m [] H2) ∧
  ∀ t m acc H, H D = some (.lst acc) → W t m acc H → ((Itl K a).stop t H ∧ Qd H) ∨
    (acc.length < sizeLine ∧ (Itl K a).go t H ∧ ∃ Nx : List V → Hp → Prop, (∀ a' H', Nx a' H' → ∃ m', m' < m ∧ W (t + 1) m' a' H') ∧ ∀ x H', (Itl K a).yld t H x H' → gName i x (wipe σ [i]) H' fun σ2 H2 => wipe σ2 [i] = wipe σ [i] ∧ tYes σ2 H2 fun b H3 =>
      if b = true then tCl (sp__law_frame K) E0 (tCons (tV i) tNil) σ2 H3 fun y H4 => H4 D = some (.lst acc) ∧ ∀ H5, Wr H4 D (.lst (acc ++ [y])) H5 → Nx (acc ++ [y]) H5 else H3 D = some (.lst acc) ∧ Nx acc H3) := by
  refine lc_w (wk_list (strsV ls)) (by rw [strsV_len]; omega) (fun t acc H3 => Same H1 H3 ∧ acc = strsV ((ls.take t).map frL)) (fun H3 n3 => ⟨n3.same, rfl⟩) (fun t acc H3 p => sqL_same p.1 hx)
    (fun t acc H3 p => by rw [p.2, strsV_len, List.length_map, List.length_take]; omega) ?_ ?_
  · rintro t x acc H3 hx' hD3 ⟨s3, rfl⟩
    obtain ⟨l, h1, rfl, hm⟩ := strsV_at hx'
    refine ⟨hw _, ?_⟩
    show tV i ((wipe σ [i]).set i (some (V.str (S l)))) H3 _
    unfold tV
    rw [hi]
    refine ⟨l, rfl, hz l hm, hD3, fun H5 w5 => ⟨s3.wr hD w5, ?_⟩⟩
    rw [List.take_add_one, h1, List.map_append]
    exact (strsV_app _ _).symm
  · rintro acc H4 _ h4 ⟨s4, rfl⟩
    rw [strsV_len, List.take_length] at h4
    exact hd H4 h4 s4
theorem frL_dig {l : List Nat} (h : l.length < 100000) : ∃ d, (frL l)[4]? = some d ∧ 48 ≤ d ∧ d ≤ 57 := by
  obtain ⟨h1, h2⟩ := numL5 h
  have dig : ∀ c ∈ List.replicate (5 - (TL.numL l.length).length) 48 ++ TL.numL l.length, 48 ≤ c ∧ c ≤ 57 := fun c hc => by
    rcases List.mem_append.mp hc with q | q
    · rw [(List.mem_replicate.mp q).2]
      omega
    · exact TL.numL_digits _ c q
  have len : (List.replicate (5 - (TL.numL l.length).length) 48 ++ TL.numL l.length).length = 5 := by
    rw [List.length_append, List.length_replicate]
    omega
  unfold frL
  generalize List.replicate (5 - (TL.numL l.length).length) 48 ++ TL.numL l.length = z at dig len
  refine ⟨z[4], ?_, dig _ (List.getElem_mem _)⟩
  rw [List.append_assoc, List.append_assoc, List.getElem?_append_left (by omega)]
  exact List.getElem?_eq_getElem (by omega)
theorem int_dig {d : Nat} (h : 48 ≤ d ∧ d ≤ 57) : intText? (S [d]) = some ((d - 48 : Nat) : Int) := by
  have q := int_S (a := [d]) (by simp; omega) (by simp) (by show 1 ≤ 4300; decide)
  rw [q]
  simp [PySem.NumText.digitsVal]
theorem menuS (ts : List Str) {n : Nat} (ok : (ts.all fun t => (t.cps.toList.all fun c => decide (32 ≤ c) && decide (c ≤ 126)) && decide (t.cps.toList.length ≤ n)) = true) {r : Int} (h0 : 0 ≤ r) (h : r < (ts.length : Int)) :
    ∃ l, atI (ts.map V.str) r = some (.str (S l)) ∧ TX n l := by
  obtain ⟨v, h1, h2, _⟩ := atI_some (xs := ts.map V.str) h0 (by rw [List.length_map]; exact h)
  obtain ⟨t, ht, rfl⟩ := List.mem_map.mp h2
  have q := (List.all_eq_true.mp ok) t ht
  rw [Bool.and_eq_true] at q
  refine ⟨t.cps.toList, ?_, pr_of q.1, of_decide_eq_true q.2⟩
  rw [S_tl]
  exact h1
theorem cutV_strs (ls : List (List Nat)) (n : Nat) : cutV (strsV ls) none (some (n : Int)) = strsV (ls.take n) := by
  unfold cutV
  rw [sIx_pos (by omega), Int.toNat_natCast, strsV_len]
  show ((strsV ls).drop 0).take (min n ls.length - 0) = _
  rw [List.drop_zero, Nat.sub_zero]
  unfold strsV
  rw [List.map_take, List.map_take]
  rcases Nat.le_total n ls.length with q | q
  · rw [Nat.min_eq_left q]
  · rw [Nat.min_eq_right q, List.take_of_length_le (by simp), List.take_of_length_le (by simpa using q)]
/-- the signs of the alphabets -/
theorem near_item {t : Str} (h : (t.cps.toList.all fun c => decide (32 ≤ c) && decide (c ≤ 126)) = true) {r : Int} (h0 : 0 ≤ r) (h1 : r < (t.length : Int)) : ∃ c : Nat, atI t.cps.toList r = some c ∧ 32 ≤ c ∧ c ≤ 126 := by
  obtain ⟨c, e1, e2, _⟩ := atI_some (xs := t.cps.toList) h0 (by simpa [Str.length] using h1)
  have := (List.all_eq_true.mp h) c e2
  exact ⟨c, e1, by simpa using this⟩
section
variable {P : Program} {w : World} {K : PySem.W.Frag} {mg : Str → Option Value} {base : Heap}
/-! ### _law_box(_law_great), level 1 -/
abbrev s__law_box : Stmt := top 18
abbrev N__law_box : List Str := ["_law_great"]
theorem sc__law_box : FnScope N__law_box ["_law_great"] (defScope s__law_box) := ⟨rfl, rfl, rfl, by decide +kernel, rfl, by decide +kernel, by decide +kernel⟩
theorem ok__law_box (T : Txt K mg) (D : Df K mg "_law_box" s__law_box ["_law_great"]) : Ct P w K mg base CX0 1 "_law_box" ["_law_great"] (sp__law_box K) := by
  refine ct1 D sc__law_box fun f cdv A outer s H a_great Q E hr h => ⟨_, (pss_one (ps_ret (pe_lz (pa_cons (pe_callB c_abs (by rfl) T.n_abs bt_abs (pa_cons (pz 0) pa_nil)) (pa_cons (pe_cmpR o_ge (pe_callB c_abs (by rfl) T.n_abs bt_abs (pa_cons (pz 0) pa_nil)) (pe_op o_pow pe_int pe_int) (nomark _)) (pa_cons (pe_op o_mod (pe_callTy c_int (by rfl) T.n_int bt_int (pa_cons (pe_callB c_abs (by rfl) T.n_abs bt_abs (pa_cons (pz 0) pa_nil)) pa_nil)) pe_int) (pa_cons pe_int pa_nil))))))), ?_⟩
  obtain ⟨g, rfl, k⟩ := h
  refine ⟨⟨by decide, by decide, by decide⟩, by show (0 : Int) < _; decide, by show 4 ≤ sizeLine; decide, fun b H2 n => ?_⟩
  refine k b H2 n.fresh n.same ⟨_, _, _, _, n.here, ?_, ?_, ?_, by decide, by decide⟩
  · split <;> omega
  · exact Int.emod_nonneg _ (by decide)
  · have := Int.emod_lt_of_pos (if g < 0 then -g else g) (show (0 : Int) < 2147483629 by decide)
    omega

/-! ### _law_cell(_law_script, _law_k), level 1 -/
abbrev s__law_cell : Stmt := top 17
abbrev N__law_cell : List Str := ["_law_script", "_law_k"]
theorem sc__law_cell : FnScope N__law_cell ["_law_script", "_law_k"] (defScope s__law_cell) := ⟨rfl, rfl, rfl, by decide +kernel, rfl, by decide +kernel, by decide +kernel⟩
theorem ok__law_cell (T : Txt K mg) (D : Df K mg "_law_cell" s__law_cell ["_law_script", "_law_k"]) : Ct P w K mg base CX0 1 "_law_cell" ["_law_script", "_law_k"] (sp__law_cell K) := by
  refine ct2 D sc__law_cell fun f cdv A outer s H a_script a_k Q E hr h => ⟨_, (pss_one (ps_ret (pe_ifExp (pt_cmpZ o_ltS (pz 1) (pe_callB (k_len K) (by rfl) T.n_len bt_len (pa_cons (pz 0) pa_nil)) (nomark _)) (pe_ix (k_ix K) (pz 0) (pz 1) (fun _ _ => rfl)) (pe_op (k_add K) (pe_op o_mul pe_int (pz 1)) (pe_op o_mod (pe_callB (k_sum K rfl) (by rfl) T.n_sum bt_sum (pa_cons (pe_slice (k_sl K) (pz 0) po_none (po_z pe_int)) pa_nil)) pe_int))))), ?_⟩
  obtain ⟨a, i, ns, rfl, rfl, h0, h1, hS, hl, k⟩ := h
  refine .inl ⟨_, .inl hS, ?_⟩
  refine ite2 (fun hc => ?_) (fun hc => ?_)
  · have hi : i < (ns.map V.int).length := by simpa using hc
    rw [List.length_map] at hi
    refine ⟨_, V.int (ns.getD i.toNat 0), .inl hS, ?_, k _ _ (Same.refl _)⟩
    have e : i = ((i.toNat : Nat) : Int) := by omega
    rw [e]
    refine atI_nat ?_
    rw [Int.toNat_natCast, List.getElem?_map, List.getElem?_eq_getElem (by omega)]
    simp [List.getD, List.getElem?_eq_getElem (show i.toNat < ns.length by omega)]
  · refine ⟨.inr ⟨by omega, by omega⟩, .inl ⟨_, hS, fun p H2 n => ?_⟩⟩
    have e : cutV (ns.map V.int) none (some 1) = (ns.take 1).map V.int := by
      cases ns with
      | nil => rfl
      | cons x r => simp [cutV, HT.sIx]
    rw [e] at n
    exact ⟨_, SqL.of n.here, by show (0 : Int) < _; decide, k _ _ n.same⟩

/-! ### _law_take(_law_box_here, _law_many), level 1 -/
abbrev s__law_take : Stmt := top 19
abbrev N__law_take : List Str := ["_law_box_here", "_law_many", "_law_digit", "_law_mixed"]
theorem sc__law_take : FnScope N__law_take ["_law_box_here", "_law_many"] (defScope s__law_take) := ⟨rfl, rfl, rfl, by decide +kernel, rfl, by decide +kernel, by decide +kernel⟩
theorem ok__law_take (T : Txt K mg) (D : Df K mg "_law_take" s__law_take ["_law_box_here", "_law_many"]) : Ct P w K mg base CX0 1 "_law_take" ["_law_box_here", "_law_many"] (sp__law_take K) := by
  refine ct2 D sc__law_take fun f cdv A outer s H a_box_here a_many Q E hr h => ⟨_, (pss_cons (ps_if (PW.pt (pw_and (pt_trK K (pe_ix (k_ix K) (pz 0) pe_int (fun _ _ => rfl))) (pw_and1 (pt_cmpZ o_gtS (pe_ix (k_ix K) (pz 0) pe_int (fun _ _ => rfl)) pe_int (nomark _))))) 
      (pss_cons (ps_set (i := 2) sc__law_take.nd rfl (Or.inl rfl) (pe_op o_mod (pe_callTy c_int (by rfl) T.n_int bt_int (pa_cons (pe_ix (k_ix K) (pz 0) pe_int (fun _ _ => rfl)) pa_nil)) (pz 1)))
      (pss_cons (ps_asg (pe_op o_fdiv (pe_ix (k_ix K) (pz 0) pe_int (fun _ _ => rfl)) (pz 1)) (pg_sub (pz 0) pe_int s_list))
      (pss_one (ps_ret (pz 2))))) pss_nil)
    (pss_cons (ps_asg (pe_op (k_add K) (pe_ix (k_ix K) (pz 0) pe_int (fun _ _ => rfl)) pe_int) (pg_sub (pz 0) pe_int s_list))
    (pss_cons (ps_set (i := 3) sc__law_take.nd rfl (Or.inl rfl) (pe_op o_mod (pe_callTy c_int (by rfl) T.n_int bt_int (pa_cons (pe_op o_pow (pe_op (k_add K) (pe_op (k_add K) (pe_ix (k_ix K) (pz 0) pe_int (fun _ _ => rfl)) (pe_op o_mul pe_int (pe_ix (k_ix K) (pz 0) pe_int (fun _ _ => rfl)))) pe_int) pe_int) pa_nil)) pe_int))
    (pss_one (ps_ret (pe_op o_mod (pe_op o_fdiv (pe_op o_mod (pe_callTy c_int (by rfl) T.n_int bt_int (pa_cons (pe_op o_pow (pe_op (k_add K) (pe_op o_mul (pz 3) pe_int) (pe_op o_mul pe_int (pe_ix (k_ix K) (pz 0) pe_int (fun _ _ => rfl)))) pe_int) pa_nil)) pe_int) pe_int) (pz 1))))))), ?_⟩
  obtain ⟨b, m, n, rfl, rfl, hm, hm2, hB, hn, k⟩ := h
  obtain ⟨g, f1, s1, c, hb, g0, s0, s2, c0, c1⟩ := id hB
  have two : (2 : Int) ^ 64 = 18446744073709551616 := by decide
  refine ⟨_, _, .inl (SqL.of hb), rfl, ?_⟩
  refine ite2 (fun h1 => ?_) (fun h1 => ?_)
  · refine ⟨_, _, .inl (SqL.of hb), rfl, ?_⟩
    refine ite2 (fun h2 => ?_) (fun h2 => ?_)
    · refine ⟨_, _, .inl (SqL.of hb), rfl, hm, ?_⟩
      refine ⟨_, _, .inl (SqL.of hb), rfl, ⟨hm, by omega⟩, ?_⟩
      refine ⟨_, 0, hb, rfl, fun H2 w => ?_⟩
      have hg : 0 < g := by simpa using h2
      exact k _ H2 w.but ⟨_, _, _, _, w.here, Int.ediv_nonneg g0 (by omega), s0, s2, c0, by omega⟩ (Int.emod_nonneg _ (by omega)) (Int.emod_lt_of_pos _ hm)
    · refine ⟨_, _, .inl (SqL.of hb), rfl, ?_⟩
      refine ⟨_, 3, hb, rfl, fun H2 w => ?_⟩
      refine ⟨_, _, .inl (SqL.of w.here), rfl, ?_⟩
      refine ⟨_, _, .inl (SqL.of w.here), rfl, .inl ⟨by omega, by omega⟩, ?_⟩
      refine ⟨⟨by decide, by decide, by omega⟩, by show (0 : Int) < _; decide, ?_⟩
      have q1 := Int.emod_nonneg ((s1 + 15485863 * (c + 1) + 179424697) ^ (5 : Int).toNat) (show (2147483647 : Int) ≠ 0 by decide)
      have q2 := Int.emod_lt_of_pos ((s1 + 15485863 * (c + 1) + 179424697) ^ (5 : Int).toNat) (show (0 : Int) < 2147483647 by decide)
      refine ⟨.inr ⟨by omega, by omega⟩, ?_⟩
      refine ⟨_, _, .inl (SqL.of w.here), rfl, .inl ⟨by omega, by omega⟩, ?_⟩
      generalize (s1 + 15485863 * (c + 1) + 179424697) ^ (5 : Int).toNat % 2147483647 = z at q1 q2 ⊢
      refine ⟨⟨by decide, by decide, by omega⟩, by show (0 : Int) < _; decide, ⟨by show (0 : Int) < _; decide, by show _ < (1073741824 : Int); decide⟩, hm, ?_⟩
      exact k _ H2 w.but ⟨_, _, _, _, w.here, g0, s0, s2, by omega, by omega⟩ (Int.emod_nonneg _ (by omega)) (Int.emod_lt_of_pos _ hm)
  · refine iteF ?_
    refine ⟨_, _, .inl (SqL.of hb), rfl, ?_⟩
    refine ⟨_, 3, hb, rfl, fun H2 w => ?_⟩
    refine ⟨_, _, .inl (SqL.of w.here), rfl, ?_⟩
    refine ⟨_, _, .inl (SqL.of w.here), rfl, .inl ⟨by omega, by omega⟩, ?_⟩
    refine ⟨⟨by decide, by decide, by omega⟩, by show (0 : Int) < _; decide, ?_⟩
    have q1 := Int.emod_nonneg ((s1 + 15485863 * (c + 1) + 179424697) ^ (5 : Int).toNat) (show (2147483647 : Int) ≠ 0 by decide)
    have q2 := Int.emod_lt_of_pos ((s1 + 15485863 * (c + 1) + 179424697) ^ (5 : Int).toNat) (show (0 : Int) < 2147483647 by decide)
    refine ⟨.inr ⟨by omega, by omega⟩, ?_⟩
    refine ⟨_, _, .inl (SqL.of w.here), rfl, .inl ⟨by omega, by omega⟩, ?_⟩
    generalize (s1 + 15485863 * (c + 1) + 179424697) ^ (5 : Int).toNat % 2147483647 = z at q1 q2 ⊢
    refine ⟨⟨by decide, by decide, by omega⟩, by show (0 : Int) < _; decide, ⟨by show (0 : Int) < _; decide, by show _ < (1073741824 : Int); decide⟩, hm, ?_⟩
    exact k _ H2 w.but ⟨_, _, _, _, w.here, g0, s0, s2, by omega, by omega⟩ (Int.emod_nonneg _ (by omega)) (Int.emod_lt_of_pos _ hm)

/-! ### _law_sign(_law_box_here, _law_near), level 2 -/
abbrev s__law_sign : Stmt := top 20
abbrev N__law_sign : List Str := ["_law_box_here", "_law_near", "_law_signs"]
theorem sc__law_sign : FnScope N__law_sign ["_law_box_here", "_law_near"] (defScope s__law_sign) := ⟨rfl, rfl, rfl, by decide +kernel, rfl, by decide +kernel, by decide +kernel⟩
theorem ok__law_sign (T : Txt K mg) (C__law_take : Ct P w K mg base CX0 1 "_law_take" ["_law_box_here", "_law_many"] (sp__law_take K)) (D : Df K mg "_law_sign" s__law_sign ["_law_box_here", "_law_near"]) : Ct P w K mg base CX0 2 "_law_sign" ["_law_box_here", "_law_near"] (sp__law_sign K) := by
  refine ct2 D sc__law_sign fun f cdv A outer s H a_box_here a_near Q E hr h => ⟨_, (pss_cons (ps_set (i := 2) sc__law_sign.nd rfl (Or.inl rfl) pe_str)
    (pss_cons (ps_set (i := 2) sc__law_sign.nd rfl (Or.inl rfl) (pe_ifExp (pt_trK K (pz 1)) pe_str (pz 2)))
    (pss_one (ps_ret (pe_ix (k_ix K) (pz 2) (pe_cl C__law_take (hr.mono (by decide)) pass0 (pa_cons (pz 0) (pa_cons (pe_callB (k_len K) (by rfl) T.n_len bt_len (pa_cons (pz 2) pa_nil)) pa_nil))) (fun _ _ => rfl)))))), ?_⟩
  obtain ⟨b, k, n, rfl, rfl, hB, hn, q⟩ := h
  refine ite2 (fun h1 => ?_) (fun h1 => ?_)
  · refine ⟨by decide, b, _, n, rfl, rfl, by decide, by decide, hB, by omega, fun r H2 bt hB2 r0 r1 => ?_⟩
    obtain ⟨c, e, hc⟩ := near_item (t := "0123456789:;") (by decide) r0 r1
    exact ⟨c, by decide, e, q c H2 bt hB2 hc⟩
  · refine ⟨by decide, b, _, n, rfl, rfl, by decide, by decide, hB, by omega, fun r H2 bt hB2 r0 r1 => ?_⟩
    obtain ⟨c, e, hc⟩ := near_item (t := " !\"#$&'()*+,-./0123456789:;<=>?@ABCDEFGHIJKLMNOPQRSTUVWXYZ[\\]^_`abcdefghijklmnopqrstuvwxyz{|}~") (by decide) r0 r1
    exact ⟨c, by decide, e, q c H2 bt hB2 hc⟩

/-! ### _law_frame(_law_row), level 1 -/
abbrev s__law_frame : Stmt := top 21
abbrev N__law_frame : List Str := ["_law_row", "_law_count"]
theorem sc__law_frame : FnScope N__law_frame ["_law_row"] (defScope s__law_frame) := ⟨rfl, rfl, rfl, by decide +kernel, rfl, by decide +kernel, by decide +kernel⟩
theorem ok__law_frame (T : Txt K mg) (D : Df K mg "_law_frame" s__law_frame ["_law_row"]) : Ct P w K mg base CX0 1 "_law_frame" ["_law_row"] (sp__law_frame K) := by
  refine ct1 D sc__law_frame fun f cdv A outer s H a_row Q E hr h => ⟨_, (pss_cons (ps_set (i := 1) sc__law_frame.nd rfl (Or.inl rfl) (pe_callTy c_str (by rfl) T.n_str bt_str (pa_cons (pe_callB (k_len K) (by rfl) T.n_len bt_len (pa_cons (pz 0) pa_nil)) pa_nil)))
    (pss_one (ps_ret (pe_op (k_add K) (pe_op (k_add K) (pe_op (k_add K) (pe_op (k_add K) (pe_op o_mul pe_str (pe_op o_sub pe_int (pe_callB (k_len K) (by rfl) T.n_len bt_len (pa_cons (pz 1) pa_nil)))) (pz 1)) pe_str) (pz 0)) pe_str)))), ?_⟩
  obtain ⟨l, rfl, hl, q⟩ := h
  obtain ⟨n1, n2⟩ := numL5 (n := l.length) (by omega)
  refine ⟨sz (by rw [length_S]; omega), ?_⟩
  rw [length_S]
  refine ⟨log_small (by omega), ?_⟩
  rw [num_S]
  refine ⟨sz (by rw [length_S]; omega), ?_⟩
  rw [length_S]
  refine ⟨by omega, by omega, by show 1 * _ ≤ 1000000; omega, ?_⟩
  rw [lit_0, rep_S, show (5 - ((TL.numL l.length).length : Int)).toNat = 5 - (TL.numL l.length).length by omega, rep_one]
  refine ⟨sz (by rw [length_S, length_S, List.length_replicate]; omega), ?_⟩
  rw [S_cat]
  refine ⟨sz (by rw [length_S, List.length_append, List.length_replicate]; show _ + 1 ≤ 16000000; omega), ?_⟩
  rw [lit_colon, S_cat]
  refine ⟨sz (by simp only [length_S, List.length_append, List.length_replicate, List.length_singleton]; omega), ?_⟩
  rw [S_cat]
  refine ⟨sz (by simp only [length_S, List.length_append, List.length_replicate, List.length_singleton]; show _ + 1 ≤ 16000000; omega), ?_⟩
  rw [lit_semi, S_cat]
  exact q

/-! ### _law_text(_law_box_here), level 3 -/
abbrev s__law_text : Stmt := top 22
abbrev N__law_text : List Str := ["_law_box_here", "_law_way", "_law_near", "_law_row", "_law_turn"]
theorem sc__law_text : FnScope N__law_text ["_law_box_here"] (defScope s__law_text) := ⟨rfl, rfl, rfl, by decide +kernel, rfl, by decide +kernel, by decide +kernel⟩
theorem ok__law_text (T : Txt K mg) (C__law_take : Ct P w K mg base CX0 1 "_law_take" ["_law_box_here", "_law_many"] (sp__law_take K)) (C__law_sign : Ct P w K mg base CX0 2 "_law_sign" ["_law_box_here", "_law_near"] (sp__law_sign K)) (C__law_frame : Ct P w K mg base CX0 1 "_law_frame" ["_law_row"] (sp__law_frame K)) (D : Df K mg "_law_text" s__law_text ["_law_box_here"]) : Ct P w K mg base CX0 3 "_law_text" ["_law_box_here"] (sp__law_text K) := by
  refine ct1 D sc__law_text fun f cdv A outer s H a_box_here Q E hr h => ⟨_, (pss_cons (ps_set (i := 1) sc__law_text.nd rfl (Or.inl rfl) (pe_cl C__law_take (hr.mono (by decide)) pass0 (pa_cons (pz 0) (pa_cons pe_int pa_nil))))
    (pss_cons (ps_if (pt_cmpZ (k_eq K hr.units) (pz 1) pe_int (nomark _)) 
      (pss_one (ps_ret (pe_op (k_add K) (pe_cl C__law_sign (hr.mono (by decide)) pass0 (pa_cons (pz 0) (pa_cons pe_bl pa_nil))) (pe_op o_mul (pe_cl C__law_sign (hr.mono (by decide)) pass0 (pa_cons (pz 0) (pa_cons pe_bl pa_nil))) (pe_ix (k_ix K) (pe_lz (pa_cons pe_int (pa_cons pe_int (pa_cons pe_int (pa_cons pe_int (pa_cons pe_int pa_nil)))))) (pe_cl C__law_take (hr.mono (by decide)) pass0 (pa_cons (pz 0) (pa_cons pe_int pa_nil))) (fun _ _ => rfl)))))) pss_nil)
    (pss_cons (ps_set (i := 2) sc__law_text.nd rfl (Or.inr rfl) (pe_cmpR o_ltS (pz 1) pe_int (nomark _)))
    (pss_cons (ps_set (i := 3) sc__law_text.nd rfl (Or.inl rfl) (pe_ms PySem.F.slot_str_join PySem.F.type_str_join (mk_join K) pe_str (pa_cons (pe_lcz (own := [("_law_turn", 4)]) (by rfl) sc__law_text.nd (pi_rngZ (by rfl) T.n_range (pa_cons (pe_ix (k_ix K) (pe_lz (pa_cons pe_int (pa_cons pe_int (pa_cons pe_int (pa_cons pe_int (pa_cons pe_int (pa_cons pe_int (pa_cons pe_int (pa_cons pe_int pa_nil))))))))) (pe_cl C__law_take (hr.mono (by decide)) pass0 (pa_cons (pz 0) (pa_cons pe_int pa_nil))) (fun _ _ => rfl)) pa_nil)) (blkOk_by (own := [("_law_turn", 4)]) (N := N__law_text) (sc := defScope s__law_text) (by decide +kernel)) (fun _ _ _ _ _ => (pg_name (i := 4) sc__law_text.nd rfl (Or.inl rfl))) (fun _ _ _ _ _ => pts_nil) (fun _ _ _ _ _ => (pe_cl C__law_sign (hr.mono (by decide)) pass0 (pa_cons (pz 0) (pa_cons (pz 2) pa_nil))))) pa_nil)))
    (pss_cons (ps_if (pt_cmpZ (k_eq K hr.units) (pz 1) pe_int (nomark _)) 
      (pss_one (ps_ret (pe_cl C__law_frame (hr.mono (by decide)) pass0 (pa_cons (pz 3) pa_nil)))) pss_nil)
    (pss_cons (ps_if (pt_cmpZ (k_eq K hr.units) (pz 1) pe_int (nomark _)) 
      (pss_one (ps_ret (pe_slice (k_sl K) (pe_cl C__law_frame (hr.mono (by decide)) pass0 (pa_cons (pz 3) pa_nil)) po_none (po_z (pe_cl C__law_take (hr.mono (by decide)) pass0 (pa_cons (pz 0) (pa_cons pe_int pa_nil))))))) pss_nil)
    (pss_one (ps_ret (pz 3))))))))), ?_⟩
  obtain ⟨b, n, rfl, hB, hn, q⟩ := h
  refine ⟨b, 7, n, rfl, rfl, by decide, by decide, hB, by omega, fun way H1 t1 B1 w0 w1 => ?_⟩
  refine ite2 (fun hw => ?_) (fun hw => ?_)
  · refine ⟨b, true, n + 1, rfl, rfl, B1, by omega, fun c H2 t2 B2 hc => ?_⟩
    refine ⟨b, false, n + 2, rfl, rfl, B2, by omega, fun d H3 t3 B3 hd => ?_⟩
    refine ⟨by show 5 ≤ sizeLine; decide, fun p H4 n4 => ?_⟩
    have nb : p ≠ b := (B3.ne n4.fresh).symm
    refine ⟨b, 5, n + 3, rfl, rfl, by decide, by decide, B3.same n4.same, by omega, fun r H5 t5 B5 r0 r1 => ?_⟩
    obtain ⟨m, hm, hmem⟩ := menuI [98, 99, 100, 8, 9] r0 r1
    have hm' : 0 ≤ m ∧ m ≤ 100 := by
      simp only [List.mem_cons, List.not_mem_nil, or_false] at hmem
      omega
    refine ⟨_, .int m, .inl (SqL.of (t5.at nb n4.here)), hm, ?_⟩
    refine ⟨by omega, by omega, by rw [length_S]; show 1 * _ ≤ _; omega, ?_⟩
    rw [rep_S, rep_one]
    refine ⟨sz (by rw [length_S, length_S, List.length_replicate]; show 1 + _ ≤ _; omega), ?_⟩
    rw [S_cat]
    refine q _ H5 (((t1.trans t2).trans (t3.nw n4)).trans t5) (B5.mono (by omega)) ⟨pr_app (pr_cons hc pr_nil) (fun x hx => ?_), ?_⟩
    · rw [(List.mem_replicate.mp hx).2]
      exact hd
    · rw [List.length_append, List.length_replicate]
      show 1 + _ ≤ _
      omega
  · refine ⟨by show 8 ≤ sizeLine; decide, fun p H2 n2 => ?_⟩
    have nb : p ≠ b := (B1.ne n2.fresh).symm
    refine ⟨b, 8, n + 1, rfl, rfl, by decide, by decide, B1.same n2.same, by omega, fun r H3 t3 B3 r0 r1 => ?_⟩
    obtain ⟨m, hm, hmem⟩ := menuI [0, 1, 2, 3, 5, 9, 10, 12] r0 r1
    have hm' : 0 ≤ m ∧ m ≤ 12 := by
      simp only [List.mem_cons, List.not_mem_nil, or_false] at hmem
      omega
    refine ⟨_, .int m, .inl (SqL.of (t3.at nb n2.here)), hm, ?_⟩
    have t13 : But b H H3 := (t1.nw n2).trans t3
    refine ⟨by omega, by omega, fun D hD => lc_w (wk_rng 0 m.toNat) (by rw [rngV_len]; omega)
      (fun i acc H' => ∃ ls : List (List Nat), acc = strsV ls ∧ ls.length = i ∧ (∀ l ∈ ls, TX 1 l) ∧ But b H3 H' ∧ BoxAt (n + 2 + i) H' b)
      (fun H4 n4 => ⟨[], rfl, rfl, (fun _ h => by cases h), n4.but, (B3.same n4.same)⟩) (fun _ _ _ _ => trivial) (fun i acc H' ⟨ls, e, l, _⟩ => by rw [e, strsV_len]; omega) ?_ ?_⟩
    · rintro i x acc H4 hx hD4 ⟨ls, rfl, hl, ht, t4, B4⟩
      obtain ⟨hi, rfl⟩ := rngV_at hx
      have nD : D ≠ b := fun e => by
        obtain ⟨o, ho⟩ := B3.some
        rw [← e, hD] at ho
        cases ho
      refine ⟨rfl, ?_⟩
      refine ⟨b, _, n + 2 + i, rfl, rfl, B4, by omega, fun c H5 t5 B5 hc => ⟨t5.at nD hD4, fun H6 w6 => ?_⟩⟩
      refine ⟨ls ++ [[c]], strsV_app ls [c] ▸ rfl, by rw [List.length_append, hl]; rfl, fun l hl => ?_, (t4.trans t5).wr hD w6, (B5.wr nD.symm w6)⟩
      rcases List.mem_append.mp hl with hl | hl
      · exact ht l hl
      · rw [List.mem_singleton.mp hl]
        exact ⟨pr_cons hc pr_nil, Nat.le_refl 1⟩
    · rintro acc H4 _ hD4 ⟨ls, rfl, hl, ht, t4, B4⟩
      rw [rngV_len] at hl
      rw [rngV_len] at B4
      have lenF : ls.flatten.length ≤ ls.length := by
        have gen : ∀ ls : List (List Nat), (∀ l ∈ ls, TX 1 l) → ls.flatten.length ≤ ls.length := by
          intro ls
          induction ls with
          | nil => intro _; exact Nat.le_refl 0
          | cons a r ih =>
            intro h
            have h1 := (h a List.mem_cons_self).2
            have h2 := ih fun l hl => h l (List.mem_cons_of_mem _ hl)
            rw [List.flatten_cons, List.length_append, List.length_cons]
            omega
        exact gen ls ht
      have prF : Pr ls.flatten := pr_flat fun l hl => (ht l hl).1
      have t14 : But b H H4 := t13.trans t4
      refine ⟨ls.map S, .inl (SqL.of hD4), ?_, ?_⟩
      · exact joinSz _ (by omega)
      rw [join_flat lit_nil]
      refine ite2 (fun h3 => ?_) (fun h3 => ?_)
      · refine ⟨_, rfl, by omega, ?_⟩
        exact q _ H4 t14 (B4.mono (by omega)) ⟨frL_pr prF, by rw [frL_len (by omega)]; omega⟩
      · refine ite2 (fun h4 => ?_) (fun h4 => ?_)
        · refine ⟨_, rfl, by omega, ?_⟩
          refine ⟨b, 8, _, rfl, rfl, by decide, by decide, B4, by omega, fun r2 H5 t5 B5 r20 r21 => ?_⟩
          refine ⟨sz (by rw [length_S, frL_len (by omega)]; omega), ?_⟩
          have e : r2 = ((r2.toNat : Nat) : Int) := by omega
          rw [e, cut_n]
          exact q _ H5 (t14.trans t5) (B5.mono (by omega)) ⟨pr_take _ (frL_pr prF), by rw [List.length_take]; omega⟩
        · exact q _ H4 t14 (B4.mono (by omega)) ⟨prF, by omega⟩

/-! ### _law_texts(_law_box_here), level 4 -/
abbrev s__law_texts : Stmt := top 23
abbrev N__law_texts : List Str := ["_law_box_here", "_law_turn"]
theorem sc__law_texts : FnScope N__law_texts ["_law_box_here"] (defScope s__law_texts) := ⟨rfl, rfl, rfl, by decide +kernel, rfl, by decide +kernel, by decide +kernel⟩
theorem ok__law_texts (T : Txt K mg) (C__law_take : Ct P w K mg base CX0 1 "_law_take" ["_law_box_here", "_law_many"] (sp__law_take K)) (C__law_text : Ct P w K mg base CX0 3 "_law_text" ["_law_box_here"] (sp__law_text K)) (D : Df K mg "_law_texts" s__law_texts ["_law_box_here"]) : Ct P w K mg base CX0 4 "_law_texts" ["_law_box_here"] (sp__law_texts K) := by
  refine ct1 D sc__law_texts fun f cdv A outer s H a_box_here Q E hr h => ⟨_, (pss_one (ps_ret (pe_lcz (own := [("_law_turn", 1)]) (by rfl) sc__law_texts.nd (pi_rngZ (by rfl) T.n_range (pa_cons (pe_ix (k_ix K) (pe_lz (pa_cons pe_int (pa_cons pe_int (pa_cons pe_int (pa_cons pe_int (pa_cons pe_int (pa_cons pe_int pa_nil))))))) (pe_cl C__law_take (hr.mono (by decide)) pass0 (pa_cons (pz 0) (pa_cons pe_int pa_nil))) (fun _ _ => rfl)) pa_nil)) (blkOk_by (own := [("_law_turn", 1)]) (N := N__law_texts) (sc := defScope s__law_texts) (by decide +kernel)) (fun _ _ _ _ _ => (pg_name (i := 1) sc__law_texts.nd rfl (Or.inl rfl))) (fun _ _ _ _ _ => pts_nil) (fun _ _ _ _ _ => (pe_cl C__law_text (hr.mono (by decide)) pass0 (pa_cons (pz 0) pa_nil)))))), ?_⟩
  obtain ⟨b, n, rfl, hB, hn, q⟩ := h
  refine ⟨by show 6 ≤ sizeLine; decide, fun p H2 n2 => ?_⟩
  have nb : p ≠ b := (hB.ne n2.fresh).symm
  refine ⟨b, 6, n, rfl, rfl, by decide, by decide, hB.same n2.same, by omega, fun r H3 t3 B3 r0 r1 => ?_⟩
  obtain ⟨m, hm, hmem⟩ := menuI [2, 1, 3, 0, 4, 7] r0 r1
  have hm' : 0 ≤ m ∧ m ≤ 7 := by
    simp only [List.mem_cons, List.not_mem_nil, or_false] at hmem
    omega
  refine ⟨_, .int m, .inl (SqL.of (t3.at nb n2.here)), hm, ?_⟩
  have t13 : But b H H3 := n2.but.trans t3
  refine ⟨by omega, by omega, fun D hD => lc_w (wk_rng 0 m.toNat) (by rw [rngV_len]; omega)
    (fun i acc H' => ∃ ls : List (List Nat), acc = strsV ls ∧ ls.length = i ∧ (∀ l ∈ ls, TX 101 l) ∧ But b H3 H' ∧ BoxAt (n + 1 + 20 * i) H' b)
    (fun H4 n4 => ⟨[], rfl, rfl, (fun _ h => by cases h), n4.but, (B3.same n4.same)⟩) (fun _ _ _ _ => trivial) (fun i acc H' ⟨ls, e, l, _⟩ => by rw [e, strsV_len]; omega) ?_ ?_⟩
  · rintro i x acc H4 hx hD4 ⟨ls, rfl, hl, ht, t4, B4⟩
    obtain ⟨hi, rfl⟩ := rngV_at hx
    have nD : D ≠ b := (B3.ne hD).symm
    refine ⟨rfl, ?_⟩
    refine ⟨b, n + 1 + 20 * i, rfl, B4, by omega, fun l H5 t5 B5 hc => ⟨t5.at nD hD4, fun H6 w6 => ?_⟩⟩
    refine ⟨ls ++ [l], (strsV_app ls l).symm, by rw [List.length_append, hl]; rfl, fun l' hl' => ?_, (t4.trans t5).wr hD w6, (B5.wr nD.symm w6).mono (by omega)⟩
    rcases List.mem_append.mp hl' with hl' | hl'
    · exact ht l' hl'
    · rw [List.mem_singleton.mp hl']
      exact hc
  · rintro acc H4 _ hD4 ⟨ls, rfl, hl, ht, t4, B4⟩
    rw [rngV_len] at hl B4
    exact q D ls H4 (t13.free (B3.ne hD).symm hD) (t13.trans t4) (B4.mono (by omega)) hD4 (by omega) ht

/-! ### is_signs(value), level 1 -/
abbrev s_is_signs : Stmt := top 5
abbrev N_is_signs : List Str := ["value"]
theorem sc_is_signs : FnScope N_is_signs ["value"] (defScope s_is_signs) := ⟨rfl, rfl, rfl, by decide +kernel, rfl, by decide +kernel, by decide +kernel⟩
theorem ok_is_signs (T : Txt K mg) (D : Df K mg "is_signs" s_is_signs ["value"]) : Ct P w K mg base CX0 1 "is_signs" ["value"] (sp_is_signs K) := by
  refine ct1 D sc_is_signs fun f cdv A outer s H a_value Q E hr h => ⟨_, (pss_one (ps_ret (pe_andZ (pe_callB (k_isi K) (by rfl) T.n_isinstance bt_isinstance (pa_cons (pz 0) (pa_cons (pe_bltn (v := .ty "str") (by rfl) T.n_str bt_str rfl) pa_nil))) (pe_andZ (pe_ms0 PySem.F.slot_str_isascii PySem.F.type_str_isascii m_isascii (pz 0)) (pe_one (pe_ms0 PySem.F.slot_str_isprintable PySem.F.type_str_isprintable m_isprintable (pz 0))))))), ?_⟩
  obtain ⟨l, rfl, hp, q⟩ := h
  refine ⟨by decide, "str", rfl, ?_⟩
  refine iteY (isascii_S hp) ?_
  show Q (.bl (Txt.isprintable (S l))) H
  rw [isprintable_S hp]
  exact q

/-! ### has_frame(value), level 2 -/
abbrev s_has_frame : Stmt := top 9
abbrev N_has_frame : List Str := ["value"]
theorem sc_has_frame : FnScope N_has_frame ["value"] (defScope s_has_frame) := ⟨rfl, rfl, rfl, by decide +kernel, rfl, by decide +kernel, by decide +kernel⟩
theorem ok_has_frame (T : Txt K mg) (C_is_signs : Ct P w K mg base CX0 1 "is_signs" ["value"] (sp_is_signs K)) (D : Df K mg "has_frame" s_has_frame ["value"]) : Ct P w K mg base CX0 2 "has_frame" ["value"] (sp_has_frame K) := by
  refine ct1 D sc_has_frame fun f cdv A outer s H a_value Q E hr h => ⟨_, (pss_one (ps_ret (pe_andZ (pe_cl C_is_signs (hr.mono (by decide)) pass0 (pa_cons (pz 0) pa_nil)) (pe_one (pe_cmpR o_le (pe_callB (k_len K) (by rfl) T.n_len bt_len (pa_cons (pz 0) pa_nil)) (pe_gk T.c_MOST_SIGNS) (nomark _)))))), ?_⟩
  obtain ⟨l, rfl, hp, hl, q⟩ := h
  refine ⟨l, rfl, hp, ?_⟩
  refine ⟨sz (by rw [length_S]; omega), ?_⟩
  show Q (.bl (decide (((S l).length : Int) ≤ 80000))) H
  rw [length_S, decide_eq_true (by omega)]
  exact q

/-! ### framed(text), level 3 -/
abbrev s_framed : Stmt := top 11
abbrev N_framed : List Str := ["text"]
theorem sc_framed : FnScope N_framed ["text"] (defScope s_framed) := ⟨rfl, rfl, rfl, by decide +kernel, rfl, by decide +kernel, by decide +kernel⟩
theorem ok_framed (T : Txt K mg) (C_has_frame : Ct P w K mg base CX0 2 "has_frame" ["value"] (sp_has_frame K)) (D : Df K mg "framed" s_framed ["text"]) : Ct P w K mg base CX0 3 "framed" ["text"] (sp_framed K) := by
  refine ct1 D sc_framed fun f cdv A outer s H a_text Q E hr h => ⟨_, (pss_cons (ps_if (pt_not (pt_trK K (pe_cl C_has_frame (hr.mono (by decide)) pass0 (pa_cons (pz 0) pa_nil)))) 
      (pss_one ps_never) pss_nil)
    (pss_one (ps_ret (pe_op (k_add K) (pe_op (k_add K) (pe_op (k_add K) (pe_ms PySem.F.slot_str_zfill PySem.F.type_str_zfill m_zfill (pe_callTy c_str (by rfl) T.n_str bt_str (pa_cons (pe_callB (k_len K) (by rfl) T.n_len bt_len (pa_cons (pz 0) pa_nil)) pa_nil)) (pa_cons pe_int pa_nil)) pe_str) (pz 0)) pe_str)))), ?_⟩
  obtain ⟨l, rfl, hp, hl, q⟩ := h
  obtain ⟨n1, n2⟩ := numL5 (n := l.length) (by omega)
  refine ⟨l, rfl, hp, hl, ?_⟩
  refine ⟨sz (by rw [length_S]; omega), ?_⟩
  rw [length_S]
  refine ⟨log_small (by omega), ?_⟩
  rw [num_S]
  refine ⟨by decide, ?_⟩
  rw [zfill_S (by omega), lit_colon]
  refine ⟨sz (by simp only [length_S, List.length_append, List.length_replicate, List.length_singleton]; omega), ?_⟩
  rw [S_cat]
  refine ⟨sz (by simp only [length_S, List.length_append, List.length_replicate, List.length_singleton]; omega), ?_⟩
  rw [S_cat, lit_semi]
  refine ⟨sz (by simp only [length_S, List.length_append, List.length_replicate, List.length_singleton]; omega), ?_⟩
  rw [S_cat]
  exact q

/-! ### is_list(value), level 1 -/
abbrev s_is_list : Stmt := top 4
abbrev N_is_list : List Str := ["value"]
theorem sc_is_list : FnScope N_is_list ["value"] (defScope s_is_list) := ⟨rfl, rfl, rfl, by decide +kernel, rfl, by decide +kernel, by decide +kernel⟩
theorem ok_is_list (T : Txt K mg) (D : Df K mg "is_list" s_is_list ["value"]) : Ct P w K mg base CX0 1 "is_list" ["value"] (sp_is_list K) := by
  refine ct1 D sc_is_list fun f cdv A outer s H a_value Q E hr h => ⟨_, (pss_one (ps_ret (pe_callB (k_isi K) (by rfl) T.n_isinstance bt_isinstance (pa_cons (pz 0) (pa_cons (pe_tz (pa_cons (pe_bltn (v := .ty "list") (by rfl) T.n_list bt_list rfl) (pa_cons (pe_bltn (v := .ty "tuple") (by rfl) T.n_tuple bt_tuple rfl) pa_nil))) pa_nil))))), ?_⟩
  obtain ⟨a, xs, rfl, hx, q⟩ := h
  refine ⟨by show 2 ≤ sizeLine; decide, fun p H2 n2 => ?_⟩
  rcases hx with hx | hx
  · refine ⟨"list", "tuple", "list", n2.here, by decide, by decide, .inl ⟨rfl, xs, sqL_same n2.same hx⟩, ?_⟩
    exact q H2 n2.same
  · refine ⟨"list", "tuple", "tuple", n2.here, by decide, by decide, .inr (.inl ⟨rfl, xs, sqT_same n2.same hx⟩), ?_⟩
    exact q H2 n2.same

/-! ### check_texts(texts), level 3 -/
abbrev s_check_texts : Stmt := top 10
abbrev N_check_texts : List Str := ["texts", "text"]
theorem sc_check_texts : FnScope N_check_texts ["texts"] (defScope s_check_texts) := ⟨rfl, rfl, rfl, by decide +kernel, rfl, by decide +kernel, by decide +kernel⟩
theorem ok_check_texts (C_is_list : Ct P w K mg base CX0 1 "is_list" ["value"] (sp_is_list K)) (C_has_frame : Ct P w K mg base CX0 2 "has_frame" ["value"] (sp_has_frame K)) (D : Df K mg "check_texts" s_check_texts ["texts"]) : Ct P w K mg base CX0 3 "check_texts" ["texts"] (sp_check_texts K) := by
  refine ct1 D sc_check_texts fun f cdv A outer s H a_texts Q E hr h => ⟨_, (pss_cons (ps_if (pt_not (pt_trK K (pe_cl C_is_list (hr.mono (by decide)) pass0 (pa_cons (pz 0) pa_nil)))) 
      (pss_one ps_never) pss_nil)
    (pss_one (ps_for PassesOwn.never rfl (pi_or (pi_lzK K (pz 0)) (pi_tzK K (pz 0))) (pg_name (i := 1) sc_check_texts.nd rfl (Or.inl rfl)) 
      (pss_one (ps_if (pt_not (pt_trK K (pe_cl C_has_frame (hr.mono (by decide)) pass0 (pa_cons (pz 1) pa_nil)))) 
        (pss_one ps_never) pss_nil))))), ?_⟩
  obtain ⟨a, ls, rfl, hx, hls, q⟩ := h
  refine ⟨a, strsV ls, rfl, hx, fun H2 s2 => ?_⟩
  rcases hx with hx | hx
  · refine .inl ⟨⟨_, sqL_same s2 hx⟩, for_w (wk_list (strsV ls)) (fun i σ H' => Same H H' ∧ ∃ v, σ = [some (.ref a), v]) ⟨s2, none, rfl⟩ (fun i σ H' p => sqL_same p.1 hx) ?_ (fun σ H' p => q H' p.1)⟩
    rintro i x σ H' hx' ⟨s3, v, rfl⟩
    obtain ⟨l, h1, rfl, hm⟩ := strsV_at hx'
    exact ⟨l, rfl, (hls l hm).1, (hls l hm).2, s3, _, rfl⟩
  · refine .inr ⟨⟨_, sqT_same s2 hx⟩, for_w (wk_tup (strsV ls)) (fun i σ H' => Same H H' ∧ ∃ v, σ = [some (.ref a), v]) ⟨s2, none, rfl⟩ (fun i σ H' p => sqT_same p.1 hx) ?_ (fun σ H' p => q H' p.1)⟩
    rintro i x σ H' hx' ⟨s3, v, rfl⟩
    obtain ⟨l, h1, rfl, hm⟩ := strsV_at hx'
    exact ⟨l, rfl, (hls l hm).1, (hls l hm).2, s3, _, rfl⟩

/-! ### all_framed(texts), level 4 -/
abbrev s_all_framed : Stmt := top 12
abbrev N_all_framed : List Str := ["texts", "text"]
theorem sc_all_framed : FnScope N_all_framed ["texts"] (defScope s_all_framed) := ⟨rfl, rfl, rfl, by decide +kernel, rfl, by decide +kernel, by decide +kernel⟩
theorem ok_all_framed (C_check_texts : Ct P w K mg base CX0 3 "check_texts" ["texts"] (sp_check_texts K)) (C_framed : Ct P w K mg base CX0 3 "framed" ["text"] (sp_framed K)) (D : Df K mg "all_framed" s_all_framed ["texts"]) : Ct P w K mg base CX0 4 "all_framed" ["texts"] (sp_all_framed K) := by
  refine ct1 D sc_all_framed fun f cdv A outer s H a_texts Q E hr h => ⟨_, (pss_cons (ps_expr (pe_cl C_check_texts (hr.mono (by decide)) pass0 (pa_cons (pz 0) pa_nil)))
    (pss_one (ps_ret (pe_ms PySem.F.slot_str_join PySem.F.type_str_join (mk_join K) pe_str (pa_cons (pe_lcz (own := [("text", 1)]) (by rfl) sc_all_framed.nd (pi_or (pi_lzK K (pz 0)) (pi_tzK K (pz 0))) (blkOk_by (own := [("text", 1)]) (N := N_all_framed) (sc := defScope s_all_framed) (by decide +kernel)) (fun _ _ _ _ _ => (pg_name (i := 1) sc_all_framed.nd rfl (Or.inl rfl))) (fun _ _ _ _ _ => pts_nil) (fun _ _ _ _ _ => (pe_cl C_framed (hr.mono (by decide)) pass0 (pa_cons (pz 1) pa_nil)))) pa_nil))))), ?_⟩
  obtain ⟨a, ls, rfl, hx, hls, hz, q⟩ := h
  have hz2 : ls.length ≤ 1000000 := by
    have : ls.length * 7 ≤ (ls.map frL).flatten.length := by
      clear hx hz q
      induction ls with
      | nil => simp
      | cons x r ih =>
        have h1 := frL_len (l := x) (by have := (hls x List.mem_cons_self).2; omega)
        have h2 := ih fun l hl => hls l (List.mem_cons_of_mem _ hl)
        rw [List.map_cons, List.flatten_cons, List.length_append, List.length_cons, h1]
        omega
    omega
  refine ⟨a, ls, rfl, hx, hls, fun H2 s2 => ?_⟩
  have fin : ∀ (D : Addr) (H4 : Hp), H2 D = none → H4 D = some (.lst (strsV (ls.map frL))) → Same H2 H4 → zJoin K "" [.ref D] H4 Q := fun D H4 hD h4 s4 => by
    refine ⟨(ls.map frL).map S, .inl (SqL.of h4), joinSz _ (by omega), ?_⟩
    rw [join_flat lit_nil]
    exact q H4 (s2.trans s4)
  have turn : ∀ (D : Addr) (hD : H2 D = none) (i : Nat) (x : V) (acc : List V) (H3 : Hp), (strsV ls)[i]? = some x → H3 D = some (.lst acc) → (Same H2 H3 ∧ acc = strsV ((ls.take i).map frL)) →
      gName 1 x (wipe [some (.ref a), none] [1]) H3 fun σ2 H2' => wipe σ2 [1] = wipe [some (.ref a), none] [1] ∧ tYes σ2 H2' fun b H3 => if b = true then tCl (sp_framed K) E0 (tCons (tV 1) tNil) σ2 H3 fun y H4 => H4 D = some (.lst acc) ∧ ∀ H5, Wr H4 D (.lst (acc ++ [y])) H5 → (Same H2 H5 ∧ acc ++ [y] = strsV ((ls.take (i + 1)).map frL)) else H3 D = some (.lst acc) ∧ (Same H2 H3 ∧ acc = strsV ((ls.take (i + 1)).map frL)) := by
    rintro D hD i x acc H3 hx' hD3 ⟨s3, rfl⟩
    obtain ⟨l, h1, rfl, hm⟩ := strsV_at hx'
    refine ⟨rfl, ?_⟩
    refine ⟨l, rfl, (hls l hm).1, (hls l hm).2, hD3, fun H5 w5 => ⟨s3.wr hD w5, ?_⟩⟩
    rw [List.take_add_one, h1, List.map_append]
    exact (strsV_app _ _).symm
  rcases hx with hx | hx
  · refine .inl ⟨⟨_, sqL_same s2 hx⟩, fun D hD => lc_w (wk_list (strsV ls)) (by rw [strsV_len]; omega) (fun i acc H3 => Same H2 H3 ∧ acc = strsV ((ls.take i).map frL)) (fun H3 n3 => ⟨n3.same, rfl⟩) (fun i acc H3 p => sqL_same (s2.trans p.1) hx)
      (fun i acc H3 p => by rw [p.2, strsV_len, List.length_map, List.length_take]; omega) (turn D hD) (fun acc H4 _ h4 p => ?_)⟩
    obtain ⟨p1, rfl⟩ := p
    rw [strsV_len, List.take_length] at h4
    exact fin D H4 hD h4 p1
  · refine .inr ⟨⟨_, sqT_same s2 hx⟩, fun D hD => lc_w (wk_tup (strsV ls)) (by rw [strsV_len]; omega) (fun i acc H3 => Same H2 H3 ∧ acc = strsV ((ls.take i).map frL)) (fun H3 n3 => ⟨n3.same, rfl⟩) (fun i acc H3 p => sqT_same (s2.trans p.1) hx)
      (fun i acc H3 p => by rw [p.2, strsV_len, List.length_map, List.length_take]; omega) (turn D hD) (fun acc H4 _ h4 p => ?_)⟩
    obtain ⟨p1, rfl⟩ := p
    rw [strsV_len, List.take_length] at h4
    exact fin D H4 hD h4 p1

/-! ### _law_frames_right(_law_texts_here, _law_others), level 5 -/
abbrev s__law_frames_right : Stmt := top 28
abbrev N__law_frames_right : List Str := ["_law_texts_here", "_law_others", "_law_row", "_law_due", "_law_handed", "_law_told"]
theorem sc__law_frames_right : FnScope N__law_frames_right ["_law_texts_here", "_law_others"] (defScope s__law_frames_right) := ⟨rfl, rfl, rfl, by decide +kernel, rfl, by decide +kernel, by decide +kernel⟩
theorem ok__law_frames_right (T : Txt K mg) (C__law_frame : Ct P w K mg base CX0 1 "_law_frame" ["_law_row"] (sp__law_frame K)) (C_framed : Ct P w K mg base CX0 3 "framed" ["text"] (sp_framed K)) (C_all_framed : Ct P w K mg base CX0 4 "all_framed" ["texts"] (sp_all_framed K)) (K_framed : CtK P w K mg base CX0 3 "framed" ["text"] ["text"] perm_0 (sp_framed K)) (K_all_framed : CtK P w K mg base CX0 4 "all_framed" ["texts"] ["texts"] perm_0 (sp_all_framed K)) (D : Df K mg "_law_frames_right" s__law_frames_right ["_law_texts_here", "_law_others"]) : Ct P w K mg base CX0 5 "_law_frames_right" ["_law_texts_here", "_law_others"] (sp__law_frames_right K) := by
  refine ct2 D sc__law_frames_right fun f cdv A outer s H a_texts_here a_others Q E hr h => ⟨_, (pss_cons (ps_for PassesOwn.never rfl (pi_lzK K (pz 0)) (pg_name (i := 2) sc__law_frames_right.nd rfl (Or.inl rfl)) 
      (pss_one (ps_if (PW.pt (pw_or (pt_cmpZ (k_ne K hr.units) (pe_cl C_framed (hr.mono (by decide)) pass0 (pa_cons (pz 2) pa_nil)) (pe_cl C__law_frame (hr.mono (by decide)) pass0 (pa_cons (pz 2) pa_nil)) (nomark _)) (pw_or1 (pt_cmpZ (k_ne K hr.units) (pe_clK K_framed (hr.mono (by decide)) pass0 (pk_cons (pz 2) pk_nil)) (pe_cl C__law_frame (hr.mono (by decide)) pass0 (pa_cons (pz 2) pa_nil)) (nomark _))))) 
        (pss_one (ps_ret pe_bl)) pss_nil)))
    (pss_cons (ps_set (i := 3) sc__law_frames_right.nd rfl (Or.inl rfl) (pe_ms PySem.F.slot_str_join PySem.F.type_str_join (mk_join K) pe_str (pa_cons (pe_lcz (own := [("_law_row", 2)]) (by rfl) sc__law_frames_right.nd (pi_lzK K (pz 0)) (blkOk_by (own := [("_law_row", 2)]) (N := N__law_frames_right) (sc := defScope s__law_frames_right) (by decide +kernel)) (fun _ _ _ _ _ => (pg_name (i := 2) sc__law_frames_right.nd rfl (Or.inl rfl))) (fun _ _ _ _ _ => pts_nil) (fun _ _ _ _ _ => (pe_cl C__law_frame (hr.mono (by decide)) pass0 (pa_cons (pz 2) pa_nil)))) pa_nil)))
    (pss_cons (ps_set (i := 4) sc__law_frames_right.nd rfl (Or.inl rfl) (pe_callTy (k_list K) (by rfl) T.n_list bt_list (pa_cons (pz 0) pa_nil)))
    (pss_cons (ps_set (i := 5) sc__law_frames_right.nd rfl (Or.inl rfl) (pe_cl C_all_framed (hr.mono (by decide)) pass0 (pa_cons (pz 4) pa_nil)))
    (pss_cons (ps_if (PW.pt (pw_or (pt_not (pt_trK K (pe_callB (k_isi K) (by rfl) T.n_isinstance bt_isinstance (pa_cons (pz 5) (pa_cons (pe_bltn (v := .ty "str") (by rfl) T.n_str bt_str rfl) pa_nil))))) (pw_or (pt_cmpZ (k_ne K hr.units) (pz 5) (pz 3) (nomark _)) (pw_or (pt_cmpZ (k_ne K hr.units) (pz 4) (pz 0) (nomark _)) (pw_or1 (pt_cmpZ (k_ne K hr.units) (pe_clK K_all_framed (hr.mono (by decide)) pass0 (pk_cons (pe_callTy (k_tuple K) (by rfl) T.n_tuple bt_tuple (pa_cons (pz 0) pa_nil)) pk_nil)) (pz 3) (nomark _))))))) 
      (pss_one (ps_ret pe_bl)) pss_nil)
    (pss_cons (ps_expr (pe_mlK K PySem.F.slot_list_append PySem.F.type_list_append m_append (pz 4) (pa_cons pe_str pa_nil)))
    (pss_cons (ps_if (pt_cmpZ (k_ne K hr.units) (pe_cl C_all_framed (hr.mono (by decide)) pass0 (pa_cons (pz 4) pa_nil)) (pe_op (k_add K) (pz 3) (pe_cl C__law_frame (hr.mono (by decide)) pass0 (pa_cons pe_str pa_nil))) (nomark _)) 
      (pss_one (ps_ret pe_bl)) pss_nil)
    (pss_one (ps_ret (pe_cmpR (k_eq K hr.units) (pe_cl C_all_framed (hr.mono (by decide)) pass0 (pa_cons (pe_op (k_add K) (pz 0) (pz 1)) pa_nil)) (pe_op (k_add K) (pz 3) (pe_cl C_all_framed (hr.mono (by decide)) pass0 (pa_cons (pz 1) pa_nil))) (nomark _))))))))))), ?_⟩
  obtain ⟨a, c, ls, ms, rfl, rfl, ha, hc, hl, hm, tl, tm, k⟩ := h
  have zl := fun l hl => Nat.le_trans (tl l hl).2 (by decide : 101 ≤ 80000)
  have okl : ∀ l ∈ ls, Pr l ∧ l.length ≤ 80000 := fun l hl => ⟨(tl l hl).1, zl l hl⟩
  have okm : ∀ l ∈ ms, Pr l ∧ l.length ≤ 80000 := fun l hl => ⟨(tm l hl).1, Nat.le_trans (tm l hl).2 (by decide)⟩
  have fl := frs_len (by decide) tl
  have fm := frs_len (by decide) tm
  refine ⟨⟨_, SqL.of ha⟩, for_w (wk_list (strsV ls)) (fun i σ H' => H' = H ∧ ∃ v, σ = [some (.ref a), some (.ref c), v, none, none, none]) ⟨rfl, _, rfl⟩ (fun i σ H' p => by rw [p.1]; exact SqL.of ha) ?_ ?_⟩
  · rintro i x σ H' hx ⟨rfl, v, rfl⟩
    obtain ⟨l, h1, rfl, hml⟩ := strsV_at hx
    refine ⟨l, rfl, (okl l hml).1, (okl l hml).2, l, rfl, (okl l hml).2, ?_⟩
    refine iteN (nself _) ?_
    refine ⟨l, rfl, (okl l hml).1, (okl l hml).2, l, rfl, (okl l hml).2, ?_⟩
    refine iteN (nself _) ?_
    exact ⟨rfl, _, rfl⟩
  · rintro σ H' ⟨rfl, v, rfl⟩
    refine ⟨⟨_, SqL.of ha⟩, fun D hD => frs_lc (by omega) zl (SqL.of ha) hD (fun _ => rfl) (fun _ => rfl) fun H2 h2 s2 => ?_⟩
    refine ⟨(ls.map frL).map S, .inl (SqL.of h2), joinSz _ (by omega), ?_⟩
    rw [join_flat lit_nil]
    have ha2 := s2 _ _ ha
    have hc2 := s2 _ _ hc
    refine ⟨strsV ls, .inl (SqL.of ha2), fun d H3 n3 => ?_⟩
    refine ⟨d, ls, rfl, .inl (SqL.of n3.here), okl, by omega, fun H4 s4 => ?_⟩
    have s24 := n3.same.trans s4
    refine ⟨by decide, "str", rfl, ?_⟩
    refine iteN (nself _) ?_
    refine ⟨_, _, dp_strs (SqL.of (s4 _ _ n3.here)), dp_strs (SqL.of (s24 _ _ ha2)), shaped_strs fun l hl => (okl l hl).1, shaped_strs fun l hl => (okl l hl).1, ?_⟩
    rw [eqv_self (shaped_strs fun l hl => (okl l hl).1)]
    refine ⟨strsV ls, .inl ⟨SqL.of (s24 _ _ ha2), fun e H5 n5 => ?_⟩⟩
    refine ⟨e, ls, rfl, .inr (SqT.of n5.here), okl, by omega, fun H6 s6 => ?_⟩
    refine iteN (nself _) ?_
    have s46 := n5.same.trans s6
    have hd6 := s46 _ _ (s4 _ _ n3.here)
    refine ⟨⟨_, SqL.of hd6⟩, _, hd6, szlt (by rw [strsV_len]; omega), fun H7 w7 => ?_⟩
    have lx : ("x" : Str) = S [120] := by decide +kernel
    have px : Pr [120] := pr_of (by decide)
    have s27 : Same H2 H7 := (s24.trans s46).wr n3.fresh w7
    have h7 := w7.here
    rw [lx, ← strsV_app] at h7
    have okx : ∀ l ∈ ls ++ [[120]], Pr l ∧ l.length ≤ 80000 := fun l hl => by
      rcases List.mem_append.mp hl with q | q
      · exact okl l q
      · rw [List.mem_singleton.mp q]
        exact ⟨px, by decide⟩
    have e8 : ((ls ++ [[120]]).map frL).flatten = (ls.map frL).flatten ++ frL [120] := by
      rw [List.map_append, List.flatten_append]
      simp
    have l120 : (frL [120]).length = 8 := frL_len (by decide)
    refine ⟨d, ls ++ [[120]], rfl, .inl (SqL.of h7), okx, by rw [e8, List.length_append, l120]; omega, fun H8 s8 => ?_⟩
    refine ⟨[120], by rw [lx], by decide, ?_⟩
    refine ⟨sz (by rw [length_S, length_S, l120]; omega), ?_⟩
    rw [S_cat, ← e8]
    refine iteN (nself _) ?_
    have s28 := s27.trans s8
    refine .inl ⟨strsV ls, strsV ms, s28 _ _ ha2, s28 _ _ hc2, sz (by rw [strsV_len, strsV_len]; omega), fun u H9 n9 => ?_⟩
    have h9 := n9.here
    rw [show strsV ls ++ strsV ms = strsV (ls ++ ms) by simp [strsV]] at h9
    have e9 : ((ls ++ ms).map frL).flatten = (ls.map frL).flatten ++ (ms.map frL).flatten := by rw [List.map_append, List.flatten_append]
    refine ⟨u, ls ++ ms, rfl, .inl (SqL.of h9), fun l hl => (List.mem_append.mp hl).elim (okl l) (okm l), by rw [e9, List.length_append]; omega, fun H10 s10 => ?_⟩
    have hc10 := s10 _ _ (n9.keep (s28 _ _ hc2))
    refine ⟨c, ms, rfl, .inl (SqL.of hc10), okm, by omega, fun H11 s11 => ?_⟩
    refine ⟨sz (by rw [length_S, length_S]; omega), ?_⟩
    rw [S_cat, ← e9]
    show Q (.bl (false ^^ decide (V.str (S ((ls ++ ms).map frL).flatten) = V.str (S ((ls ++ ms).map frL).flatten)))) H11
    rw [eself]
    exact k H11 ((((s2.trans s28).trans n9.same).trans s10).trans s11)

/-! ### _law_turned(_law_box_here, _law_row), level 3 -/
abbrev s__law_turned : Stmt := top 24
abbrev N__law_turned : List Str := ["_law_box_here", "_law_row", "_law_way", "_law_spot", "_law_sign_here"]
theorem sc__law_turned : FnScope N__law_turned ["_law_box_here", "_law_row"] (defScope s__law_turned) := ⟨rfl, rfl, rfl, by decide +kernel, rfl, by decide +kernel, by decide +kernel⟩
theorem ok__law_turned (T : Txt K mg) (C__law_take : Ct P w K mg base CX0 1 "_law_take" ["_law_box_here", "_law_many"] (sp__law_take K)) (C__law_sign : Ct P w K mg base CX0 2 "_law_sign" ["_law_box_here", "_law_near"] (sp__law_sign K)) (D : Df K mg "_law_turned" s__law_turned ["_law_box_here", "_law_row"]) : Ct P w K mg base CX0 3 "_law_turned" ["_law_box_here", "_law_row"] (sp__law_turned K) := by
  refine ct2 D sc__law_turned fun f cdv A outer s H a_box_here a_row Q E hr h => ⟨_, (pss_cons (ps_parZ (i := 2) (j := 3) (by rfl) sc__law_turned.nd rfl rfl (by decide) rfl rfl (pa_cons (pe_cl C__law_take (hr.mono (by decide)) pass0 (pa_cons (pz 0) (pa_cons pe_int pa_nil))) (pa_cons (pe_cl C__law_take (hr.mono (by decide)) pass0 (pa_cons (pz 0) (pa_cons (pe_callB (k_len K) (by rfl) T.n_len bt_len (pa_cons (pz 1) pa_nil)) pa_nil))) pa_nil)) (by rfl))
    (pss_cons (ps_if (pt_cmpZ (k_eq K hr.units) (pz 2) pe_int (nomark _)) 
      (pss_one (ps_ret (pe_op (k_add K) (pe_op (k_add K) (pe_slice (k_sl K) (pz 1) po_none (po_z pe_int)) (pe_ix (k_ix K) pe_str (pe_op o_mod (pe_op (k_add K) (pe_op (k_add K) (pe_callTy c_int (by rfl) T.n_int bt_int (pa_cons (pe_ix (k_ix K) (pz 1) pe_int (fun _ _ => rfl)) pa_nil)) pe_int) (pe_cl C__law_take (hr.mono (by decide)) pass0 (pa_cons (pz 0) (pa_cons pe_int pa_nil)))) pe_int) (fun _ _ => rfl))) (pe_slice (k_sl K) (pz 1) (po_z pe_int) po_none)))) pss_nil)
    (pss_cons (ps_if (pt_cmpZ (k_eq K hr.units) (pz 2) pe_int (nomark _)) 
      (pss_one (ps_ret (pe_op (k_add K) (pe_slice (k_sl K) (pz 1) po_none (po_z (pz 3))) (pe_slice (k_sl K) (pz 1) (po_z (pe_op (k_add K) (pz 3) pe_int)) po_none)))) pss_nil)
    (pss_cons (ps_if (pt_cmpZ (k_eq K hr.units) (pz 2) pe_int (nomark _)) 
      (pss_one (ps_ret (pe_op (k_add K) (pe_op (k_add K) (pe_slice (k_sl K) (pz 1) po_none (po_z (pz 3))) (pe_ix (k_ix K) (pz 1) (pz 3) (fun _ _ => rfl))) (pe_slice (k_sl K) (pz 1) (po_z (pz 3)) po_none)))) pss_nil)
    (pss_cons (ps_set (i := 4) sc__law_turned.nd rfl (Or.inl rfl) (pe_cl C__law_sign (hr.mono (by decide)) pass0 (pa_cons (pz 0) (pa_cons (pe_cmpR o_ltS (pz 2) pe_int (nomark _)) pa_nil))))
    (pss_one (ps_ret (pe_op (k_add K) (pe_op (k_add K) (pe_slice (k_sl K) (pz 1) po_none (po_z (pz 3))) (pz 4)) (pe_slice (k_sl K) (pz 1) (po_z (pe_op (k_add K) (pz 3) (pe_op o_mod (pz 2) pe_int))) po_none))))))))), ?_⟩
  obtain ⟨b, n, m, rfl, rfl, tm, hB, hn, k⟩ := h
  have lm := tm.2
  have lf := frL_len (l := m) (by omega)
  have pf := frL_pr tm.1
  generalize hr0 : frL m = row at *
  refine ⟨b, 6, n, rfl, rfl, by decide, by decide, hB, by omega, fun way H1 t1 B1 w0 w1 => ?_⟩
  refine ⟨sz (by rw [length_S]; omega), ?_⟩
  rw [length_S]
  refine ⟨b, _, n + 1, rfl, rfl, by omega, by omega, B1, by omega, fun spot H2 t2 B2 p0 p1 => ?_⟩
  obtain ⟨sp, rfl⟩ : ∃ j : Nat, spot = (j : Int) := ⟨spot.toNat, by omega⟩
  have t12 := t1.trans t2
  have hsz : (S row).length ≤ sizeLine := sz (by rw [length_S]; omega)
  refine ite2 (fun hw => ?_) (fun hw => ?_)
  · refine ⟨hsz, ?_⟩
    rw [show cutS (S row) none (some 4) = S (row.take 4) from cut_n (b := 4)]
    obtain ⟨d, hd, hd2⟩ := frL_dig (l := m) (by omega)
    rw [hr0] at hd
    refine ⟨d, hsz, by rw [cps_S]; exact atI_nat hd, ?_⟩
    refine ⟨_, int_dig hd2, by show 1 ≤ 640; decide, ?_⟩
    refine ⟨b, 9, n + 2, rfl, rfl, by decide, by decide, B2, by omega, fun r H3 t3 B3 r0 r1 => ?_⟩
    refine ⟨by show (0 : Int) < _; decide, ?_⟩
    have q0 := Int.emod_nonneg (((d - 48 : Nat) : Int) + 1 + r) (show (10 : Int) ≠ 0 by decide)
    have q1 := Int.emod_lt_of_pos (((d - 48 : Nat) : Int) + 1 + r) (show (0 : Int) < 10 by decide)
    obtain ⟨c, e, hc⟩ := near_item (t := "0123456789") (by decide) q0 q1
    refine ⟨c, by decide, e, ?_⟩
    refine ⟨sz (by rw [length_S, List.length_take]; show _ + 1 ≤ _; omega), ?_⟩
    rw [show (⟨#[c]⟩ : Str) = S [c] from rfl, S_cat]
    refine ⟨hsz, ?_⟩
    rw [show cutS (S row) (some 5) none = S (row.drop 5) from cut_from (a := 5)]
    refine ⟨sz (by rw [length_S, length_S, List.length_append, List.length_take, List.length_drop, List.length_singleton]; omega), ?_⟩
    rw [S_cat]
    exact k _ H3 (t12.trans t3) (B3.mono (by omega)) ⟨pr_app (pr_app (pr_take _ pf) (pr_one hc)) (pr_drop _ pf), by rw [List.length_append, List.length_append, List.length_take, List.length_drop, List.length_singleton]; omega⟩
  · refine ite2 (fun hw => ?_) (fun hw => ?_)
    · refine ⟨hsz, ?_⟩
      rw [cut_n]
      refine ⟨hsz, ?_⟩
      rw [show ((sp : Nat) : Int) + 1 = ((sp + 1 : Nat) : Int) by omega, cut_from]
      refine ⟨sz (by rw [length_S, length_S, List.length_take, List.length_drop]; omega), ?_⟩
      rw [S_cat]
      exact k _ H2 t12 (B2.mono (by omega)) ⟨pr_app (pr_take _ pf) (pr_drop _ pf), by rw [List.length_append, List.length_take, List.length_drop]; omega⟩
    · refine ite2 (fun hw => ?_) (fun hw => ?_)
      · refine ⟨hsz, ?_⟩
        rw [cut_n]
        have hsp : sp < row.length := by omega
        refine ⟨row[sp], hsz, by rw [cps_S]; exact atI_nat (List.getElem?_eq_getElem hsp), ?_⟩
        refine ⟨sz (by rw [length_S, List.length_take]; show _ + 1 ≤ _; omega), ?_⟩
        rw [show (⟨#[row[sp]]⟩ : Str) = S [row[sp]] from rfl, S_cat]
        refine ⟨hsz, ?_⟩
        rw [cut_from]
        refine ⟨sz (by rw [length_S, length_S, List.length_append, List.length_take, List.length_drop, List.length_singleton]; omega), ?_⟩
        rw [S_cat]
        exact k _ H2 t12 (B2.mono (by omega)) ⟨pr_app (pr_app (pr_take _ pf) (pr_one (pf _ (List.getElem_mem hsp)))) (pr_drop _ pf), by rw [List.length_append, List.length_append, List.length_take, List.length_drop, List.length_singleton]; omega⟩
      · refine ⟨b, _, n + 2, rfl, rfl, B2, by omega, fun c H3 t3 B3 hc => ?_⟩
        refine ⟨hsz, ?_⟩
        rw [cut_n]
        refine ⟨sz (by rw [length_S, List.length_take]; show _ + 1 ≤ _; omega), ?_⟩
        rw [S_cat]
        refine ⟨by show (0 : Int) < _; decide, ?_⟩
        refine ⟨hsz, ?_⟩
        have q0 := Int.emod_nonneg way (show (2 : Int) ≠ 0 by decide)
        obtain ⟨u, hu⟩ : ∃ u : Nat, ((sp : Nat) : Int) + way % 2 = ((u : Nat) : Int) := ⟨(((sp : Nat) : Int) + way % 2).toNat, by omega⟩
        have hu2 : sp ≤ u := by omega
        rw [hu, cut_from]
        refine ⟨sz (by rw [length_S, length_S, List.length_append, List.length_take, List.length_drop, List.length_singleton]; omega), ?_⟩
        rw [S_cat]
        exact k _ H3 (t12.trans t3) (B3.mono (by omega)) ⟨pr_app (pr_app (pr_take _ pf) (pr_one hc)) (pr_drop _ pf), by rw [List.length_append, List.length_append, List.length_take, List.length_drop, List.length_singleton]; omega⟩

/-! ### _law_tail(_law_box_here), level 4 -/
abbrev s__law_tail : Stmt := top 25
abbrev N__law_tail : List Str := ["_law_box_here", "_law_way", "_law_row", "_law_heads"]
theorem sc__law_tail : FnScope N__law_tail ["_law_box_here"] (defScope s__law_tail) := ⟨rfl, rfl, rfl, by decide +kernel, rfl, by decide +kernel, by decide +kernel⟩
theorem ok__law_tail (T : Txt K mg) (C__law_frame : Ct P w K mg base CX0 1 "_law_frame" ["_law_row"] (sp__law_frame K)) (C__law_text : Ct P w K mg base CX0 3 "_law_text" ["_law_box_here"] (sp__law_text K)) (C__law_take : Ct P w K mg base CX0 1 "_law_take" ["_law_box_here", "_law_many"] (sp__law_take K)) (C__law_sign : Ct P w K mg base CX0 2 "_law_sign" ["_law_box_here", "_law_near"] (sp__law_sign K)) (C__law_turned : Ct P w K mg base CX0 3 "_law_turned" ["_law_box_here", "_law_row"] (sp__law_turned K)) (D : Df K mg "_law_tail" s__law_tail ["_law_box_here"]) : Ct P w K mg base CX0 4 "_law_tail" ["_law_box_here"] (sp__law_tail K) := by
  refine ct1 D sc__law_tail fun f cdv A outer s H a_box_here Q E hr h => ⟨_, (pss_cons (ps_parZ (i := 1) (j := 2) (by rfl) sc__law_tail.nd rfl rfl (by decide) rfl rfl (pa_cons (pe_cl C__law_take (hr.mono (by decide)) pass0 (pa_cons (pz 0) (pa_cons pe_int pa_nil))) (pa_cons (pe_cl C__law_frame (hr.mono (by decide)) pass0 (pa_cons (pe_cl C__law_text (hr.mono (by decide)) pass0 (pa_cons (pz 0) pa_nil)) pa_nil)) pa_nil)) (by rfl))
    (pss_cons (ps_if (pt_cmpZ (k_eq K hr.units) (pz 1) pe_int (nomark _)) 
      (pss_one (ps_ret pe_str)) pss_nil)
    (pss_cons (ps_if (pt_cmpZ (k_eq K hr.units) (pz 1) pe_int (nomark _)) 
      (pss_one (ps_ret (pe_cl C__law_text (hr.mono (by decide)) pass0 (pa_cons (pz 0) pa_nil)))) pss_nil)
    (pss_cons (ps_if (pt_cmpZ (k_eq K hr.units) (pz 1) pe_int (nomark _)) 
      (pss_one (ps_ret (pe_slice (k_sl K) (pz 2) po_none (po_z (pe_cl C__law_take (hr.mono (by decide)) pass0 (pa_cons (pz 0) (pa_cons (pe_callB (k_len K) (by rfl) T.n_len bt_len (pa_cons (pz 2) pa_nil)) pa_nil))))))) pss_nil)
    (pss_cons (ps_if (pt_cmpZ (k_eq K hr.units) (pz 1) pe_int (nomark _)) 
      (pss_cons (ps_set (i := 3) sc__law_tail.nd rfl (Or.inl rfl) (pe_lz (pa_cons pe_str (pa_cons pe_str (pa_cons pe_str (pa_cons pe_str (pa_cons pe_str (pa_cons pe_str (pa_cons pe_str (pa_cons pe_str (pa_cons pe_str (pa_cons pe_str (pa_cons pe_str pa_nil)))))))))))))
      (pss_one (ps_ret (pe_op (k_add K) (pe_op (k_add K) (pe_ix (k_ix K) (pz 3) (pe_cl C__law_take (hr.mono (by decide)) pass0 (pa_cons (pz 0) (pa_cons pe_int pa_nil))) (fun _ _ => rfl)) (pe_cl C__law_sign (hr.mono (by decide)) pass0 (pa_cons (pz 0) (pa_cons pe_bl pa_nil)))) pe_str)))) pss_nil)
    (pss_cons (ps_if (pt_cmpZ (k_eq K hr.units) (pz 1) pe_int (nomark _)) 
      (pss_one (ps_ret (pz 2))) pss_nil)
    (pss_one (ps_ret (pe_cl C__law_turned (hr.mono (by decide)) pass0 (pa_cons (pz 0) (pa_cons (pz 2) pa_nil))))))))))), ?_⟩
  obtain ⟨b, n, rfl, hB, hn, k⟩ := h
  refine ⟨b, 8, n, rfl, rfl, by decide, by decide, hB, by omega, fun way H1 t1 B1 w0 w1 => ?_⟩
  refine ⟨b, n + 1, rfl, B1, by omega, fun m H2 t2 B2 tm => ?_⟩
  have lm := tm.2
  have lf := frL_len (l := m) (by omega)
  have pf := frL_pr tm.1
  have t12 := t1.trans t2
  refine ⟨m, rfl, by omega, ?_⟩
  refine ite2 (fun hw => ?_) (fun hw => ?_)
  · rw [lit_nil]
    exact k _ H2 t12 (B2.mono (by omega)) ⟨pr_nil, by decide⟩
  · refine ite2 (fun hw => ?_) (fun hw => ?_)
    · refine ⟨b, _, rfl, B2, by omega, fun l H3 t3 B3 tl => ?_⟩
      exact k _ H3 (t12.trans t3) (B3.mono (by omega)) ⟨tl.1, Nat.le_trans tl.2 (by decide)⟩
    · refine ite2 (fun hw => ?_) (fun hw => ?_)
      · refine ⟨sz (by rw [length_S]; omega), ?_⟩
        rw [length_S]
        refine ⟨b, _, _, rfl, rfl, by omega, by omega, B2, by omega, fun r H3 t3 B3 r0 r1 => ?_⟩
        refine ⟨sz (by rw [length_S]; omega), ?_⟩
        obtain ⟨j, rfl⟩ : ∃ j : Nat, r = (j : Int) := ⟨r.toNat, by omega⟩
        rw [cut_n]
        exact k _ H3 (t12.trans t3) (B3.mono (by omega)) ⟨pr_take _ pf, by rw [List.length_take]; omega⟩
      · refine ite2 (fun hw => ?_) (fun hw => ?_)
        · refine ⟨by show 11 ≤ sizeLine; decide, fun p H3 n3 => ?_⟩
          have nb : p ≠ b := (B2.ne n3.fresh).symm
          refine ⟨b, 11, _, rfl, rfl, by decide, by decide, B2.same n3.same, by omega, fun r H4 t4 B4 r0 r1 => ?_⟩
          obtain ⟨l, hl, tl⟩ := menuS ["+0001:", " 0001:", "0_0_1:", "0001 :", "1:", "0001:", "000001:", "-0001:", "00001", "00001;", "00001 :"] (n := 8) (by decide +kernel) r0 r1
          refine ⟨_, _, .inl (SqL.of (t4.at nb n3.here)), hl, ?_⟩
          refine ⟨b, false, _, rfl, rfl, B4, by omega, fun c H5 t5 B5 hc => ?_⟩
          have l8 := tl.2
          refine ⟨sz (by rw [length_S, length_S, List.length_singleton]; omega), ?_⟩
          rw [S_cat, lit_semi]
          refine ⟨sz (by simp only [length_S, List.length_append, List.length_singleton]; omega), ?_⟩
          rw [S_cat]
          exact k _ H5 (((t12.nw n3).trans t4).trans t5) (B5.mono (by omega)) ⟨pr_app (pr_app tl.1 (pr_one hc)) (pr_of (by decide)), by rw [List.length_append, List.length_append, List.length_singleton, List.length_singleton]; omega⟩
        · refine ite2 (fun hw => ?_) (fun hw => ?_)
          · exact k _ H2 t12 (B2.mono (by omega)) ⟨pf, by omega⟩
          · refine ⟨b, _, m, rfl, rfl, tm, B2, by omega, fun l H3 t3 B3 tl => ?_⟩
            exact k _ H3 (t12.trans t3) (B3.mono (by omega)) tl

/-! ### frame_end(text, start), level 1 -/
abbrev s_frame_end : Stmt := top 13
abbrev N_frame_end : List Str := ["text", "start", "head", "signs", "end", "sign"]
theorem sc_frame_end : FnScope N_frame_end ["text", "start"] (defScope s_frame_end) := ⟨rfl, rfl, rfl, by decide +kernel, rfl, by decide +kernel, by decide +kernel⟩
theorem ok_frame_end (T : Txt K mg) (D : Df K mg "frame_end" s_frame_end ["text", "start"]) : Ct P w K mg base CX0 1 "frame_end" ["text", "start"] (sp_frame_end K) := by
  refine ct2 D sc_frame_end fun f cdv A outer s H a_text a_start Q E hr h => ⟨_, (pss_cons (ps_set (i := 2) sc_frame_end.nd rfl (Or.inl rfl) (pe_slice (k_sl K) (pz 0) (po_z (pz 1)) (po_z (pe_op (k_add K) (pz 1) pe_int))))
    (pss_cons (ps_if (PW.pt (pw_or (pt_cmpZ o_ltS (pe_callB (k_len K) (by rfl) T.n_len bt_len (pa_cons (pz 2) pa_nil)) pe_int (nomark _)) (pw_or (pt_cmpZ (k_ne K hr.units) (pe_ix (k_ix K) (pz 2) pe_int (fun _ _ => rfl)) pe_str (nomark _)) (pw_or1 (pt_not (pt_trK K (pe_callB (k_all K rfl) (by rfl) T.n_all bt_all (pa_cons (pe_lcz (own := [("sign", 5)]) (by rfl) sc_frame_end.nd (pi_sz (pe_slice (k_sl K) (pz 2) po_none (po_z pe_int))) (blkOk_by (own := [("sign", 5)]) (N := N_frame_end) (sc := defScope s_frame_end) (by decide +kernel)) (fun _ _ _ _ _ => (pg_name (i := 5) sc_frame_end.nd rfl (Or.inl rfl))) (fun _ _ _ _ _ => pts_nil) (fun _ _ _ _ _ => (pe_cmpR (k_in K) (pz 5) (pe_gk T.c_FIGURES) (by rfl)))) pa_nil)))))))) 
      (pss_one (ps_ret pe_non)) pss_nil)
    (pss_cons (ps_set (i := 3) sc_frame_end.nd rfl (Or.inl rfl) (pe_callTy c_int (by rfl) T.n_int bt_int (pa_cons (pe_slice (k_sl K) (pz 2) po_none (po_z pe_int)) pa_nil)))
    (pss_cons (ps_set (i := 4) sc_frame_end.nd rfl (Or.inl rfl) (pe_op (k_add K) (pe_op (k_add K) (pz 1) pe_int) (pz 3)))
    (pss_cons (ps_if (PW.pt (pw_or (pt_cmpZ o_gtS (pz 3) (pe_gk T.c_MOST_SIGNS) (nomark _)) (pw_or1 (pt_cmpZ (k_ne K hr.units) (pe_slice (k_sl K) (pz 0) (po_z (pz 4)) (po_z (pe_op (k_add K) (pz 4) pe_int))) pe_str (nomark _))))) 
      (pss_one (ps_ret pe_non)) pss_nil)
    (pss_one (ps_ret (pe_op (k_add K) (pz 4) pe_int)))))))), ?_⟩
  obtain ⟨l, i, rfl, rfl, hp, hi, hl, q⟩ := h
  refine ⟨sz (by rw [length_S]; omega), ?_⟩
  rw [show ((i : Nat) : Int) + 6 = ((i + 6 : Nat) : Int) by omega, cut_nn, Nat.add_sub_cancel_left]
  generalize hd : (l.drop i).take 6 = hh
  have hpr : Pr hh := by rw [← hd]; exact pr_take _ (pr_drop _ hp)
  have hlen : hh.length ≤ 6 := by rw [← hd, List.length_take]; omega
  have bad : headN hh = none → ∀ H2, Same H H2 → Q .non H2 := fun e H2 s2 => by
    have z := q H2 s2
    unfold fEnd at z
    rw [hd, e] at z
    exact z
  refine ⟨sz (by rw [length_S]; omega), ?_⟩
  refine ite2 (fun h1 => ?_) (fun h1 => ?_)
  · rw [length_S] at h1
    have h1' : hh.length < 6 := by have := dT h1; omega
    exact bad (if_pos (.inl h1')) H (Same.refl H)
  · rw [length_S] at h1
    have h6 : hh.length = 6 := by
      have := dF h1
      omega
    have e5 : hh[5]? = some hh[5] := List.getElem?_eq_getElem (by omega)
    refine ⟨hh[5], sz (by rw [length_S]; omega), by rw [cps_S]; exact atI_nat e5, ?_⟩
    refine ite2 (fun h2 => ?_) (fun h2 => ?_)
    · have h2' : hh[5] ≠ 58 := fun e => by
        rw [e] at h2
        exact absurd h2 (by decide)
      exact bad (if_pos (.inr (.inl (by rw [e5]; exact fun z => h2' (Option.some.inj z))))) H (Same.refl H)
    · have h58 : hh[5] = 58 := by
        rcases Nat.decEq hh[5] 58 with e | e
        · exfalso
          refine h2 ?_
          have : ¬ (V.str (S [hh[5]]) = V.str (":" : Str)) := fun z => by
            have z' := V.str.inj z
            rw [lit_colon] at z'
            exact e (List.cons.inj (S_inj z')).1
          show (true ^^ decide (V.str (S [hh[5]]) = V.str (":" : Str))) = true
          rw [decide_eq_false this]
          rfl
        · exact e
      refine ⟨sz (by rw [length_S]; omega), ?_⟩
      rw [show cutS (S hh) none (some 5) = S (hh.take 5) from cut_n (b := 5)]
      generalize h5 : hh.take 5 = c5
      have l5 : c5.length = 5 := by rw [← h5, List.length_take]; omega
      refine fun D hD => lc_w (wk_str (S c5)) (by rw [signsV_len, length_S]; omega) (fun i acc H3 => Same H H3 ∧ acc = ((c5.take i).map isdig).map V.bl) (fun H3 n3 => ⟨n3.same, rfl⟩) (fun _ _ _ _ => trivial)
        (fun i acc H3 p => by rw [p.2, List.length_map, List.length_map, List.length_take]; omega) ?_ ?_
      · rintro i x acc H3 hx hD3 ⟨s3, rfl⟩
        obtain ⟨c, hc, rfl⟩ := signsV_at hx
        rw [cps_S] at hc
        refine ⟨rfl, ?_⟩
        refine ⟨c, rfl, hD3, fun H5 w5 => ⟨s3.wr hD w5, ?_⟩⟩
        rw [dig_in, List.take_add_one, hc, List.map_append, List.map_append]
        simp
      · rintro acc H3 _ hD3 ⟨s3, rfl⟩
        rw [signsV_len, length_S, List.take_length] at hD3
        refine ⟨c5.map isdig, SqL.of hD3, ?_⟩
        rw [← digs_all]
        refine ite2 (fun h3 => ?_) (fun h3 => ?_)
        · have h3' : digs c5 = false := by simpa using h3
          exact bad (if_pos (.inr (.inr (by rw [h5]; exact h3')))) H3 s3
        · have h3' : digs c5 = true := by simpa using h3
          have hN : headN hh = some (PySem.NumText.digitsVal c5) := by
            unfold headN
            rw [if_neg, h5]
            rintro (z | z | z)
            · omega
            · rw [e5, h58] at z
              exact z rfl
            · rw [h5, h3'] at z
              cases z
          have hv : PySem.NumText.digitsVal c5 < 100000 := by
            have := digitsVal_lt c5 h3'
            rw [l5] at this
            omega
          refine ⟨sz (by rw [length_S]; omega), ?_⟩
          rw [show cutS (S hh) none (some 5) = S (hh.take 5) from cut_n (b := 5), h5]
          refine ⟨_, intText_head l5 h3', by rw [length_S]; omega, ?_⟩
          generalize hn : PySem.NumText.digitsVal c5 = n at hN hv
          refine ite2 (fun h4 => ?_) (fun h4 => ?_)
          · have h4' := dT h4
            have z := q H3 s3
            unfold fEnd at z
            rw [hd, hN] at z
            have z' : Q (optV (if n ≤ 80000 ∧ (l.drop (i + 6 + n)).take 1 = [59] then some (i + 6 + n + 1) else none)) H3 := z
            rw [if_neg (fun w => by omega)] at z'
            exact z'
          · have h4' := dF h4
            refine ⟨sz (by rw [length_S]; omega), ?_⟩
            rw [show ((i : Nat) : Int) + 6 + ((n : Nat) : Int) = ((i + 6 + n : Nat) : Int) by omega, show ((i + 6 + n : Nat) : Int) + 1 = ((i + 6 + n + 1 : Nat) : Int) by omega, cut_nn, Nat.add_sub_cancel_left]
            have z := q H3 s3
            unfold fEnd at z
            rw [hd, hN] at z
            have z' : Q (optV (if n ≤ 80000 ∧ (l.drop (i + 6 + n)).take 1 = [59] then some (i + 6 + n + 1) else none)) H3 := z
            refine ite2 (fun h6 => ?_) (fun h6 => ?_)
            · rw [if_neg] at z'
              · exact z'
              · rintro ⟨_, w⟩
                rw [w, lit_semi] at h6
                exact absurd h6 (by decide)
            · rw [if_pos] at z'
              · exact z'
              · refine ⟨by omega, ?_⟩
                have h6' : V.str (S ((l.drop (i + 6 + n)).take 1)) = V.str (";" : Str) := by
                  have : (true ^^ decide (V.str (S ((l.drop (i + 6 + n)).take 1)) = V.str (";" : Str))) ≠ true := h6
                  by_cases e : V.str (S ((l.drop (i + 6 + n)).take 1)) = V.str (";" : Str)
                  · exact e
                  · rw [decide_eq_false e] at this
                    exact absurd rfl this
                rw [lit_semi] at h6'
                exact S_inj (V.str.inj h6')

/-! ### frames_in(text), level 2 -/
abbrev s_frames_in : Stmt := top 14
abbrev N_frames_in : List Str := ["text", "texts", "start", "end"]
theorem sc_frames_in : FnScope N_frames_in ["text"] (defScope s_frames_in) := ⟨rfl, rfl, rfl, by decide +kernel, rfl, by decide +kernel, by decide +kernel⟩
theorem ok_frames_in (C_is_signs : Ct P w K mg base CX0 1 "is_signs" ["value"] (sp_is_signs K)) (C_frame_end : Ct P w K mg base CX0 1 "frame_end" ["text", "start"] (sp_frame_end K)) (D : Df K mg "frames_in" s_frames_in ["text"]) : Ct P w K mg base CX0 2 "frames_in" ["text"] (sp_frames_in K) := by
  refine ct1 D sc_frames_in fun f cdv A outer s H a_text Q E hr h => ⟨_, (pss_cons (ps_if (pt_not (pt_trK K (pe_cl C_is_signs (hr.mono (by decide)) pass0 (pa_cons (pz 0) pa_nil)))) 
      (pss_one ps_never) pss_nil)
    (pss_cons (ps_parZ (i := 1) (j := 2) (by rfl) sc_frames_in.nd rfl rfl (by decide) rfl rfl (pa_cons (pe_lz pa_nil) (pa_cons pe_int pa_nil)) (by rfl))
    (pss_cons (ps_set (i := 3) sc_frames_in.nd rfl (Or.inl rfl) (pe_cl C_frame_end (hr.mono (by decide)) pass0 (pa_cons (pz 0) (pa_cons (pz 2) pa_nil))))
    (pss_cons (ps_while PassesOwn.never (pt_cmpZ o_isn (pz 3) pe_non (nomark _)) 
      (pss_cons (ps_expr (pe_mlK K PySem.F.slot_list_append PySem.F.type_list_append m_append (pz 1) (pa_cons (pe_slice (k_sl K) (pz 0) (po_z (pe_op (k_add K) (pz 2) pe_int)) (po_z (pe_op o_sub (pz 3) pe_int))) pa_nil)))
      (pss_cons (ps_set (i := 2) sc_frames_in.nd rfl (Or.inl rfl) (pz 3))
      (pss_one (ps_set (i := 3) sc_frames_in.nd rfl (Or.inl rfl) (pe_cl C_frame_end (hr.mono (by decide)) pass0 (pa_cons (pz 0) (pa_cons (pz 2) pa_nil))))))))
    (pss_one (ps_ret (pe_tz (pa_cons (pz 1) (pa_cons (pz 2) pa_nil))))))))), ?_⟩
  obtain ⟨l, rfl, hp, hl, q⟩ := h
  refine ⟨l, rfl, hp, ?_⟩
  refine ⟨Nat.zero_le _, fun t H2 n2 => ?_⟩
  refine ⟨l, 0, rfl, rfl, hp, Nat.zero_le _, hl, fun H3 s3 => ?_⟩
  refine ⟨fun m σ H' => ∃ (ls : List (List Nat)) (st : Nat), σ = [some (.str (S l)), some (.ref t), some (.int (st : Nat)), some (optV (fEnd l st))] ∧ H' t = some (.lst (strsV ls)) ∧ Same H H' ∧
      st ≤ l.length ∧ ls ++ (sc l st).1 = (sc l 0).1 ∧ (sc l st).2 = (sc l 0).2 ∧ ls.length ≤ st ∧ m = l.length - st, ⟨_, [], 0, rfl, s3 _ _ n2.here, n2.same.trans s3, Nat.zero_le _, rfl, rfl, Nat.zero_le _, rfl⟩, ?_⟩
  rintro m σ H' ⟨ls, st, rfl, ht, s4, hst, e1, e2, hls, rfl⟩
  cases he : fEnd l st with
  | none =>
    rw [sc_none he] at e1 e2
    refine ⟨by show 2 ≤ sizeLine; decide, fun p H4 n4 => ?_⟩
    refine q p t H4 (s4.trans n4.same) (s4.free n4.fresh) n2.fresh ?_ ?_
    · rw [n4.keep ht, ← e1, List.append_nil]
    · rw [← e2]
      exact n4.here
  | some e =>
    have bd := fEnd_bounds he
    rw [sc_some he] at e1 e2
    refine ⟨_, fun σ' H'' w => w, ?_⟩
    refine ⟨⟨_, SqL.of ht⟩, ?_⟩
    refine ⟨sz (by rw [length_S]; omega), ?_⟩
    rw [show ((st : Nat) : Int) + 6 = ((st + 6 : Nat) : Int) by omega, show ((e : Nat) : Int) - 1 = ((e - 1 : Nat) : Int) by omega, cut_nn]
    refine ⟨_, ht, szlt (by rw [strsV_len]; omega), fun H4 w4 => ?_⟩
    have s5 := s4.wr n2.fresh w4
    refine ⟨l, e, rfl, rfl, hp, bd.2, hl, fun H5 s6 => ?_⟩
    refine ⟨l.length - e, by omega, ls ++ [(l.drop (st + 6)).take (e - 1 - (st + 6))], e, rfl, ?_, s5.trans s6, bd.2, ?_, e2, ?_, rfl⟩
    · rw [strsV_app]
      exact s6 _ _ w4.here
    · rw [List.append_assoc]
      exact e1
    · rw [List.length_append, List.length_singleton]
      omega

/-! ### _law_read(_law_row), level 1 -/
abbrev s__law_read : Stmt := top 26
abbrev N__law_read : List Str := ["_law_row", "_law_found", "_law_at", "_law_turn", "_law_head", "_law_end", "_law_sign_here"]
theorem sc__law_read : FnScope N__law_read ["_law_row"] (defScope s__law_read) := ⟨rfl, rfl, rfl, by decide +kernel, rfl, by decide +kernel, by decide +kernel⟩
theorem ok__law_read (T : Txt K mg) (D : Df K mg "_law_read" s__law_read ["_law_row"]) : Ct P w K mg base CX0 1 "_law_read" ["_law_row"] (sp__law_read K) := by
  refine ct1 D sc__law_read fun f cdv A outer s H a_row Q E hr h => ⟨_, (pss_cons (ps_parZ (i := 1) (j := 2) (by rfl) sc__law_read.nd rfl rfl (by decide) rfl rfl (pa_cons (pe_lz pa_nil) (pa_cons pe_int pa_nil)) (by rfl))
    (pss_cons (ps_for PassesOwn.never rfl (pi_rngZ (by rfl) T.n_range (pa_cons (pe_op (k_add K) (pe_op o_fdiv (pe_callB (k_len K) (by rfl) T.n_len bt_len (pa_cons (pz 0) pa_nil)) pe_int) pe_int) pa_nil)) (pg_name (i := 3) sc__law_read.nd rfl (Or.inl rfl)) 
      (pss_cons (ps_set (i := 4) sc__law_read.nd rfl (Or.inl rfl) (pe_slice (k_sl K) (pz 0) (po_z (pz 2)) (po_z (pe_op (k_add K) (pz 2) pe_int))))
      (pss_cons (ps_if (PW.pt (pw_or (pt_cmpZ o_ltS (pe_callB (k_len K) (by rfl) T.n_len bt_len (pa_cons (pz 4) pa_nil)) pe_int (nomark _)) (pw_or (pt_cmpZ (k_ne K hr.units) (pe_ix (k_ix K) (pz 4) pe_int (fun _ _ => rfl)) pe_str (nomark _)) (pw_or1 (pt_cmpZ (k_ne K hr.units) (pe_lcz (own := [("_law_sign_here", 6)]) (by rfl) sc__law_read.nd (pi_sz (pe_slice (k_sl K) (pz 4) po_none (po_z pe_int))) (blkOk_by (own := [("_law_sign_here", 6)]) (N := N__law_read) (sc := defScope s__law_read) (by decide +kernel)) (fun _ _ _ _ _ => (pg_name (i := 6) sc__law_read.nd rfl (Or.inl rfl))) (fun _ _ _ _ _ => (pts_one (pt_cmpZ (k_nin K) (pz 6) pe_str (by rfl)))) (fun _ _ _ _ _ => (pz 6))) (pe_lz pa_nil) (nomark _)))))) 
        (pss_one (ps_ret (pe_tz (pa_cons (pz 1) (pa_cons (pz 2) pa_nil))))) pss_nil)
      (pss_cons (ps_set (i := 5) sc__law_read.nd rfl (Or.inl rfl) (pe_op (k_add K) (pe_op (k_add K) (pz 2) pe_int) (pe_callTy c_int (by rfl) T.n_int bt_int (pa_cons (pe_slice (k_sl K) (pz 4) po_none (po_z pe_int)) pa_nil))))
      (pss_cons (ps_if (pt_cmpZ (k_ne K hr.units) (pe_slice (k_sl K) (pz 0) (po_z (pz 5)) (po_z (pe_op (k_add K) (pz 5) pe_int))) pe_str (nomark _)) 
        (pss_one (ps_ret (pe_tz (pa_cons (pz 1) (pa_cons (pz 2) pa_nil))))) pss_nil)
      (pss_cons (ps_expr (pe_mlK K PySem.F.slot_list_append PySem.F.type_list_append m_append (pz 1) (pa_cons (pe_slice (k_sl K) (pz 0) (po_z (pe_op (k_add K) (pz 2) pe_int)) (po_z (pz 5))) pa_nil)))
      (pss_one (ps_set (i := 2) sc__law_read.nd rfl (Or.inl rfl) (pe_op (k_add K) (pz 5) pe_int)))))))))
    (pss_one (ps_ret (pe_tz (pa_cons (pz 1) (pa_cons (pz 2) pa_nil))))))), ?_⟩
  obtain ⟨l, rfl, hp, hl, k⟩ := h
  refine ⟨Nat.zero_le _, fun t H2 n2 => ?_⟩
  refine ⟨sz (by rw [length_S]; omega), ?_⟩
  rw [length_S]
  refine ⟨⟨by show (0 : Int) < _; decide, by show _ < (1073741824 : Int); decide⟩, ?_⟩
  refine ⟨by omega, by omega, for_w (wk_rng 0 _) (fun i σ H' => ∃ (ls : List (List Nat)) (st : Nat) (v3 v4 v5 v6 : Option V), σ = [some (.str (S l)), some (.ref t), some (.int (st : Nat)), v3, v4, v5, v6] ∧ H' t = some (.lst (strsV ls)) ∧ Same H H' ∧
      st ≤ l.length ∧ ls ++ (sc l st).1 = (sc l 0).1 ∧ (sc l st).2 = (sc l 0).2 ∧ ls.length ≤ st ∧ 7 * i ≤ st) ⟨[], 0, _, _, _, _, rfl, n2.here, n2.same, Nat.zero_le _, rfl, rfl, Nat.zero_le _, Nat.le_refl _⟩ (fun _ _ _ _ => trivial) ?_ ?_⟩
  · rintro i x σ H' hx ⟨ls, st, v3, v4, v5, v6, rfl, ht, s4, hst, e1, e2, hls, h7⟩
    obtain ⟨hi, rfl⟩ := rngV_at hx
    have done : fEnd l st = none → ∀ H4, Same H' H4 → ∀ p H5, Nw H4 p (.tup [.ref t, .int (st : Nat)]) H5 → Q (.ref p) H5 := fun he H4 s5 p H5 n5 => by
      rw [sc_none he] at e1 e2
      refine k p t H5 ((s4.trans s5).trans n5.same) ((s4.trans s5).free n5.fresh) n2.fresh ?_ ?_
      · rw [n5.keep (s5 _ _ ht), ← e1, List.append_nil]
      · rw [← e2]
        exact n5.here
    refine ⟨sz (by rw [length_S]; omega), ?_⟩
    rw [show ((st : Nat) : Int) + 6 = ((st + 6 : Nat) : Int) by omega, cut_nn, Nat.add_sub_cancel_left]
    generalize hd : (l.drop st).take 6 = hh
    have hpr : Pr hh := by rw [← hd]; exact pr_take _ (pr_drop _ hp)
    have hlen : hh.length ≤ 6 := by rw [← hd, List.length_take]; omega
    have bad : headN hh = none → fEnd l st = none := fun e => by
      unfold fEnd
      rw [hd, e]
    refine ⟨sz (by rw [length_S]; omega), ?_⟩
    refine ite2 (fun h1 => ?_) (fun h1 => ?_)
    · rw [length_S] at h1
      have h1' : hh.length < 6 := by have := dT h1; omega
      refine ⟨by show 2 ≤ sizeLine; decide, fun p H5 n5 => done (bad (if_pos (.inl h1'))) H' (Same.refl _) p H5 n5⟩
    · rw [length_S] at h1
      have h6 : hh.length = 6 := by
        have := dF h1
        omega
      have e5 : hh[5]? = some hh[5] := List.getElem?_eq_getElem (by omega)
      refine ⟨hh[5], sz (by rw [length_S]; omega), by rw [cps_S]; exact atI_nat e5, ?_⟩
      refine ite2 (fun h2 => ?_) (fun h2 => ?_)
      · have h2' : hh[5] ≠ 58 := fun e => by
          rw [e] at h2
          exact absurd h2 (by decide)
        refine ⟨by show 2 ≤ sizeLine; decide, fun p H5 n5 => done (bad (if_pos (.inr (.inl (by rw [e5]; exact fun z => h2' (Option.some.inj z)))))) H' (Same.refl _) p H5 n5⟩
      · have h58 : hh[5] = 58 := neq_lit1 lit_colon h2
        refine ⟨sz (by rw [length_S]; omega), ?_⟩
        rw [show cutS (S hh) none (some 5) = S (hh.take 5) from cut_n (b := 5)]
        generalize h5 : hh.take 5 = c5
        have l5 : c5.length = 5 := by rw [← h5, List.length_take]; omega
        have p5 : Pr c5 := by rw [← h5]; exact pr_take _ hpr
        refine fun D hD => lc_w (wk_str (S c5)) (by rw [signsV_len, length_S]; omega) (fun i acc H3 => Same H' H3 ∧ acc = ((c5.take i).filter fun c => !isdig c).map signV) (fun H3 n3 => ⟨n3.same, rfl⟩) (fun _ _ _ _ => trivial)
          (fun i acc H3 p => by rw [p.2, List.length_map]; exact Nat.le_trans (List.length_filter_le _ _) (by rw [List.length_take]; omega)) ?_ ?_
        · rintro i x acc H3 hx hD3 ⟨s3, rfl⟩
          obtain ⟨c, hc, rfl⟩ := signsV_at hx
          rw [cps_S] at hc
          have step : (c5.take (i + 1)).filter (fun c => !isdig c) = (c5.take i).filter (fun c => !isdig c) ++ (if isdig c then [] else [c]) := by
            rw [List.take_add_one, hc, List.filter_append]
            cases e : isdig c <;> simp [e]
          refine ⟨rfl, ?_⟩
          refine ⟨c, rfl, ?_⟩
          rw [dig_in, step]
          cases e : isdig c with
          | true => exact ⟨hD3, s3, by simp⟩
          | false => exact ⟨hD3, fun H5 w5 => ⟨s3.wr hD w5, by simp⟩⟩
        · rintro acc H3 _ hD3 ⟨s3, rfl⟩
          rw [signsV_len, length_S, List.take_length] at hD3
          generalize hf : c5.filter (fun c => !isdig c) = bads at hD3
          have pf : ∀ m ∈ bads.map (fun c => [c]), Pr m := fun m hm => by
            obtain ⟨c, hc, rfl⟩ := List.mem_map.mp hm
            rw [← hf] at hc
            exact pr_one (p5 c (List.mem_filter.mp hc).1)
          rw [signs_strs] at hD3
          refine ⟨Nat.zero_le _, fun p H4 n4 => ?_⟩
          refine ⟨_, _, dp_strs (SqL.of (n4.keep hD3)), dp_strs (ls := []) (SqL.of n4.here), shaped_strs pf, shaped_strs (fun _ z => by cases z), ?_⟩
          rw [show PyData.eqv (strsD (bads.map fun c => [c])) (strsD []) = bads.isEmpty by
            unfold strsD
            rw [List.map_nil, eqv_nil]
            cases bads <;> rfl]
          have s34 := s3.trans n4.same
          have dg : digs c5 = bads.isEmpty := by
            rw [← hf]
            exact digs_filter c5
          rw [← dg]
          cases h3 : digs c5 with
          | false =>
            refine ⟨by show 2 ≤ sizeLine; decide, fun p H5 n5 => done (bad (if_pos (.inr (.inr (by rw [h5]; exact h3))))) H4 s34 p H5 n5⟩
          | true =>
            have hN : headN hh = some (PySem.NumText.digitsVal c5) := by
              unfold headN
              rw [if_neg, h5]
              rintro (z | z | z)
              · omega
              · rw [e5, h58] at z
                exact z rfl
              · rw [h5, h3] at z
                cases z
            have hv : PySem.NumText.digitsVal c5 < 100000 := by
              have := digitsVal_lt c5 h3
              rw [l5] at this
              omega
            refine ⟨sz (by rw [length_S]; omega), ?_⟩
            rw [show cutS (S hh) none (some 5) = S (hh.take 5) from cut_n (b := 5), h5]
            refine ⟨_, intText_head l5 h3, by rw [length_S]; omega, ?_⟩
            generalize hn : PySem.NumText.digitsVal c5 = n at hN hv
            refine ⟨sz (by rw [length_S]; omega), ?_⟩
            rw [show ((st : Nat) : Int) + 6 + ((n : Nat) : Int) = ((st + 6 + n : Nat) : Int) by omega, show ((st + 6 + n : Nat) : Int) + 1 = ((st + 6 + n + 1 : Nat) : Int) by omega, cut_nn, Nat.add_sub_cancel_left]
            have z : fEnd l st = if n ≤ 80000 ∧ (l.drop (st + 6 + n)).take 1 = [59] then some (st + 6 + n + 1) else none := by
              unfold fEnd
              rw [hd, hN]
            refine ite2 (fun h6 => ?_) (fun h6 => ?_)
            · refine ⟨by show 2 ≤ sizeLine; decide, fun p H5 n5 => done ?_ H4 s34 p H5 n5⟩
              rw [z, if_neg]
              rintro ⟨_, w⟩
              rw [w, lit_semi] at h6
              exact absurd h6 (by decide)
            · have h59 := neq_lit lit_semi h6
              have t1 := take1 h59
              rw [if_pos ⟨by omega, h59⟩] at z
              have bd := fEnd_bounds z
              rw [sc_some z] at e1 e2
              refine ⟨⟨_, SqL.of (s34 _ _ ht)⟩, ?_⟩
              refine ⟨sz (by rw [length_S]; omega), ?_⟩
              rw [show ((st : Nat) : Int) + 6 = ((st + 6 : Nat) : Int) by omega, cut_nn]
              refine ⟨_, s34 _ _ ht, szlt (by rw [strsV_len]; omega), fun H5 w5 => ?_⟩
              refine ⟨ls ++ [(l.drop (st + 6)).take (st + 6 + n - (st + 6))], st + 6 + n + 1, _, _, _, _, rfl, ?_, (s4.trans s34).wr n2.fresh w5, bd.2, ?_, e2, ?_, ?_⟩
              · rw [strsV_app]
                exact w5.here
              · rw [List.append_assoc]
                exact e1
              · rw [List.length_append, List.length_singleton]
                omega
              · omega
  · rintro σ H' ⟨ls, st, v3, v4, v5, v6, rfl, ht, s4, hst, e1, e2, hls, h7⟩
    rw [rngV_len] at h7
    omega

/-! ### is_whole(value), level 3 -/
abbrev s_is_whole : Stmt := top 15
abbrev N_is_whole : List Str := ["value"]
theorem sc_is_whole : FnScope N_is_whole ["value"] (defScope s_is_whole) := ⟨rfl, rfl, rfl, by decide +kernel, rfl, by decide +kernel, by decide +kernel⟩
theorem ok_is_whole (T : Txt K mg) (C_frames_in : Ct P w K mg base CX0 2 "frames_in" ["text"] (sp_frames_in K)) (C_is_signs : Ct P w K mg base CX0 1 "is_signs" ["value"] (sp_is_signs K)) (D : Df K mg "is_whole" s_is_whole ["value"]) : Ct P w K mg base CX0 3 "is_whole" ["value"] (sp_is_whole K) := by
  refine ct1 D sc_is_whole fun f cdv A outer s H a_value Q E hr h => ⟨_, (pss_one (ps_ret (pe_andZ (pe_cl C_is_signs (hr.mono (by decide)) pass0 (pa_cons (pz 0) pa_nil)) (pe_one (pe_cmpR (k_eq K hr.units) (pe_ix (k_ix K) (pe_cl C_frames_in (hr.mono (by decide)) pass0 (pa_cons (pz 0) pa_nil)) pe_int (fun _ _ => rfl)) (pe_callB (k_len K) (by rfl) T.n_len bt_len (pa_cons (pz 0) pa_nil)) (nomark _)))))), ?_⟩
  obtain ⟨l, rfl, hp, hl, k⟩ := h
  refine ⟨l, rfl, hp, ?_⟩
  refine ⟨l, rfl, hp, hl, fun p q H2 s2 fp fq h2 h2p => ?_⟩
  refine ⟨_, _, .inr (SqT.of h2p), rfl, ?_⟩
  refine ⟨sz (by rw [length_S]; omega), ?_⟩
  rw [length_S]
  have e : (false ^^ decide (V.int ((sc l 0).2 : Nat) = V.int (l.length : Nat))) = decide ((sc l 0).2 = l.length) := by
    by_cases z : (sc l 0).2 = l.length
    · rw [z, decide_eq_true rfl, decide_eq_true rfl]
      rfl
    · rw [decide_eq_false z, decide_eq_false fun w => z (by have := V.int.inj w; omega)]
      rfl
  show Q (.bl (false ^^ decide (V.int ((sc l 0).2 : Nat) = V.int (l.length : Nat)))) H2
  rw [e]
  exact k H2 s2

/-! ### _law_reads_right(_law_row), level 4 -/
abbrev s__law_reads_right : Stmt := top 27
abbrev N__law_reads_right : List Str := ["_law_row", "_law_due", "_law_told", "_law_whole"]
theorem sc__law_reads_right : FnScope N__law_reads_right ["_law_row"] (defScope s__law_reads_right) := ⟨rfl, rfl, rfl, by decide +kernel, rfl, by decide +kernel, by decide +kernel⟩
theorem ok__law_reads_right (T : Txt K mg) (C_frames_in : Ct P w K mg base CX0 2 "frames_in" ["text"] (sp_frames_in K)) (C__law_read : Ct P w K mg base CX0 1 "_law_read" ["_law_row"] (sp__law_read K)) (C_is_whole : Ct P w K mg base CX0 3 "is_whole" ["value"] (sp_is_whole K)) (K_is_whole : CtK P w K mg base CX0 3 "is_whole" ["value"] ["value"] perm_0 (sp_is_whole K)) (K_frames_in : CtK P w K mg base CX0 2 "frames_in" ["text"] ["text"] perm_0 (sp_frames_in K)) (D : Df K mg "_law_reads_right" s__law_reads_right ["_law_row"]) : Ct P w K mg base CX0 4 "_law_reads_right" ["_law_row"] (sp__law_reads_right K) := by
  refine ct1 D sc__law_reads_right fun f cdv A outer s H a_row Q E hr h => ⟨_, (pss_cons (ps_parZ (i := 1) (j := 2) (by rfl) sc__law_reads_right.nd rfl rfl (by decide) rfl rfl (pa_cons (pe_cl C__law_read (hr.mono (by decide)) pass0 (pa_cons (pz 0) pa_nil)) (pa_cons (pe_cl C_frames_in (hr.mono (by decide)) pass0 (pa_cons (pz 0) pa_nil)) pa_nil)) (by rfl))
    (pss_cons (ps_if (PW.pt (pw_or (pt_not (pt_trK K (pe_callB (k_isi K) (by rfl) T.n_isinstance bt_isinstance (pa_cons (pz 2) (pa_cons (pe_bltn (v := .ty "tuple") (by rfl) T.n_tuple bt_tuple rfl) pa_nil))))) (pw_or1 (pt_not (pt_trK K (pe_callB (k_isi K) (by rfl) T.n_isinstance bt_isinstance (pa_cons (pe_ix (k_ix K) (pz 2) pe_int (fun _ _ => rfl)) (pa_cons (pe_bltn (v := .ty "list") (by rfl) T.n_list bt_list rfl) pa_nil)))))))) 
      (pss_one (ps_ret pe_bl)) pss_nil)
    (pss_cons (ps_if (PW.pt (pw_or (pt_not (pt_trK K (pe_callB (k_isi K) (by rfl) T.n_isinstance bt_isinstance (pa_cons (pe_ix (k_ix K) (pz 2) pe_int (fun _ _ => rfl)) (pa_cons (pe_bltn (v := .ty "int") (by rfl) T.n_int bt_int rfl) pa_nil))))) (pw_or (pt_trK K (pe_callB (k_isi K) (by rfl) T.n_isinstance bt_isinstance (pa_cons (pe_ix (k_ix K) (pz 2) pe_int (fun _ _ => rfl)) (pa_cons (pe_bltn (v := .ty "bool") (by rfl) T.n_bool bt_bool rfl) pa_nil)))) (pw_or1 (pt_cmpZ (k_ne K hr.units) (pz 2) (pz 1) (nomark _)))))) 
      (pss_one (ps_ret pe_bl)) pss_nil)
    (pss_cons (ps_expr (pe_mlK K PySem.F.slot_list_append PySem.F.type_list_append m_append (pe_ix (k_ix K) (pz 2) pe_int (fun _ _ => rfl)) (pa_cons pe_str pa_nil)))
    (pss_cons (ps_set (i := 3) sc__law_reads_right.nd rfl (Or.inl rfl) (pe_cl C_is_whole (hr.mono (by decide)) pass0 (pa_cons (pz 0) pa_nil)))
    (pss_cons (ps_if (PW.pt (pw_and (pt_cmpZ o_isn (pz 3) pe_bl (nomark _)) (pw_and1 (pt_cmpZ o_isn (pz 3) pe_bl (nomark _))))) 
      (pss_one (ps_ret pe_bl)) pss_nil)
    (pss_one (ps_ret (pe_andZ (pe_cmpR (k_eq K hr.units) (pe_clK K_frames_in (hr.mono (by decide)) pass0 (pk_cons (pz 0) pk_nil)) (pz 1) (nomark _)) (pe_andZ (pe_cmpR (k_eq K hr.units) (pz 3) (pe_cmpR (k_eq K hr.units) (pe_ix (k_ix K) (pz 1) pe_int (fun _ _ => rfl)) (pe_callB (k_len K) (by rfl) T.n_len bt_len (pa_cons (pz 0) pa_nil)) (nomark _)) (nomark _)) (pe_one (pe_cmpR (k_eq K hr.units) (pe_clK K_is_whole (hr.mono (by decide)) pass0 (pk_cons (pz 0) pk_nil)) (pz 3) (nomark _))))))))))))), ?_⟩
  obtain ⟨l, rfl, hp, hl, k⟩ := h
  have hP : ∀ m ∈ (sc l 0).1, Pr m := sc_pr hp _ _
  have bd := sc_bounds (l := l) (i := 0) (Nat.zero_le _)
  have ew : (false ^^ decide (V.int ((sc l 0).2 : Nat) = V.int (l.length : Nat))) = decide ((sc l 0).2 = l.length) := by
    by_cases z : (sc l 0).2 = l.length
    · rw [z, decide_eq_true rfl, decide_eq_true rfl]
      rfl
    · rw [decide_eq_false z, decide_eq_false fun w => z (by have := V.int.inj w; omega)]
      rfl
  obtain ⟨n, hn⟩ : ∃ n, (sc l 0).2 = n := ⟨_, rfl⟩
  obtain ⟨ls, hL⟩ : ∃ ls, (sc l 0).1 = ls := ⟨_, rfl⟩
  rw [hn, hL] at bd
  rw [hL] at hP
  rw [hn] at ew
  obtain ⟨b, hw⟩ : ∃ b, decide (n = l.length) = b := ⟨_, rfl⟩
  rw [hw] at ew
  have dp : ∀ (H5 : Hp) (p q : Addr), H5 q = some (.lst (strsV ls)) → H5 p = some (.tup [.ref q, .int (n : Nat)]) → Dp K H5 (.ref p) (.tuple [strsD ls, .int (n : Nat)]) := fun H5 p q h1 h2 => .tup (SqT.of h2) (.cons (dp_strs (SqL.of h1)) (.cons (.int _) .nil))
  have sh : SeqAt.shaped (.tuple [strsD ls, .int (n : Nat)]) = true := shaped_pair (shaped_strs hP) (by rw [depth_strsD]; decide)
  refine ⟨l, rfl, hp, hl, fun p q H2 s2 fp fq hq hp2 => ?_⟩
  rw [hn] at hp2
  rw [hL] at hq
  refine ⟨l, rfl, hp, by omega, fun p2 q2 H3 s3 fp2 fq2 hq2 hp3 => ?_⟩
  rw [hn] at hp3
  rw [hL] at hq2
  refine ⟨by decide, "tuple", .inr (.inl ⟨rfl, _, SqT.of hp3⟩), ?_⟩
  refine ⟨_, _, .inr (SqT.of hp3), rfl, ?_⟩
  refine ⟨by decide, "list", .inl ⟨rfl, _, SqL.of hq2⟩, ?_⟩
  refine ⟨_, _, .inr (SqT.of hp3), rfl, ?_⟩
  refine ⟨by decide, "int", rfl, ?_⟩
  refine ⟨_, _, .inr (SqT.of hp3), rfl, ?_⟩
  refine ⟨by decide, "int", rfl, ?_⟩
  refine ⟨_, _, dp H3 p2 q2 hq2 hp3, dp H3 p q (s3 _ _ hq) (s3 _ _ hp2), sh, sh, ?_⟩
  rw [eqv_self sh]
  refine ⟨_, _, .inr (SqT.of hp3), rfl, ?_⟩
  refine ⟨⟨_, SqL.of hq2⟩, _, hq2, szlt (by rw [strsV_len]; omega), fun H4 w4 => ?_⟩
  have s4 : Same H2 H4 := s3.wr fq2 w4
  refine ⟨l, rfl, hp, by omega, fun H5 s5 => ?_⟩
  rw [hn, hw]
  have fin : ∀ c : Bool, c = b → tRet (tAndZ (tOp (zEq K false) (tClK perm_0 (sp_frames_in K) E0 (tCons (tV 0) tNil)) (tV 1)) (tAndZ (tOp (zEq K false) (tV 3) (tOp (zEq K false) (tOp (zIx K) (tV 1) (tC (.int 1))) (tCB (zLen K) (tCons (tV 0) tNil)))) (tOp (zEq K false) (tClK perm_0 (sp_is_whole K) E0 (tCons (tV 0) tNil)) (tV 3))))
      { nx := fun _ H' => Q .non H', rt := Q } [some (.str (S l)), some (.ref p), some (.ref p2), some (.bl c)] H5 := by
    rintro c rfl
    refine ⟨l, rfl, hp, by omega, fun p3 q3 H6 s6 fp3 fq3 hq3 hp3' => ?_⟩
    rw [hn] at hp3'
    rw [hL] at hq3
    have s46 := (s4.trans s5).trans s6
    refine ⟨_, _, dp H6 p3 q3 hq3 hp3', dp H6 p q (s46 _ _ hq) (s46 _ _ hp2), sh, sh, ?_⟩
    rw [eqv_self sh]
    refine ⟨_, _, .inr (SqT.of (s46 _ _ hp2)), rfl, ?_⟩
    refine ⟨sz (by rw [length_S]; omega), ?_⟩
    rw [length_S]
    refine iteY (c := (false ^^ decide (V.bl c = V.bl (false ^^ decide (V.int (n : Nat) = V.int (l.length : Nat)))))) (by rw [ew, decide_eq_true rfl]; rfl) ?_
    refine ⟨l, rfl, hp, by omega, fun H7 s7 => ?_⟩
    rw [hn, hw]
    show Q (.bl (false ^^ decide (V.bl c = V.bl c))) H7
    rw [decide_eq_true rfl]
    exact k H7 ((s2.trans s46).trans s7)
  cases b with
  | true => exact fin true rfl
  | false => exact fin false rfl

/-! ### law(_law_script), level 6 -/
abbrev s_law : Stmt := top 29
abbrev N_law : List Str := ["_law_script", "_law_k", "_law_box_here", "_law_texts_here", "_law_others", "_law_rows", "_law_some", "_law_tail_here", "_law_more", "_law_row"]
theorem sc_law : FnScope N_law ["_law_script"] (defScope s_law) := ⟨rfl, rfl, rfl, by decide +kernel, rfl, by decide +kernel, by decide +kernel⟩
theorem ok_law (T : Txt K mg) (C__law_box : Ct P w K mg base CX0 1 "_law_box" ["_law_great"] (sp__law_box K)) (C__law_cell : Ct P w K mg base CX0 1 "_law_cell" ["_law_script", "_law_k"] (sp__law_cell K)) (C__law_texts : Ct P w K mg base CX0 4 "_law_texts" ["_law_box_here"] (sp__law_texts K)) (C__law_frames_right : Ct P w K mg base CX0 5 "_law_frames_right" ["_law_texts_here", "_law_others"] (sp__law_frames_right K)) (C__law_tail : Ct P w K mg base CX0 4 "_law_tail" ["_law_box_here"] (sp__law_tail K)) (C__law_take : Ct P w K mg base CX0 1 "_law_take" ["_law_box_here", "_law_many"] (sp__law_take K)) (C__law_frame : Ct P w K mg base CX0 1 "_law_frame" ["_law_row"] (sp__law_frame K)) (C__law_reads_right : Ct P w K mg base CX0 4 "_law_reads_right" ["_law_row"] (sp__law_reads_right K)) (D : Df K mg "law" s_law ["_law_script"]) : Ct P w K mg base CX0 6 "law" ["_law_script"] (sp_law K) := by
  refine ct1 D sc_law fun f cdv A outer s H a_script Q E hr h => ⟨_, (pss_cons (ps_for PassesOwn.never rfl (pi_rngZ (by rfl) T.n_range (pa_cons (pe_callB (c_max rfl) (by rfl) T.n_max bt_max (pa_cons pe_int (pa_cons (pe_callB (c_min rfl) (by rfl) T.n_min bt_min (pa_cons pe_int (pa_cons (pe_callB (k_len K) (by rfl) T.n_len bt_len (pa_cons (pz 0) pa_nil)) pa_nil))) pa_nil))) pa_nil)) (pg_name (i := 1) sc_law.nd rfl (Or.inl rfl)) 
      (pss_cons (ps_set (i := 2) sc_law.nd rfl (Or.inl rfl) (pe_cl C__law_box (hr.mono (by decide)) pass0 (pa_cons (pe_cl C__law_cell (hr.mono (by decide)) pass0 (pa_cons (pz 0) (pa_cons (pz 1) pa_nil))) pa_nil)))
      (pss_cons (ps_parZ (i := 3) (j := 4) (by rfl) sc_law.nd rfl rfl (by decide) rfl rfl (pa_cons (pe_cl C__law_texts (hr.mono (by decide)) pass0 (pa_cons (pz 2) pa_nil)) (pa_cons (pe_cl C__law_texts (hr.mono (by decide)) pass0 (pa_cons (pz 2) pa_nil)) pa_nil)) (by rfl))
      (pss_cons (ps_if (PW.pt (pw_or (pt_not (pt_trK K (pe_cl C__law_frames_right (hr.mono (by decide)) pass0 (pa_cons (pz 3) (pa_cons (pz 4) pa_nil))))) (pw_or1 (pt_not (pt_trK K (pe_cl C__law_frames_right (hr.mono (by decide)) pass0 (pa_cons (pz 4) (pa_cons (pz 3) pa_nil)))))))) 
        (pss_one (ps_ret pe_bl)) pss_nil)
      (pss_cons (ps_set (i := 5) sc_law.nd rfl (Or.inl rfl) (pe_lz pa_nil))
      (pss_cons (ps_for PassesOwn.never rfl (pi_lzK K (pe_lz (pa_cons (pz 3) (pa_cons (pz 4) pa_nil)))) (pg_name (i := 6) sc_law.nd rfl (Or.inl rfl)) 
        (pss_cons (ps_set (i := 7) sc_law.nd rfl (Or.inl rfl) (pe_cl C__law_tail (hr.mono (by decide)) pass0 (pa_cons (pz 2) pa_nil)))
        (pss_cons (ps_set (i := 8) sc_law.nd rfl (Or.inl rfl) (pe_ms PySem.F.slot_str_join PySem.F.type_str_join (mk_join K) pe_str (pa_cons (pe_lcz (own := [("_law_row", 9)]) (by rfl) sc_law.nd (pi_lzK K (pe_slice (k_sl K) (pz 3) po_none (po_z (pe_cl C__law_take (hr.mono (by decide)) pass0 (pa_cons (pz 2) (pa_cons pe_int pa_nil)))))) (blkOk_by (own := [("_law_row", 9)]) (N := N_law) (sc := defScope s_law) (by decide +kernel)) (fun _ _ _ _ _ => (pg_name (i := 9) sc_law.nd rfl (Or.inl rfl))) (fun _ _ _ _ _ => pts_nil) (fun _ _ _ _ _ => (pe_cl C__law_frame (hr.mono (by decide)) pass0 (pa_cons (pz 9) pa_nil)))) pa_nil)))
        (pss_one (ps_expr (pe_mlK K PySem.F.slot_list_append PySem.F.type_list_append m_append (pz 5) (pa_cons (pe_op (k_add K) (pe_op (k_add K) (pe_ms PySem.F.slot_str_join PySem.F.type_str_join (mk_join K) pe_str (pa_cons (pe_lcz (own := [("_law_row", 9)]) (by rfl) sc_law.nd (pi_lzK K (pz 6)) (blkOk_by (own := [("_law_row", 9)]) (N := N_law) (sc := defScope s_law) (by decide +kernel)) (fun _ _ _ _ _ => (pg_name (i := 9) sc_law.nd rfl (Or.inl rfl))) (fun _ _ _ _ _ => pts_nil) (fun _ _ _ _ _ => (pe_cl C__law_frame (hr.mono (by decide)) pass0 (pa_cons (pz 9) pa_nil)))) pa_nil)) (pz 7)) (pz 8)) pa_nil)))))))
      (pss_one (ps_for PassesOwn.never rfl (pi_lzK K (pe_op (k_add K) (pe_op (k_add K) (pe_op (k_add K) (pz 5) (pe_lz (pa_cons (pe_ms PySem.F.slot_str_join PySem.F.type_str_join (mk_join K) pe_str (pa_cons (pe_lcz (own := [("_law_row", 9)]) (by rfl) sc_law.nd (pi_lzK K (pz 4)) (blkOk_by (own := [("_law_row", 9)]) (N := N_law) (sc := defScope s_law) (by decide +kernel)) (fun _ _ _ _ _ => (pg_name (i := 9) sc_law.nd rfl (Or.inl rfl))) (fun _ _ _ _ _ => pts_nil) (fun _ _ _ _ _ => (pe_cl C__law_frame (hr.mono (by decide)) pass0 (pa_cons (pz 9) pa_nil)))) pa_nil)) pa_nil))) (pe_slice (k_sl K) (pz 5) po_none (po_z pe_int))) (pe_lz (pa_cons pe_str pa_nil)))) (pg_name (i := 9) sc_law.nd rfl (Or.inl rfl)) 
        (pss_one (ps_if (pt_not (pt_trK K (pe_cl C__law_reads_right (hr.mono (by decide)) pass0 (pa_cons (pz 9) pa_nil)))) 
          (pss_one (ps_ret pe_bl)) pss_nil))))))))))
    (pss_one (ps_ret pe_bl))), ?_⟩
  obtain ⟨a, ns, rfl, hS, hl, k⟩ := h
  refine .inl ⟨_, .inl hS, ?_⟩
  rw [List.length_map]
  have rb : ∀ z : Int, (if (if (ns.length : Int) < 4 then (ns.length : Int) else 4) > 2 then (if (ns.length : Int) < 4 then (ns.length : Int) else 4) else 2) = z → 2 ≤ z ∧ z ≤ 4 := fun z e => by
    subst e
    split <;> split <;> omega
  generalize hz : (if (if (ns.length : Int) < 4 then (ns.length : Int) else 4) > 2 then (if (ns.length : Int) < 4 then (ns.length : Int) else 4) else 2) = z
  obtain ⟨z2, z4⟩ := rb z hz
  refine ⟨by omega, by omega, for_w (wk_rng 0 _) (fun i σ H' => Same H H' ∧ ∃ v1 v2 v3 v4 v5 v6 v7 v8 v9 : Option V, σ = [some (.ref a), v1, v2, v3, v4, v5, v6, v7, v8, v9]) ⟨Same.refl H, _, _, _, _, _, _, _, _, _, rfl⟩ (fun _ _ _ _ => trivial) ?_ (fun σ H' p => k H')⟩
  rintro i x σ H0 hx ⟨s0, v1, v2, v3, v4, v5, v6, v7, v8, v9, rfl⟩
  obtain ⟨hi, rfl⟩ := rngV_at hx
  refine ⟨a, _, ns, rfl, rfl, by omega, by omega, sqL_same s0 hS, hl, fun g H1 s1 => ?_⟩
  refine ⟨g, rfl, fun b H2 fb s2 B2 => ?_⟩
  refine ⟨b, 0, rfl, B2, by omega, fun p ls H3 fp t3 B3 hp3 lls tls => ?_⟩
  have nbp : p ≠ b := (B2.ne fp).symm
  refine ⟨b, _, rfl, B3, by omega, fun q ms H4 fq t4 B4 hq4 lms tms => ?_⟩
  have nbq : q ≠ b := (B3.ne fq).symm
  have hp4 := t4.at nbp hp3
  have s04 : Same H H4 := (s0.trans s1).trans (s2.but fb (t3.trans t4))
  have zls := fun l hl => Nat.le_trans (tls l hl).2 (by decide : 101 ≤ 80000)
  have zms := fun l hl => Nat.le_trans (tms l hl).2 (by decide : 101 ≤ 80000)
  have fls := frs_len (by decide) tls
  have fms := frs_len (by decide) tms
  refine ⟨p, q, ls, ms, rfl, rfl, hp4, hq4, lls, lms, tls, tms, fun H5 s5 => ?_⟩
  refine ⟨q, p, ms, ls, rfl, rfl, s5 _ _ hq4, s5 _ _ hp4, lms, lls, tms, tls, fun H6 s6 => ?_⟩
  refine ⟨Nat.zero_le _, fun R H7 n7 => ?_⟩
  refine ⟨by show 2 ≤ sizeLine; decide, fun L H8 n8 => ?_⟩
  have s48 : Same H4 H8 := ((s5.trans s6).trans n7.same).trans n8.same
  have B8 := B4.same s48
  have fR : H4 R = none := (s5.trans s6).free n7.fresh
  have fL : H4 L = none := ((s5.trans s6).trans n7.same).free n8.fresh
  have nRb : R ≠ b := (B4.ne fR).symm
  have nLb : L ≠ b := (B4.ne fL).symm
  have nRL : L ≠ R := (ne_of_none n7.here n8.fresh).symm
  refine ⟨⟨_, SqL.of n8.here⟩, for_w (wk_list [.ref p, .ref q]) (fun i σ H' => ∃ (w1 v6 v7 v8 v9 : Option V) (rs : List (List Nat)), σ = [some (.ref a), w1, some (.ref b), some (.ref p), some (.ref q), some (.ref R), v6, v7, v8, v9] ∧
    H' R = some (.lst (strsV rs)) ∧ rs.length = i ∧ (∀ r ∈ rs, TX 2000 r) ∧ But b H4 H' ∧ H' L = some (.lst [.ref p, .ref q]) ∧ BoxAt (400 + 100 * i) H' b) ?_ ?_ ?_ ?_⟩
  · exact ⟨_, _, _, _, _, [], rfl, n8.keep n7.here, rfl, (fun _ z => by cases z), But.of s48, n8.here, B8.mono (by omega)⟩
  · rintro i σ H' ⟨_, _, _, _, _, _, _, _, _, _, _, hL, _⟩
    exact SqL.of hL
  · rintro i x σ H9 hx ⟨w1, v6, v7, v8, v9, rs, rfl, hR, hrl, hrs, bt, hL, B9⟩
    have hi2 : i < 2 := (List.getElem?_eq_some_iff.mp hx).1
    have hp9 := bt.at nbp hp4
    have hq9 := bt.at nbq hq4
    obtain ⟨y, ys, rfl, hy, nby, lys, tys⟩ : ∃ (y : Addr) (ys : List (List Nat)), x = .ref y ∧ H9 y = some (.lst (strsV ys)) ∧ y ≠ b ∧ ys.length ≤ 7 ∧ ∀ l ∈ ys, TX 101 l := by
      match i, hi2, hx with
      | 0, _, hx => exact ⟨p, ls, (Option.some.inj hx).symm, hp9, nbp, lls, tls⟩
      | 1, _, hx => exact ⟨q, ms, (Option.some.inj hx).symm, hq9, nbq, lms, tms⟩
    refine ⟨b, _, rfl, B9, by omega, fun tl H10 t10 B10 ttl => ?_⟩
    refine ⟨b, 3, _, rfl, rfl, by decide, by decide, B10, by omega, fun r H11 t11 B11 r0 r1 => ?_⟩
    obtain ⟨j, rfl⟩ : ∃ j : Nat, r = (j : Int) := ⟨r.toNat, by omega⟩
    have hp11 := t11.at nbp (t10.at nbp hp9)
    refine .inl ⟨_, SqL.of hp11, fun c H12 n12 => ?_⟩
    have h12 := n12.here
    rw [cutV_strs] at h12
    refine ⟨⟨_, SqL.of h12⟩, fun D hD => frs_lc (by rw [List.length_take]; omega) (fun l hl => zls l (List.mem_of_mem_take hl)) (SqL.of h12) hD (fun _ => rfl) (fun _ => rfl) fun H13 h13 s13 => ?_⟩
    have fts := frs_len (ls := ls.take j) (by decide) (fun l hl => tls l (List.mem_of_mem_take hl))
    have lts : (ls.take j).length ≤ 2 := by rw [List.length_take]; omega
    refine ⟨((ls.take j).map frL).map S, .inl (SqL.of h13), joinSz _ (by omega), ?_⟩
    rw [join_flat lit_nil]
    have s11 : Same H11 H13 := n12.same.trans s13
    have hy13 := s11 _ _ (t11.at nby (t10.at nby hy))
    have hR13 := s11 _ _ (t11.at nRb (t10.at nRb hR))
    have hL13 := s11 _ _ (t11.at nLb (t10.at nLb hL))
    have B13 := B11.same s11
    refine ⟨⟨_, SqL.of hR13⟩, ?_⟩
    have fys := frs_len (by decide) tys
    refine ⟨⟨_, SqL.of hy13⟩, fun D2 hD2 => frs_lc (by omega) (fun l hl => Nat.le_trans (tys l hl).2 (by decide)) (SqL.of hy13) hD2 (fun _ => rfl) (fun _ => rfl) fun H14 h14 s14 => ?_⟩
    refine ⟨(ys.map frL).map S, .inl (SqL.of h14), joinSz _ (by omega), ?_⟩
    rw [join_flat lit_nil]
    have ltl := ttl.2
    refine ⟨sz (by rw [length_S, length_S]; omega), ?_⟩
    rw [S_cat]
    refine ⟨sz (by rw [length_S, length_S, List.length_append]; omega), ?_⟩
    rw [S_cat]
    refine ⟨_, s14 _ _ hR13, szlt (by rw [strsV_len]; omega), fun H15 w15 => ?_⟩
    have b9 : But b H4 H13 := ((bt.trans t10).trans t11).trans (But.of s11)
    refine ⟨_, _, _, _, _, rs ++ [(ys.map frL).flatten ++ tl ++ ((ls.take j).map frL).flatten], rfl, ?_, by rw [List.length_append, hrl]; rfl, fun l hl => ?_, (b9.trans (But.of s14)).wr fR w15, w15.keep nRL.symm.symm (s14 _ _ hL13), ((B13.same s14).wr nRb.symm w15).mono (by omega)⟩
    · rw [strsV_app]
      exact w15.here
    · rcases List.mem_append.mp hl with z | z
      · exact hrs l z
      · rw [List.mem_singleton.mp z]
        exact ⟨pr_app (pr_app (frs_pr fun l hl => (tys l hl).1) ttl.1) (frs_pr fun l hl => (tls l (List.mem_of_mem_take hl)).1), by rw [List.length_append, List.length_append]; omega⟩
  · rintro σ H9 ⟨w1, v6, v7, v8, v9, rs, rfl, hR, hrl, hrs, bt, hL, B9⟩
    have hrl2 : rs.length = 2 := hrl
    have hq9 := bt.at nbq hq4
    refine ⟨⟨_, SqL.of hq9⟩, fun D hD => frs_lc (by omega) zms (SqL.of hq9) hD (fun _ => rfl) (fun _ => rfl) fun H10 h10 s10 => ?_⟩
    refine ⟨(ms.map frL).map S, .inl (SqL.of h10), joinSz _ (by omega), ?_⟩
    rw [join_flat lit_nil]
    refine ⟨by show 1 ≤ sizeLine; decide, fun u H11 n11 => ?_⟩
    have hR11 := n11.keep (s10 _ _ hR)
    refine .inl ⟨_, _, hR11, n11.here, sz (by rw [strsV_len]; show _ + 1 ≤ _; omega), fun u2 H12 n12 => ?_⟩
    have hR12 := n12.keep hR11
    refine .inl ⟨_, SqL.of hR12, fun u3 H13 n13 => ?_⟩
    have h13 := n13.here
    rw [show cutV (strsV rs) none (some 1) = strsV (rs.take 1) from cutV_strs rs 1] at h13
    have h12 := n13.keep n12.here
    rw [← strsV_app] at h12
    refine .inl ⟨_, _, h12, h13, sz (by rw [strsV_len, strsV_len, List.length_append, List.length_take]; show _ + 1 + _ ≤ _; omega), fun u4 H14 n14 => ?_⟩
    refine ⟨by show 1 ≤ sizeLine; decide, fun u5 H15 n15 => ?_⟩
    refine .inl ⟨_, _, n15.keep n14.here, n15.here, sz (by rw [List.length_append, strsV_len, strsV_len, List.length_append, List.length_take]; show _ + 1 + _ + 1 ≤ _; omega), fun u6 H16 n16 => ?_⟩
    have h16 := n16.here
    rw [lit_nil, show strsV (rs ++ [(ms.map frL).flatten]) ++ strsV (rs.take 1) ++ [V.str (S [])] = strsV (rs ++ [(ms.map frL).flatten] ++ rs.take 1 ++ [[]]) by simp [strsV]] at h16
    have tall : ∀ l ∈ rs ++ [(ms.map frL).flatten] ++ rs.take 1 ++ [[]], TX 2000 l := fun l hl => by
      rcases List.mem_append.mp hl with hl | hl
      · rcases List.mem_append.mp hl with hl | hl
        · rcases List.mem_append.mp hl with hl | hl
          · exact hrs l hl
          · rw [List.mem_singleton.mp hl]
            exact ⟨frs_pr fun l hl => (tms l hl).1, by omega⟩
        · exact hrs l (List.mem_of_mem_take hl)
      · rw [List.mem_singleton.mp hl]
        exact ⟨pr_nil, Nat.zero_le _⟩
    have s9 : Same H9 H16 := ((((((s10.trans n11.same).trans n12.same).trans n13.same).trans n14.same).trans n15.same).trans n16.same)
    have fb4 : H b = none := (s0.trans s1).free fb
    have sH : Same H H16 := (s04.but fb4 bt).trans s9
    generalize rs ++ [(ms.map frL).flatten] ++ rs.take 1 ++ [[]] = all at h16 tall
    refine ⟨⟨_, SqL.of h16⟩, for_w (wk_list (strsV all)) (fun i σ H' => Same H16 H' ∧ ∃ w : Option V, σ = [some (.ref a), w1, some (.ref b), some (.ref p), some (.ref q), some (.ref R), v6, v7, v8, w]) ⟨Same.refl _, _, rfl⟩ (fun _ _ _ p => sqL_same p.1 (SqL.of h16)) ?_ ?_⟩
    · rintro i x σ H17 hx ⟨s17, w, rfl⟩
      obtain ⟨l, h1, rfl, hm⟩ := strsV_at hx
      refine ⟨l, rfl, (tall l hm).1, Nat.le_trans (tall l hm).2 (by decide), fun H18 s18 => ?_⟩
      exact ⟨s17.trans s18, _, rfl⟩
    · rintro σ H17 ⟨s17, w, rfl⟩
      exact ⟨sH.trans s17, _, _, _, _, _, _, _, _, _, rfl⟩


end
theorem law_asks {K : PySem.W.Frag} {H : Hp} {E : XK} (a : Addr) (ns : List Int) (hl : ns.length ≤ 63) (hS : SqL K H a (ns.map V.int)) : sp_law K [.ref a] H (fun v _ => v = .bl true) E := ⟨a, ns, rfl, hS, hl, fun _ => rfl⟩
theorem all_mk {l : PySem.W.OpenLaw} {w : World} {K : PySem.W.Frag} {h : Heap} {mg : Str → Option Value} {fa : Addr} (X : K.In h) (G : h.Ns mainGlobals mg) (hfa : mg "law" = some (.ref fa))
    {f18 : Addr} {od18 an18 : Option Addr} {sl18 : Array (Option Value)} {oc18 kV18 dc18 pm18 cd18 ct18 : Value}
    (a18 : PySem.W.nsIn K mainGlobals "_law_box" = some (some (.ref f18))) (l18 : K.lookup f18 = some ⟨oc18, od18, .func (PySem.W.fnOf "_law_box" "_law_box" (defArgs s__law_box) (defBody s__law_box) (defScope s__law_box) .none kV18 dc18 pm18 an18 cd18 ct18), sl18⟩) (c18 : PySem.W.codeIn K cd18 "_law_box" = true) (k18 : PySem.W.keepIn K (.ref f18) = true)
    {f17 : Addr} {od17 an17 : Option Addr} {sl17 : Array (Option Value)} {oc17 kV17 dc17 pm17 cd17 ct17 : Value}
    (a17 : PySem.W.nsIn K mainGlobals "_law_cell" = some (some (.ref f17))) (l17 : K.lookup f17 = some ⟨oc17, od17, .func (PySem.W.fnOf "_law_cell" "_law_cell" (defArgs s__law_cell) (defBody s__law_cell) (defScope s__law_cell) .none kV17 dc17 pm17 an17 cd17 ct17), sl17⟩) (c17 : PySem.W.codeIn K cd17 "_law_cell" = true) (k17 : PySem.W.keepIn K (.ref f17) = true)
    {f19 : Addr} {od19 an19 : Option Addr} {sl19 : Array (Option Value)} {oc19 kV19 dc19 pm19 cd19 ct19 : Value}
    (a19 : PySem.W.nsIn K mainGlobals "_law_take" = some (some (.ref f19))) (l19 : K.lookup f19 = some ⟨oc19, od19, .func (PySem.W.fnOf "_law_take" "_law_take" (defArgs s__law_take) (defBody s__law_take) (defScope s__law_take) .none kV19 dc19 pm19 an19 cd19 ct19), sl19⟩) (c19 : PySem.W.codeIn K cd19 "_law_take" = true) (k19 : PySem.W.keepIn K (.ref f19) = true)
    {f20 : Addr} {od20 an20 : Option Addr} {sl20 : Array (Option Value)} {oc20 kV20 dc20 pm20 cd20 ct20 : Value}
    (a20 : PySem.W.nsIn K mainGlobals "_law_sign" = some (some (.ref f20))) (l20 : K.lookup f20 = some ⟨oc20, od20, .func (PySem.W.fnOf "_law_sign" "_law_sign" (defArgs s__law_sign) (defBody s__law_sign) (defScope s__law_sign) .none kV20 dc20 pm20 an20 cd20 ct20), sl20⟩) (c20 : PySem.W.codeIn K cd20 "_law_sign" = true) (k20 : PySem.W.keepIn K (.ref f20) = true)
    {f21 : Addr} {od21 an21 : Option Addr} {sl21 : Array (Option Value)} {oc21 kV21 dc21 pm21 cd21 ct21 : Value}
    (a21 : PySem.W.nsIn K mainGlobals "_law_frame" = some (some (.ref f21))) (l21 : K.lookup f21 = some ⟨oc21, od21, .func (PySem.W.fnOf "_law_frame" "_law_frame" (defArgs s__law_frame) (defBody s__law_frame) (defScope s__law_frame) .none kV21 dc21 pm21 an21 cd21 ct21), sl21⟩) (c21 : PySem.W.codeIn K cd21 "_law_frame" = true) (k21 : PySem.W.keepIn K (.ref f21) = true)
    {f22 : Addr} {od22 an22 : Option Addr} {sl22 : Array (Option Value)} {oc22 kV22 dc22 pm22 cd22 ct22 : Value}
    (a22 : PySem.W.nsIn K mainGlobals "_law_text" = some (some (.ref f22))) (l22 : K.lookup f22 = some ⟨oc22, od22, .func (PySem.W.fnOf "_law_text" "_law_text" (defArgs s__law_text) (defBody s__law_text) (defScope s__law_text) .none kV22 dc22 pm22 an22 cd22 ct22), sl22⟩) (c22 : PySem.W.codeIn K cd22 "_law_text" = true) (k22 : PySem.W.keepIn K (.ref f22) = true)
    {f23 : Addr} {od23 an23 : Option Addr} {sl23 : Array (Option Value)} {oc23 kV23 dc23 pm23 cd23 ct23 : Value}
    (a23 : PySem.W.nsIn K mainGlobals "_law_texts" = some (some (.ref f23))) (l23 : K.lookup f23 = some ⟨oc23, od23, .func (PySem.W.fnOf "_law_texts" "_law_texts" (defArgs s__law_texts) (defBody s__law_texts) (defScope s__law_texts) .none kV23 dc23 pm23 an23 cd23 ct23), sl23⟩) (c23 : PySem.W.codeIn K cd23 "_law_texts" = true) (k23 : PySem.W.keepIn K (.ref f23) = true)
    {f5 : Addr} {od5 an5 : Option Addr} {sl5 : Array (Option Value)} {oc5 kV5 dc5 pm5 cd5 ct5 : Value}
    (a5 : PySem.W.nsIn K mainGlobals "is_signs" = some (some (.ref f5))) (l5 : K.lookup f5 = some ⟨oc5, od5, .func (PySem.W.fnOf "is_signs" "is_signs" (defArgs s_is_signs) (defBody s_is_signs) (defScope s_is_signs) .none kV5 dc5 pm5 an5 cd5 ct5), sl5⟩) (c5 : PySem.W.codeIn K cd5 "is_signs" = true) (k5 : PySem.W.keepIn K (.ref f5) = true)
    {f9 : Addr} {od9 an9 : Option Addr} {sl9 : Array (Option Value)} {oc9 kV9 dc9 pm9 cd9 ct9 : Value}
    (a9 : PySem.W.nsIn K mainGlobals "has_frame" = some (some (.ref f9))) (l9 : K.lookup f9 = some ⟨oc9, od9, .func (PySem.W.fnOf "has_frame" "has_frame" (defArgs s_has_frame) (defBody s_has_frame) (defScope s_has_frame) .none kV9 dc9 pm9 an9 cd9 ct9), sl9⟩) (c9 : PySem.W.codeIn K cd9 "has_frame" = true) (k9 : PySem.W.keepIn K (.ref f9) = true)
    {f11 : Addr} {od11 an11 : Option Addr} {sl11 : Array (Option Value)} {oc11 kV11 dc11 pm11 cd11 ct11 : Value}
    (a11 : PySem.W.nsIn K mainGlobals "framed" = some (some (.ref f11))) (l11 : K.lookup f11 = some ⟨oc11, od11, .func (PySem.W.fnOf "framed" "framed" (defArgs s_framed) (defBody s_framed) (defScope s_framed) .none kV11 dc11 pm11 an11 cd11 ct11), sl11⟩) (c11 : PySem.W.codeIn K cd11 "framed" = true) (k11 : PySem.W.keepIn K (.ref f11) = true)
    {f4 : Addr} {od4 an4 : Option Addr} {sl4 : Array (Option Value)} {oc4 kV4 dc4 pm4 cd4 ct4 : Value}
    (a4 : PySem.W.nsIn K mainGlobals "is_list" = some (some (.ref f4))) (l4 : K.lookup f4 = some ⟨oc4, od4, .func (PySem.W.fnOf "is_list" "is_list" (defArgs s_is_list) (defBody s_is_list) (defScope s_is_list) .none kV4 dc4 pm4 an4 cd4 ct4), sl4⟩) (c4 : PySem.W.codeIn K cd4 "is_list" = true) (k4 : PySem.W.keepIn K (.ref f4) = true)
    {f10 : Addr} {od10 an10 : Option Addr} {sl10 : Array (Option Value)} {oc10 kV10 dc10 pm10 cd10 ct10 : Value}
    (a10 : PySem.W.nsIn K mainGlobals "check_texts" = some (some (.ref f10))) (l10 : K.lookup f10 = some ⟨oc10, od10, .func (PySem.W.fnOf "check_texts" "check_texts" (defArgs s_check_texts) (defBody s_check_texts) (defScope s_check_texts) .none kV10 dc10 pm10 an10 cd10 ct10), sl10⟩) (c10 : PySem.W.codeIn K cd10 "check_texts" = true) (k10 : PySem.W.keepIn K (.ref f10) = true)
    {f12 : Addr} {od12 an12 : Option Addr} {sl12 : Array (Option Value)} {oc12 kV12 dc12 pm12 cd12 ct12 : Value}
    (a12 : PySem.W.nsIn K mainGlobals "all_framed" = some (some (.ref f12))) (l12 : K.lookup f12 = some ⟨oc12, od12, .func (PySem.W.fnOf "all_framed" "all_framed" (defArgs s_all_framed) (defBody s_all_framed) (defScope s_all_framed) .none kV12 dc12 pm12 an12 cd12 ct12), sl12⟩) (c12 : PySem.W.codeIn K cd12 "all_framed" = true) (k12 : PySem.W.keepIn K (.ref f12) = true)
    {f28 : Addr} {od28 an28 : Option Addr} {sl28 : Array (Option Value)} {oc28 kV28 dc28 pm28 cd28 ct28 : Value}
    (a28 : PySem.W.nsIn K mainGlobals "_law_frames_right" = some (some (.ref f28))) (l28 : K.lookup f28 = some ⟨oc28, od28, .func (PySem.W.fnOf "_law_frames_right" "_law_frames_right" (defArgs s__law_frames_right) (defBody s__law_frames_right) (defScope s__law_frames_right) .none kV28 dc28 pm28 an28 cd28 ct28), sl28⟩) (c28 : PySem.W.codeIn K cd28 "_law_frames_right" = true) (k28 : PySem.W.keepIn K (.ref f28) = true)
    {f24 : Addr} {od24 an24 : Option Addr} {sl24 : Array (Option Value)} {oc24 kV24 dc24 pm24 cd24 ct24 : Value}
    (a24 : PySem.W.nsIn K mainGlobals "_law_turned" = some (some (.ref f24))) (l24 : K.lookup f24 = some ⟨oc24, od24, .func (PySem.W.fnOf "_law_turned" "_law_turned" (defArgs s__law_turned) (defBody s__law_turned) (defScope s__law_turned) .none kV24 dc24 pm24 an24 cd24 ct24), sl24⟩) (c24 : PySem.W.codeIn K cd24 "_law_turned" = true) (k24 : PySem.W.keepIn K (.ref f24) = true)
    {f25 : Addr} {od25 an25 : Option Addr} {sl25 : Array (Option Value)} {oc25 kV25 dc25 pm25 cd25 ct25 : Value}
    (a25 : PySem.W.nsIn K mainGlobals "_law_tail" = some (some (.ref f25))) (l25 : K.lookup f25 = some ⟨oc25, od25, .func (PySem.W.fnOf "_law_tail" "_law_tail" (defArgs s__law_tail) (defBody s__law_tail) (defScope s__law_tail) .none kV25 dc25 pm25 an25 cd25 ct25), sl25⟩) (c25 : PySem.W.codeIn K cd25 "_law_tail" = true) (k25 : PySem.W.keepIn K (.ref f25) = true)
    {f13 : Addr} {od13 an13 : Option Addr} {sl13 : Array (Option Value)} {oc13 kV13 dc13 pm13 cd13 ct13 : Value}
    (a13 : PySem.W.nsIn K mainGlobals "frame_end" = some (some (.ref f13))) (l13 : K.lookup f13 = some ⟨oc13, od13, .func (PySem.W.fnOf "frame_end" "frame_end" (defArgs s_frame_end) (defBody s_frame_end) (defScope s_frame_end) .none kV13 dc13 pm13 an13 cd13 ct13), sl13⟩) (c13 : PySem.W.codeIn K cd13 "frame_end" = true) (k13 : PySem.W.keepIn K (.ref f13) = true)
    {f14 : Addr} {od14 an14 : Option Addr} {sl14 : Array (Option Value)} {oc14 kV14 dc14 pm14 cd14 ct14 : Value}
    (a14 : PySem.W.nsIn K mainGlobals "frames_in" = some (some (.ref f14))) (l14 : K.lookup f14 = some ⟨oc14, od14, .func (PySem.W.fnOf "frames_in" "frames_in" (defArgs s_frames_in) (defBody s_frames_in) (defScope s_frames_in) .none kV14 dc14 pm14 an14 cd14 ct14), sl14⟩) (c14 : PySem.W.codeIn K cd14 "frames_in" = true) (k14 : PySem.W.keepIn K (.ref f14) = true)
    {f26 : Addr} {od26 an26 : Option Addr} {sl26 : Array (Option Value)} {oc26 kV26 dc26 pm26 cd26 ct26 : Value}
    (a26 : PySem.W.nsIn K mainGlobals "_law_read" = some (some (.ref f26))) (l26 : K.lookup f26 = some ⟨oc26, od26, .func (PySem.W.fnOf "_law_read" "_law_read" (defArgs s__law_read) (defBody s__law_read) (defScope s__law_read) .none kV26 dc26 pm26 an26 cd26 ct26), sl26⟩) (c26 : PySem.W.codeIn K cd26 "_law_read" = true) (k26 : PySem.W.keepIn K (.ref f26) = true)
    {f15 : Addr} {od15 an15 : Option Addr} {sl15 : Array (Option Value)} {oc15 kV15 dc15 pm15 cd15 ct15 : Value}
    (a15 : PySem.W.nsIn K mainGlobals "is_whole" = some (some (.ref f15))) (l15 : K.lookup f15 = some ⟨oc15, od15, .func (PySem.W.fnOf "is_whole" "is_whole" (defArgs s_is_whole) (defBody s_is_whole) (defScope s_is_whole) .none kV15 dc15 pm15 an15 cd15 ct15), sl15⟩) (c15 : PySem.W.codeIn K cd15 "is_whole" = true) (k15 : PySem.W.keepIn K (.ref f15) = true)
    {f27 : Addr} {od27 an27 : Option Addr} {sl27 : Array (Option Value)} {oc27 kV27 dc27 pm27 cd27 ct27 : Value}
    (a27 : PySem.W.nsIn K mainGlobals "_law_reads_right" = some (some (.ref f27))) (l27 : K.lookup f27 = some ⟨oc27, od27, .func (PySem.W.fnOf "_law_reads_right" "_law_reads_right" (defArgs s__law_reads_right) (defBody s__law_reads_right) (defScope s__law_reads_right) .none kV27 dc27 pm27 an27 cd27 ct27), sl27⟩) (c27 : PySem.W.codeIn K cd27 "_law_reads_right" = true) (k27 : PySem.W.keepIn K (.ref f27) = true)
    {f29 : Addr} {od29 an29 : Option Addr} {sl29 : Array (Option Value)} {oc29 kV29 dc29 pm29 cd29 ct29 : Value}
    (a29 : PySem.W.nsIn K mainGlobals "law" = some (some (.ref f29))) (l29 : K.lookup f29 = some ⟨oc29, od29, .func (PySem.W.fnOf "law" "law" (defArgs s_law) (defBody s_law) (defScope s_law) .none kV29 dc29 pm29 an29 cd29 ct29), sl29⟩) (c29 : PySem.W.codeIn K cd29 "law" = true) (k29 : PySem.W.keepIn K (.ref f29) = true)
    (z_int : PySem.W.nsIn K mainGlobals "int" = some none)
    (z_abs : PySem.W.nsIn K mainGlobals "abs" = some none)
    (z_len : PySem.W.nsIn K mainGlobals "len" = some none)
    (z_sum : PySem.W.nsIn K mainGlobals "sum" = some none)
    (z_str : PySem.W.nsIn K mainGlobals "str" = some none)
    (z_range : PySem.W.nsIn K mainGlobals "range" = some none)
    (z_isinstance : PySem.W.nsIn K mainGlobals "isinstance" = some none)
    (z_tuple : PySem.W.nsIn K mainGlobals "tuple" = some none)
    (z_list : PySem.W.nsIn K mainGlobals "list" = some none)
    (z_all : PySem.W.nsIn K mainGlobals "all" = some none)
    (z_bool : PySem.W.nsIn K mainGlobals "bool" = some none)
    (z_max : PySem.W.nsIn K mainGlobals "max" = some none)
    (z_min : PySem.W.nsIn K mainGlobals "min" = some none)
    {t_MOST_SIGNS : Tok} (v_MOST_SIGNS : PySem.W.nsIn K mainGlobals "MOST_SIGNS" = some (some (.int (80000) t_MOST_SIGNS)))
    {t_FIGURES : Tok} (v_FIGURES : PySem.W.nsIn K mainGlobals "FIGURES" = some (some (.str "0123456789" t_FIGURES)))
    : ∃ fd : FuncData, (∀ (s : Shared) (v : Value), BindsTo s fd ⟨[v], []⟩ [("_law_script", v)]) ∧ ∀ base : Heap, K.In base → base.Ns mainGlobals mg → FnOk l.prog w K mg base CX0 6 fa fd ["_law_script"] (sp_law K) := by
  have hl : PySem.W.nsIn K mainGlobals "law" = some (some (.ref f29)) := a29
  have e := hfa.symm.trans (PySem.W.mg_of X G a29)
  cases e
  have T : Txt K mg := ⟨PySem.W.mg_none_of X G z_int, PySem.W.mg_none_of X G z_abs, PySem.W.mg_none_of X G z_len, PySem.W.mg_none_of X G z_sum, PySem.W.mg_none_of X G z_str, PySem.W.mg_none_of X G z_range, PySem.W.mg_none_of X G z_isinstance, PySem.W.mg_none_of X G z_tuple, PySem.W.mg_none_of X G z_list, PySem.W.mg_none_of X G z_all, PySem.W.mg_none_of X G z_bool, PySem.W.mg_none_of X G z_max, PySem.W.mg_none_of X G z_min, ⟨_, PySem.W.mg_of X G v_MOST_SIGNS, ⟨_, rfl⟩⟩, ⟨_, PySem.W.mg_of X G v_FIGURES, ⟨_, rfl⟩⟩⟩
  have D__law_box : Df K mg "_law_box" s__law_box ["_law_great"] := df_mk X G a18 l18 c18 k18 fun _ _ _ _ _ _ us hl => match us, hl with | [_], _ => rfl
  have D__law_cell : Df K mg "_law_cell" s__law_cell ["_law_script", "_law_k"] := df_mk X G a17 l17 c17 k17 fun _ _ _ _ _ _ us hl => match us, hl with | [_, _], _ => rfl
  have D__law_take : Df K mg "_law_take" s__law_take ["_law_box_here", "_law_many"] := df_mk X G a19 l19 c19 k19 fun _ _ _ _ _ _ us hl => match us, hl with | [_, _], _ => rfl
  have D__law_sign : Df K mg "_law_sign" s__law_sign ["_law_box_here", "_law_near"] := df_mk X G a20 l20 c20 k20 fun _ _ _ _ _ _ us hl => match us, hl with | [_, _], _ => rfl
  have D__law_frame : Df K mg "_law_frame" s__law_frame ["_law_row"] := df_mk X G a21 l21 c21 k21 fun _ _ _ _ _ _ us hl => match us, hl with | [_], _ => rfl
  have D__law_text : Df K mg "_law_text" s__law_text ["_law_box_here"] := df_mk X G a22 l22 c22 k22 fun _ _ _ _ _ _ us hl => match us, hl with | [_], _ => rfl
  have D__law_texts : Df K mg "_law_texts" s__law_texts ["_law_box_here"] := df_mk X G a23 l23 c23 k23 fun _ _ _ _ _ _ us hl => match us, hl with | [_], _ => rfl
  have D_is_signs : Df K mg "is_signs" s_is_signs ["value"] := df_mk X G a5 l5 c5 k5 fun _ _ _ _ _ _ us hl => match us, hl with | [_], _ => rfl
  have D_has_frame : Df K mg "has_frame" s_has_frame ["value"] := df_mk X G a9 l9 c9 k9 fun _ _ _ _ _ _ us hl => match us, hl with | [_], _ => rfl
  have D_framed : Df K mg "framed" s_framed ["text"] := df_mk X G a11 l11 c11 k11 fun _ _ _ _ _ _ us hl => match us, hl with | [_], _ => rfl
  have D_is_list : Df K mg "is_list" s_is_list ["value"] := df_mk X G a4 l4 c4 k4 fun _ _ _ _ _ _ us hl => match us, hl with | [_], _ => rfl
  have D_check_texts : Df K mg "check_texts" s_check_texts ["texts"] := df_mk X G a10 l10 c10 k10 fun _ _ _ _ _ _ us hl => match us, hl with | [_], _ => rfl
  have D_all_framed : Df K mg "all_framed" s_all_framed ["texts"] := df_mk X G a12 l12 c12 k12 fun _ _ _ _ _ _ us hl => match us, hl with | [_], _ => rfl
  have D__law_frames_right : Df K mg "_law_frames_right" s__law_frames_right ["_law_texts_here", "_law_others"] := df_mk X G a28 l28 c28 k28 fun _ _ _ _ _ _ us hl => match us, hl with | [_, _], _ => rfl
  have D__law_turned : Df K mg "_law_turned" s__law_turned ["_law_box_here", "_law_row"] := df_mk X G a24 l24 c24 k24 fun _ _ _ _ _ _ us hl => match us, hl with | [_, _], _ => rfl
  have D__law_tail : Df K mg "_law_tail" s__law_tail ["_law_box_here"] := df_mk X G a25 l25 c25 k25 fun _ _ _ _ _ _ us hl => match us, hl with | [_], _ => rfl
  have D_frame_end : Df K mg "frame_end" s_frame_end ["text", "start"] := df_mk X G a13 l13 c13 k13 fun _ _ _ _ _ _ us hl => match us, hl with | [_, _], _ => rfl
  have D_frames_in : Df K mg "frames_in" s_frames_in ["text"] := df_mk X G a14 l14 c14 k14 fun _ _ _ _ _ _ us hl => match us, hl with | [_], _ => rfl
  have D__law_read : Df K mg "_law_read" s__law_read ["_law_row"] := df_mk X G a26 l26 c26 k26 fun _ _ _ _ _ _ us hl => match us, hl with | [_], _ => rfl
  have D_is_whole : Df K mg "is_whole" s_is_whole ["value"] := df_mk X G a15 l15 c15 k15 fun _ _ _ _ _ _ us hl => match us, hl with | [_], _ => rfl
  have D__law_reads_right : Df K mg "_law_reads_right" s__law_reads_right ["_law_row"] := df_mk X G a27 l27 c27 k27 fun _ _ _ _ _ _ us hl => match us, hl with | [_], _ => rfl
  have D_law : Df K mg "law" s_law ["_law_script"] := df_mk X G a29 l29 c29 k29 fun _ _ _ _ _ _ us hl => match us, hl with | [_], _ => rfl
  refine ⟨PySem.W.fnOf "law" "law" (defArgs s_law) (defBody s_law) (defScope s_law) .none kV29 dc29 pm29 an29 cd29 ct29, fun s v => .of_eq rfl, fun base _ _ => ?_⟩
  have C__law_box : Ct l.prog w K mg base CX0 1 "_law_box" ["_law_great"] (sp__law_box K) := ok__law_box T D__law_box
  have C__law_cell : Ct l.prog w K mg base CX0 1 "_law_cell" ["_law_script", "_law_k"] (sp__law_cell K) := ok__law_cell T D__law_cell
  have C__law_take : Ct l.prog w K mg base CX0 1 "_law_take" ["_law_box_here", "_law_many"] (sp__law_take K) := ok__law_take T D__law_take
  have C__law_sign : Ct l.prog w K mg base CX0 2 "_law_sign" ["_law_box_here", "_law_near"] (sp__law_sign K) := ok__law_sign T C__law_take D__law_sign
  have C__law_frame : Ct l.prog w K mg base CX0 1 "_law_frame" ["_law_row"] (sp__law_frame K) := ok__law_frame T D__law_frame
  have C__law_text : Ct l.prog w K mg base CX0 3 "_law_text" ["_law_box_here"] (sp__law_text K) := ok__law_text T C__law_take C__law_sign C__law_frame D__law_text
  have C__law_texts : Ct l.prog w K mg base CX0 4 "_law_texts" ["_law_box_here"] (sp__law_texts K) := ok__law_texts T C__law_take C__law_text D__law_texts
  have C_is_signs : Ct l.prog w K mg base CX0 1 "is_signs" ["value"] (sp_is_signs K) := ok_is_signs T D_is_signs
  have C_has_frame : Ct l.prog w K mg base CX0 2 "has_frame" ["value"] (sp_has_frame K) := ok_has_frame T C_is_signs D_has_frame
  have C_framed : Ct l.prog w K mg base CX0 3 "framed" ["text"] (sp_framed K) := ok_framed T C_has_frame D_framed
  have C_is_list : Ct l.prog w K mg base CX0 1 "is_list" ["value"] (sp_is_list K) := ok_is_list T D_is_list
  have C_check_texts : Ct l.prog w K mg base CX0 3 "check_texts" ["texts"] (sp_check_texts K) := ok_check_texts C_is_list C_has_frame D_check_texts
  have C_all_framed : Ct l.prog w K mg base CX0 4 "all_framed" ["texts"] (sp_all_framed K) := ok_all_framed C_check_texts C_framed D_all_framed
  have K_framed : CtK l.prog w K mg base CX0 3 "framed" ["text"] ["text"] perm_0 (sp_framed K) := C_framed.kw D_framed (fun _ _ _ _ _ _ ws hl => match ws, hl with | [_], _ => rfl) perm_0_ok
  have K_all_framed : CtK l.prog w K mg base CX0 4 "all_framed" ["texts"] ["texts"] perm_0 (sp_all_framed K) := C_all_framed.kw D_all_framed (fun _ _ _ _ _ _ ws hl => match ws, hl with | [_], _ => rfl) perm_0_ok
  have C__law_frames_right : Ct l.prog w K mg base CX0 5 "_law_frames_right" ["_law_texts_here", "_law_others"] (sp__law_frames_right K) := ok__law_frames_right T C__law_frame C_framed C_all_framed K_framed K_all_framed D__law_frames_right
  have C__law_turned : Ct l.prog w K mg base CX0 3 "_law_turned" ["_law_box_here", "_law_row"] (sp__law_turned K) := ok__law_turned T C__law_take C__law_sign D__law_turned
  have C__law_tail : Ct l.prog w K mg base CX0 4 "_law_tail" ["_law_box_here"] (sp__law_tail K) := ok__law_tail T C__law_frame C__law_text C__law_take C__law_sign C__law_turned D__law_tail
  have C_frame_end : Ct l.prog w K mg base CX0 1 "frame_end" ["text", "start"] (sp_frame_end K) := ok_frame_end T D_frame_end
  have C_frames_in : Ct l.prog w K mg base CX0 2 "frames_in" ["text"] (sp_frames_in K) := ok_frames_in C_is_signs C_frame_end D_frames_in
  have C__law_read : Ct l.prog w K mg base CX0 1 "_law_read" ["_law_row"] (sp__law_read K) := ok__law_read T D__law_read
  have C_is_whole : Ct l.prog w K mg base CX0 3 "is_whole" ["value"] (sp_is_whole K) := ok_is_whole T C_frames_in C_is_signs D_is_whole
  have K_is_whole : CtK l.prog w K mg base CX0 3 "is_whole" ["value"] ["value"] perm_0 (sp_is_whole K) := C_is_whole.kw D_is_whole (fun _ _ _ _ _ _ ws hl => match ws, hl with | [_], _ => rfl) perm_0_ok
  have K_frames_in : CtK l.prog w K mg base CX0 2 "frames_in" ["text"] ["text"] perm_0 (sp_frames_in K) := C_frames_in.kw D_frames_in (fun _ _ _ _ _ _ ws hl => match ws, hl with | [_], _ => rfl) perm_0_ok
  have C__law_reads_right : Ct l.prog w K mg base CX0 4 "_law_reads_right" ["_law_row"] (sp__law_reads_right K) := ok__law_reads_right T C_frames_in C__law_read C_is_whole K_is_whole K_frames_in D__law_reads_right
  have C_law : Ct l.prog w K mg base CX0 6 "law" ["_law_script"] (sp_law K) := ok_law T C__law_box C__law_cell C__law_texts C__law_frames_right C__law_tail C__law_take C__law_frame C__law_reads_right D_law
  exact law_fn C_law hfa l29
theorem walk {l : PySem.W.OpenLaw} {q : Program} {loose : List Str} {XP : (Str → Option Value) → Heap → Prop} {YP : World → Heap → Prop} {d : DefRec} {K : Params → PySem.W.Frag} (hn : l.most = some 63) (hdf : d.params.defaults = [])
    (hY : ∀ (w : World) (h : Heap), YP w h → (K w.params).In h)
    (F : ∀ (w : World) (mg : Str → Option Value) (fa : Addr) (h : Heap), (K w.params).In h → h.Ns mainGlobals mg → mg d.name = some (.ref fa) →
      ∃ fd : FuncData, (∀ (s : Shared) (u : Value), BindsTo s fd ⟨[u], []⟩ [("_law_script", u)]) ∧ ∀ base : Heap, (K w.params).In base → base.Ns mainGlobals mg → FnOk l.prog w (K w.params) mg base CX0 6 fa fd ["_law_script"] (sp_law (K w.params))) :
    PySem.W.WalkO q loose XP YP l.row.toRowW d [] (fun f vs => PySem.call f vs) :=
  L2.walk_of (n := 63) (k := 6) (x := "_law_script") (CX := fun _ => CX0) (sp := fun w => sp_law (K w.params)) hn (by decide) hdf ⟨rfl, by decide, by decide⟩ hY F (fun _ _ a ns hl _ hS => law_asks a ns hl hS) fun _ _ _ _ _ z => z
end L09_

open PySem PySem.W PyProof.Rows in
set_option maxRecDepth 100000 in
set_option maxHeartbeats 0 in
theorem PySem.Challenge.cw_inorderonce_k09_frames_there_and_back_holds : PySem.Challenge.rw_inorderonce_k09_frames_there_and_back.Holds := by
  w_on; o_law; k_head; (case hw => w_witness2)
  k_fill
  refine L09_.walk (l := PySem.Challenge.rw_inorderonce_k09_frames_there_and_back) rfl rfl (fun w h Y => PySem.W.kIn_of Y) ?F
  case F =>
    intro w mg fa h KX G hmg
    refine' L09_.all_mk KX G hmg ?a18 ?l18 ?c18 ?k18 ?a17 ?l17 ?c17 ?k17 ?a19 ?l19 ?c19 ?k19 ?a20 ?l20 ?c20 ?k20 ?a21 ?l21 ?c21 ?k21 ?a22 ?l22 ?c22 ?k22 ?a23 ?l23 ?c23 ?k23 ?a5 ?l5 ?c5 ?k5 ?a9 ?l9 ?c9 ?k9 ?a11 ?l11 ?c11 ?k11 ?a4 ?l4 ?c4 ?k4 ?a10 ?l10 ?c10 ?k10 ?a12 ?l12 ?c12 ?k12 ?a28 ?l28 ?c28 ?k28 ?a24 ?l24 ?c24 ?k24 ?a25 ?l25 ?c25 ?k25 ?a13 ?l13 ?c13 ?k13 ?a14 ?l14 ?c14 ?k14 ?a26 ?l26 ?c26 ?k26 ?a15 ?l15 ?c15 ?k15 ?a27 ?l27 ?c27 ?k27 ?a29 ?l29 ?c29 ?k29 ?z_int ?z_abs ?z_len ?z_sum ?z_str ?z_range ?z_isinstance ?z_tuple ?z_list ?z_all ?z_bool ?z_max ?z_min ?v_MOST_SIGNS ?v_FIGURES
    (case a18 => k_is)
    (case l18 => k_is)
    (case c18 => k_is)
    (case k18 => k_is)
    (case a17 => k_is)
    (case l17 => k_is)
    (case c17 => k_is)
    (case k17 => k_is)
    (case a19 => k_is)
    (case l19 => k_is)
    (case c19 => k_is)
    (case k19 => k_is)
    (case a20 => k_is)
    (case l20 => k_is)
    (case c20 => k_is)
    (case k20 => k_is)
    (case a21 => k_is)
    (case l21 => k_is)
    (case c21 => k_is)
    (case k21 => k_is)
    (case a22 => k_is)
    (case l22 => k_is)
    (case c22 => k_is)
    (case k22 => k_is)
    (case a23 => k_is)
    (case l23 => k_is)
    (case c23 => k_is)
    (case k23 => k_is)
    (case a5 => k_is)
    (case l5 => k_is)
    (case c5 => k_is)
    (case k5 => k_is)
    (case a9 => k_is)
    (case l9 => k_is)
    (case c9 => k_is)
    (case k9 => k_is)
    (case a11 => k_is)
    (case l11 => k_is)
    (case c11 => k_is)
    (case k11 => k_is)
    (case a4 => k_is)
    (case l4 => k_is)
    (case c4 => k_is)
    (case k4 => k_is)
    (case a10 => k_is)
    (case l10 => k_is)
    (case c10 => k_is)
    (case k10 => k_is)
    (case a12 => k_is)
    (case l12 => k_is)
    (case c12 => k_is)
    (case k12 => k_is)
    (case a28 => k_is)
    (case l28 => k_is)
    (case c28 => k_is)
    (case k28 => k_is)
    (case a24 => k_is)
    (case l24 => k_is)
    (case c24 => k_is)
    (case k24 => k_is)
    (case a25 => k_is)
    (case l25 => k_is)
    (case c25 => k_is)
    (case k25 => k_is)
    (case a13 => k_is)
    (case l13 => k_is)
    (case c13 => k_is)
    (case k13 => k_is)
    (case a14 => k_is)
    (case l14 => k_is)
    (case c14 => k_is)
    (case k14 => k_is)
    (case a26 => k_is)
    (case l26 => k_is)
    (case c26 => k_is)
    (case k26 => k_is)
    (case a15 => k_is)
    (case l15 => k_is)
    (case c15 => k_is)
    (case k15 => k_is)
    (case a27 => k_is)
    (case l27 => k_is)
    (case c27 => k_is)
    (case k27 => k_is)
    (case a29 => k_is)
    (case l29 => k_is)
    (case c29 => k_is)
    (case k29 => k_is)
    (case z_int => k_is)
    (case z_abs => k_is)
    (case z_len => k_is)
    (case z_sum => k_is)
    (case z_str => k_is)
    (case z_range => k_is)
    (case z_isinstance => k_is)
    (case z_tuple => k_is)
    (case z_list => k_is)
    (case z_all => k_is)
    (case z_bool => k_is)
    (case z_max => k_is)
    (case z_min => k_is)
    (case v_MOST_SIGNS => k_is)
    (case v_FIGURES => k_is)

