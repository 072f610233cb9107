import PyProof.Rows.All
import Wide.All
import OpenK.AllK
import Wide.FinOn
import HandS.ForMost
import HandS.IsInst
import HandS.StrMore
import HandS.TupAny
import HandS.TupLe
import HandS.Conv
import HandS.Codes
import PySem.Challenge.RW_inorderonce_k11_frames_cut_anywhere
set_option Elab.async false
set_option linter.all false
set_option maxRecDepth 100000
set_option maxHeartbeats 8000000
/-! Z: own layer over the hand layer: readings that compute. -/
namespace Z
open PySem PySem.Spec PyProof.Rows L2

/-! ### heaps -/
/-- H2 is H with a new object at p -/
structure Nw (H : Hp) (p : Addr) (o : HO) (H2 : Hp) : Prop where
  fresh : H p = none
  here : H2 p = some o
  off : ∀ a, a ≠ p → H2 a = H a
/-- H2 is H with another object at l -/
structure Wr (H : Hp) (l : Addr) (o : HO) (H2 : Hp) : Prop where
  here : H2 l = some o
  off : ∀ a, a ≠ l → H2 a = H a
/-- all that was tracked is there, but for b -/
def But (b : Addr) (H H2 : Hp) : Prop := ∀ a o, a ≠ b → H a = some o → H2 a = some o
theorem nw {H : Hp} {p : Addr} {o : HO} (h : H p = none) : Nw H p o (upd H p o) := ⟨h, upd_same, fun _ e => upd_ne e⟩
theorem wr {H : Hp} {p : Addr} {o : HO} : Wr H p o (upd H p o) := ⟨upd_same, fun _ e => upd_ne e⟩
theorem Nw.keep {H H2 : Hp} {p a : Addr} {o u : HO} (n : Nw H p o H2) (h : H a = some u) : H2 a = some u := by
  rw [n.off a (ne_of_none h n.fresh)]
  exact h
theorem Nw.same {H H2 : Hp} {p : Addr} {o : HO} (n : Nw H p o H2) : Same H H2 := fun _ _ h => n.keep h
theorem Wr.keep {H H2 : Hp} {l a : Addr} {o u : HO} (n : Wr H l o H2) (e : a ≠ l) (h : H a = some u) : H2 a = some u := by
  rw [n.off a e]
  exact h
theorem Wr.but {H H2 : Hp} {l : Addr} {o : HO} (n : Wr H l o H2) : But l H H2 := fun a _ e h => n.keep e h
theorem Nw.but {H H2 : Hp} {p b : Addr} {o : HO} (n : Nw H p o H2) : But b H H2 := fun _ _ _ h => n.keep h
theorem But.refl (b : Addr) (H : Hp) : But b H H := fun _ _ _ h => h
theorem But.trans {b : Addr} {H H1 H2 : Hp} (x : But b H H1) (y : But b H1 H2) : But b H H2 := fun a o e h => y a o e (x a o e h)
theorem But.of {b : Addr} {H H1 : Hp} (x : Same H H1) : But b H H1 := fun a o _ h => x a o h
theorem But.at {b a : Addr} {o : HO} {H H1 : Hp} (x : But b H H1) (e : a ≠ b) (h : H a = some o) : H1 a = some o := x a o e h
/-- what was new to H and written later: H is kept -/
theorem _root_.L2.Same.wr {H H1 H2 : Hp} {l : Addr} {o : HO} (x : Same H H1) (f : H l = none) (w : Wr H1 l o H2) : Same H H2 := fun a u h =>
  w.keep (ne_of_none h f) (x a u h)
theorem _root_.L2.Same.but {H H1 H2 : Hp} {l : Addr} (x : Same H H1) (f : H l = none) (w : But l H1 H2) : Same H H2 := fun a u h =>
  w a u (ne_of_none h f) (x a u h)
theorem But.butNew {b l : Addr} {H H1 H2 : Hp} (x : But b H H1) (f : H l = none) (w : But l H1 H2) (hb : H b ≠ none → True) : But b H H2 := fun a u e h =>
  w a u (ne_of_none h f) (x a u e h)
theorem But.wr {b l : Addr} {o : HO} {H H1 H2 : Hp} (x : But b H H1) (f : H l = none) (w : Wr H1 l o H2) : But b H H2 := fun a u e h => w.keep (ne_of_none h f) (x a u e h)
theorem But.nw {b l : Addr} {o : HO} {H H1 H2 : Hp} (x : But b H H1) (w : Nw H1 l o H2) : But b H H2 := fun a u e h => w.keep (x a u e h)
theorem But.free {b l : Addr} {H H1 : Hp} (x : But b H H1) (e : l ≠ b) (f : H1 l = none) : H l = none := by
  cases q : H l with
  | none => rfl
  | some o =>
    rw [x l o e q] at f
    cases f
theorem sz {n : Nat} (h : n ≤ 16000000) : n ≤ sizeLine := Nat.le_trans h (by decide)
theorem szlt {n : Nat} (h : n ≤ 16000000) : n < sizeLine := Nat.lt_of_le_of_lt h (by decide)
theorem free_of {H H1 : Hp} {l : Addr} (x : Same H H1) (f : H1 l = none) : H l = none := x.free f

/-- the same of lists and tuples that are read -/
theorem sqL_same {K : PySem.W.Frag} {H H' : Hp} {a : Addr} {xs : List V} (e : Same H H') (h : SqL K H a xs) : SqL K H' a xs := e.seq h
theorem sqT_same {K : PySem.W.Frag} {H H' : Hp} {a : Addr} {xs : List V} (e : Same H H') (h : SqT K H a xs) : SqT K H' a xs := by
  rcases h with (h | ⟨o, h⟩) | h
  · exact .inl (.inl (e _ _ h))
  · exact .inl (.inr ⟨o, e _ _ h⟩)
  · exact .inr h

/-! ### names -/
def tV (i : Nat) : TE := fun σ H Q => match σ[i]? with
  | some (some v) => Q v H
  | _ => False
theorem tV_of {i : Nat} {σ : L2.St} {H : Hp} {Q : VK} (h : tV i σ H Q) : tVar i σ H Q := by
  unfold tV at h
  split at h
  · exact ⟨_, by assumption, h⟩
  · exact h.elim
section
variable {X : Cx}
theorem pz (i : Nat) {x : Str} {pos : Pos} (hN : X.N[i]? = some x := by rfl) (hv : Vis X.env.scope x := by first | exact Or.inl rfl | exact Or.inr (Or.inl rfl) | exact Or.inr (Or.inr rfl)) (hd : (x == ("__debug__" : Str)) = false := by decide)
    (hcd : (x == ("__classdict__" : Str)) = false := by decide) : PE X (.Name x pos) (tV i) :=
  ⟨fun pins s σ H Q I h => (pe_var hN hv hd hcd).run pins s σ H Q I (tV_of h)⟩
end

/-! ### operators on values, that compute -/
def zI (g : Int → Int → V) : R2 := fun x y H Q => match x, y with
  | .int i, .int j => Q (g i j) H
  | _, _ => False
def zIC (C : Int → Int → Prop) (g : Int → Int → V) : R2 := fun x y H Q => match x, y with
  | .int i, .int j => C i j ∧ Q (g i j) H
  | _, _ => False
theorem opr_w {X : Cx} {f : Value → Value → Sem Value} {r r' : R2} (h : OpR X f r') (i : ∀ x y H Q, r x y H Q → r' x y H Q) : OpR X f r :=
  fun pins s σ H x y v u Q I rx ry q => h pins s σ H x y v u Q I rx ry (i x y H Q q)
theorem zI_of {g : Int → Int → V} (x y : V) (H : Hp) (Q : VK) (h : zI g x y H Q) : rI0 g x y H Q := by
  unfold zI at h
  split at h
  · exact ⟨_, _, rfl, rfl, h⟩
  · exact h.elim
theorem zIC_of {C : Int → Int → Prop} {g : Int → Int → V} (x y : V) (H : Hp) (Q : VK) (h : zIC C g x y H Q) : rI C g x y H Q := by
  unfold zIC at h
  split at h
  · exact ⟨_, _, rfl, rfl, h.1, h.2⟩
  · exact h.elim
section
variable {X : Cx}
theorem o_sub : OpR X (binaryOp .Sub) (zI fun i j => .int (i - j)) := opr_w op_sub fun x y H Q h => zI_of x y H Q h
theorem o_mod : OpR X (binaryOp .Mod) (zIC (fun _ j => 0 < j) fun i j => .int (i % j)) := opr_w op_mod fun x y H Q h => zIC_of x y H Q h
theorem o_fdiv : OpR X (binaryOp .FloorDiv) (zIC CDiv fun i j => .int (i / j)) := opr_w op_fdiv fun x y H Q h => zIC_of x y H Q h
theorem o_pow : OpR X (binaryOp .Pow) (zIC CPow fun i j => .int (i ^ j.toNat)) := opr_w op_pow fun x y H Q h => zIC_of x y H Q h
/-- + : ints, texts, lists, tuples -/
def zAdd (K : PySem.W.Frag) : R2 := fun x y H Q => match x, y with
  | .int i, .int j => Q (.int (i + j)) H
  | .str a, .str b => a.length + b.length ≤ sizeLine ∧ Q (.str (a ++ b)) H
  | .ref l, .ref b =>
      (∃ xs zs, H l = some (.lst xs) ∧ H b = some (.lst zs) ∧ xs.length + zs.length ≤ sizeLine ∧ ∀ p H2, Nw H p (.lst (xs ++ zs)) H2 → Q (.ref p) H2) ∨
      (∃ xs zs, SqT K H l xs ∧ SqT K H b zs ∧ xs.length + zs.length ≤ sizeLine ∧ (xs = [] → Q (.ref b) H) ∧ (xs ≠ [] → zs = [] → Q (.ref l) H) ∧
        (xs ≠ [] → zs ≠ [] → ∀ p H2, Nw H p (.tup (xs ++ zs)) H2 → Q (.ref p) H2))
  | _, _ => False
theorem o_add : OpR X (binaryOp .Add) (zAdd X.K) := by
  intro pins s σ H x y v u Q I rx ry h
  unfold zAdd at h
  split at h
  · exact op_add pins s σ H _ _ v u Q I rx ry ⟨_, _, rfl, rfl, h⟩
  · exact op_add_str pins s σ H _ _ v u Q I rx ry ⟨_, _, rfl, rfl, h.1, h.2⟩
  · rcases h with ⟨xs, zs, h1, h2, h3, q⟩ | ⟨xs, zs, h1, h2, h3, q1, q2, q3⟩
    · exact op_cat pins s σ H _ _ v u Q I rx ry ⟨_, _, xs, zs, rfl, rfl, h1, h2, h3, fun p hp => q p _ (nw hp)⟩
    · exact op_catA pins s σ H _ _ v u Q I rx ry ⟨_, _, xs, zs, rfl, rfl, h1, h2, h3, q1, q2, fun a b p hp => q3 a b p _ (nw hp)⟩
  · exact h.elim
/-- a text so many times -/
def rep (x : Str) (n : Int) : Str := ⟨(List.replicate n.toNat x.cps.toList).flatten.toArray⟩
theorem rep_fold (l : List Nat) : ∀ (n : Nat) (acc : Array Nat), (List.replicate n l.toArray).foldl (· ++ ·) acc = acc ++ (List.replicate n l).flatten.toArray
  | 0, acc => by simp
  | n + 1, acc => by
    rw [List.replicate_succ, List.foldl_cons, rep_fold l n, List.replicate_succ, List.flatten_cons]
    simp [Array.append_assoc]
/-- * : ints, a text, a list -/
def zMul : R2 := fun x y H Q => match x, y with
  | .int i, .int j => CMul i j ∧ Q (.int (i * j)) H
  | .str a, .int n => -(2 ^ 62) ≤ n ∧ n < 2 ^ 62 ∧ a.length * n.toNat ≤ 1000000 ∧ Q (.str (rep a n)) H
  | .ref l, .int k => ∃ xs, H l = some (.lst xs) ∧ -(2 ^ 63) ≤ k ∧ k < 2 ^ 63 ∧ xs.length * k.toNat ≤ sizeLine ∧ ∀ p H2, Nw H p (.lst (List.replicate k.toNat xs).flatten) H2 → Q (.ref p) H2
  | _, _ => False
theorem str_size0 {a : Str} (h : a.length = 0) : a = Str.empty := by
  obtain ⟨c⟩ := a
  have h : c.size = 0 := h
  have : c = #[] := Array.eq_empty_of_size_eq_zero h
  rw [this]
  rfl
theorem o_mul : OpR X (binaryOp .Mult) zMul := by
  intro pins s σ H x y v u Q I rx ry h
  unfold zMul at h
  split at h
  · exact op_mul pins s σ H _ _ v u Q I rx ry ⟨_, _, rfl, rfl, h.1, h.2⟩
  · rename_i a n
    obtain ⟨h1, h2, h3, q⟩ := h
    obtain ⟨t, rfl⟩ := rx
    obtain ⟨t', rfl⟩ := ry
    have two : (2 : Int) ^ 62 = 4611686018427387904 := by decide
    have two3 : (2 : Int) ^ 63 = 9223372036854775808 := by decide
    refine PySem.P.mul_str ?_ (fun hn hz => ?_) (fun hn hz => ?_) ?_
    · rw [decide_eq_false (by omega), decide_eq_false (by omega)]
      rfl
    · intro hc
      have hn1 : 1 ≤ n := by omega
      have hd : ((2 : Int) ^ 63 - 1) / n * n ≤ 2 ^ 63 - 1 := Int.ediv_mul_le _ (by omega)
      have hlt : ((2 : Int) ^ 63 - 1) < (((2 : Int) ^ 63 - 1) / n + 1) * n := Int.lt_ediv_add_one_mul_self _ (by omega)
      have hle : (((2 : Int) ^ 63 - 1) / n + 1) * n ≤ (a.length : Int) * n := Int.mul_le_mul_of_nonneg_right (by omega) (by omega)
      have hcast : ((a.length * n.toNat : Nat) : Int) = (a.length : Int) * n := by
        rw [Int.natCast_mul, Int.toNat_of_nonneg (by omega)]
      omega
    · show decide (a.length * n.toNat > sizeLine) = false
      have hs : 1000000 ≤ sizeLine := by decide
      exact decide_eq_false (by omega)
    · have fit : (rep a n).length ≤ sizeLine := by
        have e : (rep a n).length = a.length * n.toNat := by
          show ((List.replicate n.toNat a.cps.toList).flatten.toArray).size = a.length * n.toNat
          rw [List.size_toArray, List.length_flatten, List.map_replicate, List.sum_replicate_nat, Array.length_toList, Nat.mul_comm]
          rfl
        have hs : 1000000 ≤ sizeLine := by decide
        omega
      have fin : ∀ (tk : Nat) (t' : Tok), EP X pins σ Q (.str (rep a n) t') { s with toks := tk } := fun tk t' => ⟨.str (rep a n), H, I.tok tk, ⟨t', rfl⟩, q⟩
      by_cases hn : n < 1
      · have e : rep a n = Str.empty := by
          have : n.toNat = 0 := by omega
          unfold rep
          rw [this]
          rfl
        rw [if_pos hn]
        rw [e] at fin
        exact ⟨by decide, fin _ _⟩
      · rw [if_neg hn]
        by_cases hz : (n == 1 || a.length == 0) = true
        · rw [if_pos hz]
          have e : rep a n = a := by
            rw [Bool.or_eq_true] at hz
            rcases hz with hz | hz
            · have : n = 1 := by simpa using hz
              subst this
              obtain ⟨c⟩ := a
              show (⟨(List.replicate (1 : Int).toNat c.toList).flatten.toArray⟩ : Str) = ⟨c⟩
              simp
            · have e0 := str_size0 (a := a) (by simpa using hz)
              subst e0
              unfold rep
              show (⟨(List.replicate n.toNat ([] : List Nat)).flatten.toArray⟩ : Str) = Str.empty
              rw [List.flatten_replicate_nil]
              rfl
          rw [e] at fin
          exact fin s.toks t
        · rw [if_neg hz]
          have e : (⟨(List.replicate n.toNat a.cps).foldl (· ++ ·) #[]⟩ : Str) = rep a n := by
            obtain ⟨c⟩ := a
            unfold rep
            have q := rep_fold c.toList n.toNat #[]
            simp only [Array.toArray_toList] at q
            rw [q]
            simp
          rw [e]
          exact ⟨fit, fin _ _⟩
  · obtain ⟨xs, h1, h2, h3, h4, q⟩ := h
    exact op_rep pins s σ H _ _ v u Q I rx ry ⟨_, _, xs, rfl, rfl, h1, h2, h3, h4, fun p hp => q p _ (nw hp)⟩
  · exact h.elim
end

/-! ### any rule, its end carried -/
def mon (t : TE) : TE := fun σ H Q => ∃ Q0 : VK, t σ H Q0 ∧ ∀ x H1, Q0 x H1 → Q x H1
def monA (t : TA) : TA := fun σ H Q => ∃ Q0 : List V → Hp → Prop, t σ H Q0 ∧ ∀ x H1, Q0 x H1 → Q x H1
def monR (r : R2) : R2 := fun x y H Q => ∃ Q0 : VK, r x y H Q0 ∧ ∀ x H1, Q0 x H1 → Q x H1
section
variable {X : Cx} {a b e o : Expr} {es rest : List Expr} {ta tb te to : TE} {t t' : TE} {pos : Pos}
theorem pe_w (h : PE X e t) (i : ∀ σ H Q, t' σ H Q → t σ H Q) : PE X e t' := ⟨fun pins s σ H Q I q => h.run pins s σ H Q I (i σ H Q q)⟩
theorem pt_w {t t' : TT} (h : PT X e t) (i : ∀ σ H Q, t' σ H Q → t σ H Q) : PT X e t' := ⟨fun pins s σ H Q I q => h.run pins s σ H Q I (i σ H Q q)⟩
theorem po_w {e : Option Expr} {t t' : TO} (h : PO X e t) (i : ∀ σ H Q, t' σ H Q → t σ H Q) : PO X e t' := ⟨fun pins s σ H Q I q => h.run pins s σ H Q I (i σ H Q q)⟩
theorem ps_w {st : Stmt} {t t' : TS} (h : PS X st t) (i : ∀ D σ H, t' D σ H → t D σ H) : PS X st t' := ⟨fun pins s σ H D I q => h.run pins s σ H D I (i D σ H q)⟩
theorem pg_w {g : Expr} {t t' : TG} (h : PG X g t) (i : ∀ v σ H Q, t' v σ H Q → t v σ H Q) : PG X g t' := ⟨fun pins s σ H v u Q I r q => h.run pins s σ H v u Q I r (i v σ H Q q)⟩
theorem pi_w {g e : Expr} {t t' : TI} (h : PI X g e t) (i : ∀ σ H R, t' σ H R → t σ H R) : PI X g e t' := ⟨fun pins s σ H R I q => h.run pins s σ H R I (i σ H R q)⟩
theorem callr_w {f : Value} {r r' : List V → Hp → VK → Prop} (h : CallR X f r') (i : ∀ vs H Q, r vs H Q → r' vs H Q) : CallR X f r :=
  fun pins s σ H xs us Q I rs q => h pins s σ H xs us Q I rs (i xs H Q q)
theorem pe_mon (h : PE X e t) : PE X e (mon t) := ⟨fun pins s σ H Q I ⟨Q0, q, i⟩ => thn (h.run pins s σ H Q0 I q) fun u s' ⟨v, H', I', r, z⟩ => ⟨v, H', I', r, i v H' z⟩⟩
theorem pa_mon {t : TA} (h : PA X es t) : PA X es (monA t) := ⟨fun pos pins s σ H Q I ⟨Q0, q, i⟩ => thn (h.run pos pins s σ H Q0 I q) fun u s' ⟨v, H', I', r, z⟩ => ⟨v, H', I', r, i v H' z⟩⟩
theorem opr_mon {f : Value → Value → Sem Value} {r : R2} (h : OpR X f r) : OpR X f (monR r) := fun pins s σ H x y v u Q I rx ry ⟨Q0, q, i⟩ =>
  thn (h pins s σ H x y v u Q0 I rx ry q) fun u s' ⟨v, H', I', r, z⟩ => ⟨v, H', I', r, i v H' z⟩

/-! ### tests and bools -/
/-- what follows of a bool -/
def zB (x : V) (H : Hp) (Q : Bool → Hp → Prop) : Prop := match x with
  | .bl k => Q k H
  | _ => False
theorem zB_of {x : V} {H : Hp} {Q : Bool → Hp → Prop} (h : zB x H Q) : ∃ k, x = .bl k ∧ Q k H := by
  unfold zB at h
  split at h
  · exact ⟨_, rfl, h⟩
  · exact h.elim
def tBz (t : TE) : TT := fun σ H Q => t σ H fun x H1 => zB x H1 Q
theorem pt_cmpZ {op : CmpOp} {r : R2} (ho : OpR X (compareOp op) r) (ha : PE X a ta) (hb : PE X b tb) (hm : behindInMarks op b = false) : PT X (.Compare a [op] [b] pos) (tBz (tOp r ta tb)) :=
  pt_w (pt_cmpR (opr_mon ho) (pe_mon ha) (pe_mon hb) hm) fun σ H Q h => ⟨_, h, fun x H1 h1 => ⟨_, h1, fun y H2 h2 => ⟨_, h2, fun z H3 h3 => zB_of h3⟩⟩⟩
theorem pt_chainZ {c : Expr} {tc : TE} {op op' : CmpOp} {r r' : R2} (h : PE X (.Compare a [op, op'] [b, c] pos) t) (he : ∀ whole, isTrue (.Compare a [op, op'] [b, c] pos) X.env whole = (do let v ← whole; standAt (Expr.Compare a [op, op'] [b, c] pos).pos; holding [v] (truthy v)) := by intro _; rfl) :
    PT X (.Compare a [op, op'] [b, c] pos) (tBz t) := pt_w (pt_val (pe_mon h) he) fun σ H Q h => ⟨_, h, fun x H1 h1 => zB_of h1⟩
/-- a < b < c as a value -/
def tChZ (r r' : R2) (ta tb tc : TE) : TE := fun σ H Q => ta σ H fun x H1 => tb σ H1 fun y H2 => r x y H2 fun z H3 => zB z H3 fun k H3 => if k = true then tc σ H3 fun w' H4 => r' y w' H4 Q else Q (.bl false) H3
theorem pe_chZ {c : Expr} {tc : TE} {op op' : CmpOp} {r r' : R2} (h : PE X (.Compare a [op, op'] [b, c] pos) (tChain (monR r) r' (mon ta) (mon tb) tc)) : PE X (.Compare a [op, op'] [b, c] pos) (tChZ r r' ta tb tc) :=
  pe_w h fun σ H Q h => ⟨_, h, fun x H1 h1 => ⟨_, h1, fun y H2 h2 => ⟨_, h2, fun z H3 h3 => zB_of h3⟩⟩⟩
/-- an expression's truth -/
def zTr (K : PySem.W.Frag) (x : V) (H : Hp) (Q : Bool → Hp → Prop) : Prop := match x with
  | .bl k => Q k H
  | .non => Q false H
  | .int i => Q (i != 0) H
  | .str y => y.length ≤ sizeLine ∧ Q ((y.length : Int) != 0) H
  | .ref p => (∃ xs, SqL K H p xs ∧ Q (!xs.isEmpty) H) ∨ (∃ xs, SqT K H p xs ∧ Q (!xs.isEmpty) H) ∨ ∃ kvs, H p = some (.dK kvs) ∧ Q (!kvs.isEmpty) H
  | _ => False
theorem zTr_of {K : PySem.W.Frag} {x : V} {H : Hp} {Q : Bool → Hp → Prop} (h : zTr K x H Q) : ∃ k, TruV K x H k ∧ Q k H := by
  unfold zTr at h
  split at h
  · exact ⟨_, rfl, h⟩
  · exact ⟨_, rfl, h⟩
  · exact ⟨_, rfl, h⟩
  · exact ⟨_, ⟨h.1, rfl⟩, h.2⟩
  · rcases h with ⟨xs, h, q⟩ | ⟨xs, h, q⟩ | ⟨kvs, h, q⟩
    · exact ⟨_, .inl ⟨xs, h, rfl⟩, q⟩
    · exact ⟨_, .inr (.inl ⟨xs, h, rfl⟩), q⟩
    · exact ⟨_, .inr (.inr ⟨kvs, h, rfl⟩), q⟩
  · exact h.elim
def tTr (K : PySem.W.Frag) (t : TE) : TT := fun σ H Q => t σ H fun x H1 => zTr K x H1 Q
theorem pt_tr (h : PE X a ta) (he : ∀ whole, isTrue a X.env whole = (do let v ← whole; standAt a.pos; holding [v] (truthy v)) := by intro _; rfl) : PT X a (tTr X.K ta) :=
  pt_w (pt_truth (pe_mon h) he) fun σ H Q h => ⟨_, h, fun x H1 h1 => zTr_of h1⟩
/-- and, or, not as values of bools -/
def tAndZ (ta tb : TE) : TE := fun σ H Q => ta σ H fun x H1 => zB x H1 fun c H1 => if c = true then tb σ H1 Q else Q (.bl false) H1
def tOrZ (ta tb : TE) : TE := fun σ H Q => ta σ H fun x H1 => zB x H1 fun c H1 => if c = true then Q (.bl true) H1 else tb σ H1 Q
def tNotZ (ta : TE) : TE := fun σ H Q => ta σ H fun x H1 => zB x H1 fun c H1 => Q (.bl (!c)) H1
theorem pe_andZ (ha : PE X a ta) (hb : PE X (.BoolOp .And (b :: rest) pos) tb) : PE X (.BoolOp .And (a :: b :: rest) pos) (tAndZ ta tb) :=
  pe_w (pe_and (pe_mon ha) hb) fun σ H Q h => ⟨_, h, fun x H1 h1 => zB_of h1⟩
theorem pe_orZ (ha : PE X a ta) (hb : PE X (.BoolOp .Or (b :: rest) pos) tb) : PE X (.BoolOp .Or (a :: b :: rest) pos) (tOrZ ta tb) :=
  pe_w (pe_or (pe_mon ha) hb) fun σ H Q h => ⟨_, h, fun x H1 h1 => zB_of h1⟩
theorem pe_notZ (ha : PE X a ta) : PE X (.UnaryOp .Not a pos) (tNotZ ta) := pe_w (pe_not (pe_mon ha)) fun σ H Q h => ⟨_, h, fun x H1 h1 => zB_of h1⟩

/-! ### comparisons -/
theorem o_lt : OpR X (compareOp .Lt) (zI fun i j => .bl (decide (i < j))) := opr_w op_lt fun x y H Q h => zI_of x y H Q h
theorem o_le : OpR X (compareOp .LtE) (zI fun i j => .bl (decide (i ≤ j))) := opr_w op_le fun x y H Q h => zI_of x y H Q h
theorem o_gt : OpR X (compareOp .Gt) (zI fun i j => .bl (decide (j < i))) := opr_w op_gt fun x y H Q h => zI_of x y H Q h
theorem o_ge : OpR X (compareOp .GtE) (zI fun i j => .bl (decide (j ≤ i))) := opr_w op_ge fun x y H Q h => zI_of x y H Q h
/-- < of two signs or ints -/
def zLt : R2 := fun x y H Q => match x, y with
  | .int i, .int j => Q (.bl (decide (i < j))) H
  | .str a, .str b => Q (.bl (decide (a.cps.toList < b.cps.toList))) H
  | _, _ => False
def zGt : R2 := fun x y H Q => match x, y with
  | .int i, .int j => Q (.bl (decide (j < i))) H
  | .str a, .str b => Q (.bl (decide (b.cps.toList < a.cps.toList))) H
  | _, _ => False
theorem o_ltS : OpR X (compareOp .Lt) zLt := by
  intro pins s σ H x y v u Q I rx ry h
  unfold zLt at h
  split at h
  · exact op_lt pins s σ H _ _ v u Q I rx ry ⟨_, _, rfl, rfl, h⟩
  · exact op_lt_str pins s σ H _ _ v u Q I rx ry ⟨_, _, rfl, rfl, h⟩
  · exact h.elim
theorem o_gtS : OpR X (compareOp .Gt) zGt := by
  intro pins s σ H x y v u Q I rx ry h
  unfold zGt at h
  split at h
  · exact op_gt pins s σ H _ _ v u Q I rx ry ⟨_, _, rfl, rfl, h⟩
  · exact op_gt_str pins s σ H _ _ v u Q I rx ry ⟨_, _, rfl, rfl, h⟩
  · exact h.elim
/-- == of plain things, of data -/
def zEq (K : PySem.W.Frag) (neg : Bool) : R2 := fun x y H Q => match scal x y with
  | true => Q (.bl (neg ^^ decide (x = y))) H
  | false => ∃ d e, Dp K H x d ∧ Dp K H y e ∧ SeqAt.shaped d = true ∧ SeqAt.shaped e = true ∧ Q (.bl (neg ^^ PyData.eqv d e)) H
theorem o_eq (hu : X.A.units + 64 < cLine) : OpR X (compareOp .Eq) (zEq X.K false) := by
  intro pins s σ H x y v u Q I rx ry h
  unfold zEq at h
  split at h
  · rename_i e
    exact op_eq pins s σ H x y v u Q I rx ry ⟨e, by simpa using h⟩
  · exact op_eqD hu pins s σ H x y v u Q I rx ry (by simpa [rEqD] using h)
theorem o_ne (hu : X.A.units + 64 < cLine) : OpR X (compareOp .NotEq) (zEq X.K true) := by
  intro pins s σ H x y v u Q I rx ry h
  unfold zEq at h
  split at h
  · rename_i e
    exact op_ne pins s σ H x y v u Q I rx ry ⟨e, by simpa using h⟩
  · exact op_neD hu pins s σ H x y v u Q I rx ry (by simpa [rNeD] using h)
/-- is None, is True, is False -/
def zIs (neg : Bool) : R2 := fun x y H Q => match y, x with
  | .non, x => Q (.bl (neg ^^ decide (x = .non))) H
  | .bl b, .bl a => Q (.bl (neg ^^ decide (a = b))) H
  | _, _ => False
theorem o_is : OpR X (compareOp .Is) (zIs false) := by
  intro pins s σ H x y v u Q I rx ry h
  unfold zIs at h
  split at h
  · exact op_isN pins s σ H _ _ v u Q I rx ry ⟨rfl, by simpa using h⟩
  · exact op_is_bl pins s σ H _ _ v u Q I rx ry ⟨_, _, rfl, rfl, by simpa using h⟩
  · exact h.elim
theorem o_isn : OpR X (compareOp .IsNot) (zIs true) := by
  intro pins s σ H x y v u Q I rx ry h
  unfold zIs at h
  split at h
  · exact op_notN pins s σ H _ _ v u Q I rx ry ⟨rfl, by simpa using h⟩
  · exact op_isnot_bl pins s σ H _ _ v u Q I rx ry ⟨_, _, rfl, rfl, by simpa using h⟩
  · exact h.elim
/-- in, not in: a sign in a text, a flat thing in a list or tuple -/
def zIn (K : PySem.W.Frag) (neg : Bool) : R2 := fun x y H Q => match y with
  | .str z => ∃ c : Nat, x = .str ⟨#[c]⟩ ∧ Q (.bl (neg ^^ decide (c ∈ z.cps.toList))) H
  | .ref p => ∃ xs, (SqL K H p xs ∨ SqT K H p xs) ∧ flatV x = true ∧ xs.all flatV = true ∧ Q (.bl (neg ^^ inV x xs)) H
  | _ => False
theorem o_in : OpR X (compareOp .In) (zIn X.K false) := by
  intro pins s σ H x y v u Q I rx ry h
  unfold zIn at h
  split at h
  · obtain ⟨c, rfl, q⟩ := h
    exact op_in_sign pins s σ H _ _ v u Q I rx ry ⟨c, _, rfl, rfl, by simpa using q⟩
  · obtain ⟨xs, h1, h2, h3, q⟩ := h
    exact op_in_seq pins s σ H _ _ v u Q I rx ry ⟨_, xs, rfl, h1, h2, h3, by simpa using q⟩
  · exact h.elim
theorem o_nin : OpR X (compareOp .NotIn) (zIn X.K true) := by
  intro pins s σ H x y v u Q I rx ry h
  unfold zIn at h
  split at h
  · obtain ⟨c, rfl, q⟩ := h
    exact op_notIn_sign pins s σ H _ _ v u Q I rx ry ⟨c, _, rfl, rfl, by simpa using q⟩
  · obtain ⟨xs, h1, h2, h3, q⟩ := h
    exact op_notIn_seq pins s σ H _ _ v u Q I rx ry ⟨_, xs, rfl, h1, h2, h3, by simpa using q⟩
  · exact h.elim

/-! ### items and slices -/
def zIx (K : PySem.W.Frag) : R2 := fun x y H Q => match x, y with
  | .str z, .int i => ∃ c, z.length ≤ sizeLine ∧ atI z.cps.toList i = some c ∧ Q (.str ⟨#[c]⟩) H
  | .ref p, .int i => ∃ xs v, (SqL K H p xs ∨ SqT K H p xs) ∧ atI xs i = some v ∧ Q v H
  | _, _ => False
theorem o_ix : IxR X (zIx X.K) := by
  intro value slice pins s σ H x y v u Q I rx ry h hs
  unfold zIx at h
  split at h
  · obtain ⟨c, h1, h2, q⟩ := h
    exact ix_str value slice pins s σ H _ _ v u Q I rx ry ⟨_, _, c, rfl, rfl, h1, h2, q⟩ hs
  · obtain ⟨xs, z, h1 | h1, h2, q⟩ := h
    · exact ix_list value slice pins s σ H _ _ v u Q I rx ry ⟨_, _, _, z, rfl, rfl, h1, h2, q⟩ hs
    · exact ix_tup value slice pins s σ H _ _ v u Q I rx ry ⟨_, _, _, z, rfl, rfl, h1, h2, q⟩ hs
  · exact h.elim
def zSl (K : PySem.W.Frag) : V → Option Int → Option Int → Hp → VK → Prop := fun x lo hi H Q => match x with
  | .str z => z.length ≤ sizeLine ∧ Q (.str (cutS z lo hi)) H
  | .ref a => (∃ xs, SqL K H a xs ∧ ∀ p H2, Nw H p (.lst (cutV xs lo hi)) H2 → Q (.ref p) H2) ∨
      (∃ xs, SqT K H a xs ∧ (HT.sIx xs.length 0 lo = 0 ∧ HT.sIx xs.length xs.length hi = xs.length → Q (.ref a) H) ∧
        (¬ (HT.sIx xs.length 0 lo = 0 ∧ HT.sIx xs.length xs.length hi = xs.length) → ∀ p H2, Nw H p (.tup (cutV xs lo hi)) H2 → Q (.ref p) H2))
  | _ => False
theorem o_sl : SlR X (zSl X.K) := by
  intro pins s σ H x v vl vu lo hi sl Q I rx hs pl pu h
  unfold zSl at h
  split at h
  · exact sl_str pins s σ H _ v vl vu lo hi sl Q I rx hs pl pu ⟨_, rfl, h.1, h.2⟩
  · rcases h with ⟨xs, h1, q⟩ | ⟨xs, h1, q1, q2⟩
    · exact sl_list pins s σ H _ v vl vu lo hi sl Q I rx hs pl pu ⟨_, xs, rfl, h1, fun p hp => q p _ (nw hp)⟩
    · exact sl_tupA pins s σ H _ v vl vu lo hi sl Q I rx hs pl pu ⟨_, xs, rfl, h1, q1, fun z p hp => q2 z p _ (nw hp)⟩
  · exact h.elim
def tPz (t : TE) : TO := fun σ H Q => t σ H fun x H1 => match x with
  | .int i => Q (some i) H1
  | _ => False
theorem po_z (h : PE X e te) : PO X (some e) (tPz te) := po_w (po_some (pe_mon h)) fun σ H Q h => ⟨_, h, fun x H1 h1 => by
  split at h1
  · exact ⟨_, rfl, h1⟩
  · exact h1.elim⟩

/-! ### displays -/
def tLz (t : TA) : TE := fun σ H Q => t σ H fun xs H1 => xs.length ≤ sizeLine ∧ ∀ p H2, Nw H1 p (.lst xs) H2 → Q (.ref p) H2
def tTz (t : TA) : TE := fun σ H Q => t σ H fun xs H1 => xs.length ≤ sizeLine ∧ ∀ p H2, Nw H1 p (.tup xs) H2 → Q (.ref p) H2
theorem pe_lz {t : TA} (h : PA X es t) : PE X (.List es pos) (tLz t) := pe_w (pe_lst (pa_mon h)) fun σ H Q h => ⟨_, h, fun xs H1 h1 => ⟨h1.1, fun p hp => h1.2 p _ (nw hp)⟩⟩
theorem pe_tz {t : TA} {x1} (h : PA X es t) : PE X (.Tuple es x1 pos) (tTz t) := pe_w (pe_tup (pa_mon h)) fun σ H Q h => ⟨_, h, fun xs H1 h1 => ⟨h1.1, fun p hp => h1.2 p _ (nw hp)⟩⟩

/-! ### calls of built-ins -/
def zLen (K : PySem.W.Frag) : List V → Hp → VK → Prop := fun vs H Q => match vs with
  | [.str z] => z.length ≤ sizeLine ∧ Q (.int z.length) H
  | [.ref p] => (∃ xs, (SqL K H p xs ∨ SqT K H p xs) ∧ Q (.int xs.length) H) ∨ ∃ kvs, H p = some (.dK kvs) ∧ Q (.int kvs.length) H
  | _ => False
theorem c_len : CallR X (.builtin "len") (zLen X.K) := by
  intro pins s σ H xs us Q I r h
  unfold zLen at h
  split at h
  · exact call_len_str pins s σ H _ us Q I r ⟨_, rfl, h.1, h.2⟩
  · rcases h with ⟨xs, h, q⟩ | ⟨kvs, h, q⟩
    · exact call_len_seq pins s σ H _ us Q I r ⟨_, xs, rfl, h, q⟩
    · exact call_lenD pins s σ H _ us Q I r ⟨_, kvs, rfl, h, q⟩
  · exact h.elim
def zInt : List V → Hp → VK → Prop := fun vs H Q => match vs with
  | [.int i] => Q (.int i) H
  | [.bl k] => Q (.int (if k then 1 else 0)) H
  | [.str a] => ∃ n, PySem.intText? a = some n ∧ a.length ≤ 640 ∧ Q (.int n) H
  | _ => False
theorem c_int : CallR X (.type "int") zInt := by
  intro pins s σ H xs us Q I r h
  unfold zInt at h
  split at h
  · exact call_int1 pins s σ H _ us Q I r (.inl ⟨_, rfl, h⟩)
  · exact call_int1 pins s σ H _ us Q I r (.inr ⟨_, rfl, h⟩)
  · obtain ⟨n, h1, h2, q⟩ := h
    exact call_int_str pins s σ H _ us Q I r ⟨_, n, rfl, h1, h2, q⟩
  · exact h.elim
def zStr : List V → Hp → VK → Prop := fun vs H Q => match vs with
  | [.int i] => i.natAbs.log2 < 1920 ∧ Q (.str (toString i)) H
  | _ => False
theorem c_str : CallR X (.type "str") zStr := callr_w call_str_int fun vs H Q h => by
  unfold zStr at h
  split at h
  · exact ⟨_, rfl, h.1, h.2⟩
  · exact h.elim
def zAbs : List V → Hp → VK → Prop := fun vs H Q => match vs with
  | [.int i] => Q (.int (if i < 0 then -i else i)) H
  | _ => False
theorem c_abs : CallR X (.builtin "abs") zAbs := callr_w call_abs fun vs H Q h => by
  unfold zAbs at h
  split at h
  · exact ⟨_, rfl, h⟩
  · exact h.elim
def zMax : List V → Hp → VK → Prop := fun vs H Q => match vs with
  | [.int i, .int j] => Q (.int (if j > i then j else i)) H
  | _ => False
theorem c_max (hc : X.calm = true) : CallR X (.builtin "max") zMax := callr_w (call_max2 hc) fun vs H Q h => by
  unfold zMax at h
  split at h
  · exact ⟨_, _, rfl, h⟩
  · exact h.elim
def zMin : List V → Hp → VK → Prop := fun vs H Q => match vs with
  | [.int i, .int j] => Q (.int (if j < i then j else i)) H
  | _ => False
theorem c_min (hc : X.calm = true) : CallR X (.builtin "min") zMin := callr_w (call_min2 hc) fun vs H Q h => by
  unfold zMin at h
  split at h
  · exact ⟨_, _, rfl, h⟩
  · exact h.elim
def zSum (K : PySem.W.Frag) : List V → Hp → VK → Prop := fun vs H Q => match vs with
  | [.ref p] => ∃ ns : List Int, SqL K H p (ns.map V.int) ∧ Q (.int ns.sum) H
  | _ => False
theorem c_sum (hc : X.calm = true) : CallR X (.builtin "sum") (zSum X.K) := callr_w (cr_sum hc) fun vs H Q h => by
  unfold zSum at h
  split at h
  · obtain ⟨ns, h, q⟩ := h
    exact ⟨_, ns, rfl, h, q⟩
  · exact h.elim
def zAll (K : PySem.W.Frag) : List V → Hp → VK → Prop := fun vs H Q => match vs with
  | [.ref p] => ∃ bs : List Bool, SqL K H p (bs.map V.bl) ∧ Q (.bl (bs.all id)) H
  | _ => False
theorem c_all (hc : X.calm = true) : CallR X (.builtin "all") (zAll X.K) := callr_w (cr_all hc) fun vs H Q h => by
  unfold zAll at h
  split at h
  · obtain ⟨ns, h, q⟩ := h
    exact ⟨_, ns, rfl, h, q⟩
  · exact h.elim
def zList (K : PySem.W.Frag) : List V → Hp → VK → Prop := fun vs H Q => match vs with
  | [.ref p] => ∃ ys, (SqL K H p ys ∨ SqT K H p ys) ∧ ∀ l H2, Nw H l (.lst ys) H2 → Q (.ref l) H2
  | _ => False
theorem c_list : CallR X (.type "list") (zList X.K) := callr_w call_list_of fun vs H Q h => by
  unfold zList at h
  split at h
  · obtain ⟨ys, h, q⟩ := h
    exact ⟨_, ys, rfl, h, fun l hl => q l _ (nw hl)⟩
  · exact h.elim
def zTuple (K : PySem.W.Frag) : List V → Hp → VK → Prop := fun vs H Q => match vs with
  | [.ref p] => ∃ ys, (SqL K H p ys ∧ ∀ l H2, Nw H l (.tup ys) H2 → Q (.ref l) H2) ∨ (SqT K H p ys ∧ Q (.ref p) H)
  | _ => False
theorem c_tuple : CallR X (.type "tuple") (zTuple X.K) := callr_w call_tuple_of fun vs H Q h => by
  unfold zTuple at h
  split at h
  · obtain ⟨ys, ⟨h, q⟩ | ⟨h, q⟩⟩ := h
    · exact ⟨_, ys, rfl, .inl ⟨h, fun l hl => q l _ (nw hl)⟩⟩
    · exact ⟨_, ys, rfl, .inr ⟨h, q⟩⟩
  · exact h.elim

/-! ### isinstance -/
def isK (k T : String) : Bool := k == T || (k == "bool" && T == "int")
/-- a value's kind -/
def KindV (K : PySem.W.Frag) (H : Hp) (x : V) (k : String) : Prop := match x with
  | .non => k = "NoneType"
  | .bl _ => k = "bool"
  | .int _ => k = "int"
  | .str _ => k = "str"
  | .ref p => (k = "list" ∧ ∃ xs, SqL K H p xs) ∨ (k = "tuple" ∧ ∃ xs, SqT K H p xs) ∨ (k = "dict" ∧ ((∃ kvs, H p = some (.dK kvs)) ∨ ∃ kvs, H p = some (.dT kvs)))
  | _ => False
theorem KindV.tyx {K : PySem.W.Frag} {H : Hp} {x : V} {k : String} (h : KindV K H x k) : TyX K H x (.type k) ∧ k ∈ ["NoneType", "bool", "int", "str", "list", "tuple", "dict"] := by
  unfold KindV at h
  split at h
  · subst h; exact ⟨.base .non, by simp⟩
  · subst h; exact ⟨.base (.bl _), by simp⟩
  · subst h; exact ⟨.base (.int _), by simp⟩
  · subst h; exact ⟨.base (.str _), by simp⟩
  · rcases h with ⟨rfl, xs, (h | ⟨o, h⟩) | ⟨o, its, n, h1, h2, _⟩⟩ | ⟨rfl, xs, (h | ⟨o, h⟩) | ⟨o, its, n, h1, h2, _⟩⟩ | ⟨rfl, ⟨kvs, h⟩ | ⟨kvs, h⟩⟩
    · exact ⟨.base (.lst h), by simp⟩
    · exact ⟨.base (.frz h), by simp⟩
    · exact ⟨.kList h1 h2, by simp⟩
    · exact ⟨.base (.tup h), by simp⟩
    · exact ⟨.fTuple h, by simp⟩
    · exact ⟨.kTuple h1 h2, by simp⟩
    · exact ⟨.base (.dK h), by simp⟩
    · exact ⟨.base (.dT h), by simp⟩
  · exact h.elim
theorem kit_isK {K : PySem.W.Frag} {k T : String} (hk : k ∈ ["NoneType", "bool", "int", "str", "list", "tuple", "dict"]) (hT : T ∈ ["bool", "int", "str", "list", "tuple", "dict"]) : PySem.W.kitOne K (.type k) (.type T) = some (isK k T) := by
  refine kit_ty ?_
  have all : (["NoneType", "bool", "int", "str", "list", "tuple", "dict"].all fun k => ["bool", "int", "str", "list", "tuple", "dict"].all fun T => kitB k T == some (isK k T)) = true := by decide +kernel
  have h1 := (List.all_eq_true.mp all) k hk
  have h2 := (List.all_eq_true.mp h1) T hT
  exact eq_of_beq h2
def zIsi (K : PySem.W.Frag) : List V → Hp → VK → Prop := fun vs H Q => match vs with
  | [x, .ty T] => T ∈ ["bool", "int", "str", "list", "tuple", "dict"] ∧ ∃ k, KindV K H x k ∧ Q (.bl (isK k T)) H
  | [x, .ref tp] => ∃ T U k, H tp = some (.tup [.ty T, .ty U]) ∧ T ∈ ["bool", "int", "str", "list", "tuple", "dict"] ∧ U ∈ ["bool", "int", "str", "list", "tuple", "dict"] ∧ KindV K H x k ∧ Q (.bl (isK k T || isK k U)) H
  | _ => False
theorem c_isi : CallR X (.builtin "isinstance") (zIsi X.K) := by
  intro pins s σ H xs us Q I r h
  unfold zIsi at h
  split at h
  · obtain ⟨hT, k, hk, q⟩ := h
    obtain ⟨h1, h2⟩ := hk.tyx
    exact call_isi pins s σ H _ us Q I r ⟨_, _, _, _, _, rfl, .ty _, h1, kit_isK h2 hT, q⟩
  · obtain ⟨T, U, k, hp, hT, hU, hk, q⟩ := h
    obtain ⟨h1, h2⟩ := hk.tyx
    refine call_isiT pins s σ H _ us Q I r ⟨_, _, _, _, _, _, rfl, hp, .cons (.ty T) (.cons (.ty U) .nil), h1, kitAny_cons (b := isK k T) (kit_isK h2 hT) (fun e => ?_) (fun e => ?_), q⟩
    · rw [e, Bool.false_or]
      refine kitAny_cons (kit_isK h2 hU) (fun e2 => ?_) (fun e2 => e2)
      rw [e2]
      rfl
    · rw [e]
      rfl
  · exact h.elim
end

/-! ### methods of built-in types -/
section
variable {X : Cx} {a b e o : Expr} {es : List Expr} {te to : TE} {t : TA} {name : Str} {apos cpos : Pos} {T id : String}
/-- a text's method -/
def tMs (r : Str → List V → Hp → VK → Prop) (to : TE) (t : TA) : TE := fun σ H Q => to σ H fun x H1 => match x with
  | .str a => t σ H1 fun xs H2 => r a xs H2 Q
  | _ => False
def tMs0 (r : Str → Hp → VK → Prop) (to : TE) : TE := fun σ H Q => to σ H fun x H1 => match x with
  | .str a => r a H1 Q
  | _ => False
def ofS (r : Str → List V → Hp → VK → Prop) : V → List V → Hp → VK → Prop := fun x xs H Q => ∃ a, x = .str a ∧ r a xs H Q
theorem pe_ms {r : Str → List V → Hp → VK → Prop} (slot : Slot "str" name id) (hty : typeOf (.builtin id) = pure (.type "method_descriptor")) (hm : MtR X id (ofS r)) (ho : PE X o to) (ha : PA X (e :: es) t)
    (hbase : attributeBase o name X.env (eval o X.env) = eval o X.env := by rfl)
    (hfew : ((backTo cpos (starEach (e :: es) X.env)).all (fun x => !x.1) && (backToKw cpos (keywordEach [] X.env)).all (fun x => x.1.isSome)
      && decide ((e :: es).length + ([] : List Keyword).length + (if ([] : List Keyword).isEmpty then 0 else 1) < 30)) = true := by rfl)
    (hline : (apos.endLine == cpos.line) = true := by rfl) (hs : starEach (e :: es) X.env = (false, eval e X.env) :: starEach es X.env := by rfl) (hplain : (backTo cpos (starEach es X.env)).any (·.1) = false := by rfl) :
    PE X (.Call (.Attribute o name apos) (e :: es) [] cpos) (tMs r to t) :=
  pe_w (pe_bm PySem.F.plainAttrs_str slot hty hm (pe_mon ho) (pa_mon ha) hbase hfew hline hs hplain) fun σ H Q h => ⟨_, h, fun x H1 h1 => by
    split at h1
    · exact ⟨rfl, _, h1, fun xs H2 h2 => ⟨_, rfl, h2⟩⟩
    · exact h1.elim⟩
theorem pe_ms0 {r : Str → Hp → VK → Prop} (slot : Slot "str" name id) (hty : typeOf (.builtin id) = pure (.type "method_descriptor")) (hm : MtR X id (ofS fun a xs H Q => xs = [] ∧ r a H Q)) (ho : PE X o to)
    (hbase : attributeBase o name X.env (eval o X.env) = eval o X.env := by rfl) (hline : (apos.endLine == cpos.line) = true := by rfl) :
    PE X (.Call (.Attribute o name apos) [] [] cpos) (tMs0 r to) :=
  pe_w (pe_bm0 PySem.F.plainAttrs_str slot hty hm (pe_mon ho) hbase hline) fun σ H Q h => ⟨_, h, fun x H1 h1 => by
    split at h1
    · exact ⟨rfl, _, rfl, rfl, h1⟩
    · exact h1.elim⟩
theorem mt_w {id : String} {r r' : V → List V → Hp → VK → Prop} (h : MtR X id r') (i : ∀ x vs H Q, r x vs H Q → r' x vs H Q) : MtR X id r :=
  fun pins s σ H x xs v us Q I rx rs q => h pins s σ H x xs v us Q I rx rs (i x xs H Q q)
def zJoin (K : PySem.W.Frag) : Str → List V → Hp → VK → Prop := fun a xs H Q => match xs with
  | [.ref p] => ∃ ys : List Str, (SqL K H p (ys.map V.str) ∨ SqT K H p (ys.map V.str)) ∧ (ys.map (·.length)).sum + ys.length * a.length ≤ 16777216 ∧ Q (.str (Txt.join a ys)) H
  | _ => False
theorem m_join : MtR X "str.join" (ofS (zJoin X.K)) := mt_w mt_join fun x vs H Q ⟨a, e, h⟩ => by
  unfold zJoin at h
  split at h
  · obtain ⟨ys, h1, h2, q⟩ := h
    exact ⟨a, _, ys, e, rfl, h1, h2, q⟩
  · exact h.elim
def zZfill : Str → List V → Hp → VK → Prop := fun a xs H Q => match xs with
  | [.int i] => PadOk i = true ∧ Q (.str (Txt.zfill a i)) H
  | _ => False
theorem m_zfill : MtR X "str.zfill" (ofS zZfill) := mt_w mt_zfill fun x vs H Q ⟨a, e, h⟩ => by
  unfold zZfill at h
  split at h
  · exact ⟨a, _, e, rfl, h.1, h.2⟩
  · exact h.elim
def zPure (g : Str → V) : Str → Hp → VK → Prop := fun a H Q => Q (g a) H
theorem m0_of {id : String} {g : Str → V} (h : MtR X id (fun x xs H Q => ∃ a, x = .str a ∧ xs = [] ∧ True ∧ Q (g a) H)) : MtR X id (ofS fun a xs H Q => xs = [] ∧ zPure g a H Q) :=
  mt_w h fun x vs H Q ⟨a, e, h1, h2⟩ => ⟨a, e, h1, trivial, h2⟩
theorem m_isascii : MtR X "str.isascii" (ofS fun a xs H Q => xs = [] ∧ zPure (fun a => .bl (Txt.isascii a)) a H Q) := m0_of mt_isascii
theorem m_isprintable : MtR X "str.isprintable" (ofS fun a xs H Q => xs = [] ∧ zPure (fun a => .bl (Txt.isprintable a)) a H Q) := m0_of mt_isprintable
theorem m_islower : MtR X "str.islower" (ofS fun a xs H Q => xs = [] ∧ zPure (fun a => .bl (Txt.islower a)) a H Q) := m0_of mt_islower
theorem m_isalpha : MtR X "str.isalpha" (ofS fun a xs H Q => xs = [] ∧ zPure (fun a => .bl (Txt.isalpha a)) a H Q) := m0_of mt_isalpha
theorem m_isdigit : MtR X "str.isdigit" (ofS fun a xs H Q => xs = [] ∧ zPure (fun a => .bl (Txt.isdigit a)) a H Q) := m0_of mt_isdigit
/-- a list's method -/
def tMl (K : PySem.W.Frag) (r : Addr → List V → Hp → VK → Prop) (to : TE) (t : TA) : TE := fun σ H Q => to σ H fun x H1 => match x with
  | .ref l => (∃ xs, SqL K H1 l xs) ∧ t σ H1 fun xs H2 => r l xs H2 Q
  | _ => False
def ofL (r : Addr → List V → Hp → VK → Prop) : V → List V → Hp → VK → Prop := fun x xs H Q => ∃ a, x = .ref a ∧ r a xs H Q
theorem pe_ml {r : Addr → List V → Hp → VK → Prop} (slot : Slot "list" name id) (hty : typeOf (.builtin id) = pure (.type "method_descriptor")) (hm : MtR X id (ofL r)) (ho : PE X o to) (ha : PA X (e :: es) t)
    (hbase : attributeBase o name X.env (eval o X.env) = eval o X.env := by rfl)
    (hfew : ((backTo cpos (starEach (e :: es) X.env)).all (fun x => !x.1) && (backToKw cpos (keywordEach [] X.env)).all (fun x => x.1.isSome)
      && decide ((e :: es).length + ([] : List Keyword).length + (if ([] : List Keyword).isEmpty then 0 else 1) < 30)) = true := by rfl)
    (hline : (apos.endLine == cpos.line) = true := by rfl) (hs : starEach (e :: es) X.env = (false, eval e X.env) :: starEach es X.env := by rfl) (hplain : (backTo cpos (starEach es X.env)).any (·.1) = false := by rfl) :
    PE X (.Call (.Attribute o name apos) (e :: es) [] cpos) (tMl X.K r to t) :=
  pe_w (pe_bm PySem.F.plainAttrs_list slot hty hm (pe_mon ho) (pa_mon ha) hbase hfew hline hs hplain) fun σ H Q h => ⟨_, h, fun x H1 h1 => by
    split at h1
    · exact ⟨.inl ⟨rfl, h1.1⟩, _, h1.2, fun xs H2 h2 => ⟨_, rfl, h2⟩⟩
    · exact h1.elim⟩
def zApp : Addr → List V → Hp → VK → Prop := fun l ys H Q => match ys with
  | [y] => ∃ xs, H l = some (.lst xs) ∧ xs.length < sizeLine ∧ ∀ H2, Wr H l (.lst (xs ++ [y])) H2 → Q .non H2
  | _ => False
theorem m_append : MtR X "list.append" (ofL zApp) := mt_w mt_append fun x vs H Q ⟨a, e, h⟩ => by
  unfold zApp at h
  split at h
  · obtain ⟨xs, h1, h2, q⟩ := h
    exact ⟨a, xs, _, e, rfl, h1, h2, q _ wr⟩
  · exact h.elim
end

/-! ### targets and statements -/
section
variable {X : Cx} {a b e o i : Expr} {es : List Expr} {te to ti : TE} {pos : Pos}
def zSetL : V → V → V → Hp → (Hp → Prop) → Prop := fun o i v H Q => match o, i with
  | .ref p, .int k => ∃ xs j, H p = some (.lst xs) ∧ ixN xs.length k = some j ∧ ∀ H2, Wr H p (.lst (xs.set j v)) H2 → Q H2
  | _, _ => False
theorem s_list : PSet X zSetL := by
  intro pins s σ H o i v ov iv u Q I ro ri rv h
  unfold zSetL at h
  split at h
  · obtain ⟨xs, j, h1, h2, q⟩ := h
    exact set_list pins s σ H _ _ v ov iv u Q I ro ri rv ⟨_, xs, _, j, rfl, rfl, h1, h2, q _ wr⟩
  · exact h.elim
def gCz (t : TG) (u : TGs) : TGs := fun vs σ H Q => match vs with
  | v :: r => t v σ H fun σ' H' => u r σ' H' Q
  | [] => False
def gNz : TGs := fun vs σ H Q => match vs with
  | [] => Q σ H
  | _ => False
theorem pgs_w {g : List Expr} {t t' : TGs} (h : PGs X g t) (i : ∀ v σ H Q, t' v σ H Q → t v σ H Q) : PGs X g t' := ⟨fun pins s σ H v u Q I r q => h.run pins s σ H v u Q I r (i v σ H Q q)⟩
theorem pgs_nz : PGs X [] gNz := pgs_w pgs_nil fun v σ H Q h => by
  unfold gNz at h
  split at h
  · exact ⟨rfl, h⟩
  · exact h.elim
theorem pgs_cz {t : TG} {u : TGs} (ht : PG X e t) (hu : PGs X es u) (hs : (assignEach (e :: es) X.env).map (·.2) = assign e X.env :: (assignEach es X.env).map (·.2) := by rfl) : PGs X (e :: es) (gCz t u) :=
  pgs_w (pgs_cons ht hu hs) fun v σ H Q h => by
    unfold gCz at h
    split at h
    · exact ⟨_, _, rfl, h⟩
    · exact h.elim
def gTz (K : PySem.W.Frag) (n : Nat) (t : TGs) : TG := fun v σ H Q => match v with
  | .ref a => ∃ xs, SqT K H a xs ∧ xs.length = n ∧ t xs σ H Q
  | _ => False
theorem pg_tz {k : Nat} {t : TGs} {n : Nat} (hc : X.calm = true) (h : PGs X es t) (hn : (assignEach es X.env).length = n := by rfl) (hst : (assignEach es X.env).findIdx? (·.1) = none := by rfl) : PG X (.Tuple es k pos) (gTz X.K n t) :=
  pg_w (pg_tup hc h hn hst) fun v σ H Q h => by
    unfold gTz at h
    split at h
    · obtain ⟨xs, h1, h2, q⟩ := h
      exact ⟨_, xs, rfl, h1, h2, q⟩
    · exact h.elim
def tPrz (i j : Nat) (ta : TA) : TS := fun D σ H => ta σ H fun vs H1 => match vs with
  | [v, w] => D.nx ((σ.set i (some v)).set j (some w)) H1
  | _ => False
theorem ps_parZ {i j : Nat} {x y : Str} {ta : TA} {px py pt : Pos} {kt k2 pt2} (hc : X.calm = true) (hN : X.N.Nodup) (hi : X.N[i]? = some x) (hj : X.N[j]? = some y) (hij : i ≠ j)
    (hx : X.env.scope.names.lookup x = some .local) (hy : X.env.scope.names.lookup y = some .local) (ha : PA X [a, b] ta)
    (hw : swappedStores [.Tuple [.Name x px, .Name y py] kt pt] (.Tuple [a, b] k2 pt2) X.env = pure (some [x, y]))
    (hs : swapsWithSole [.Tuple [.Name x px, .Name y py] kt pt] (.Tuple [a, b] k2 pt2) pos.line X.env = pure false := by rfl) :
    PS X (.Assign [.Tuple [.Name x px, .Name y py] kt pt] (.Tuple [a, b] k2 pt2) pos) (tPrz i j ta) :=
  ps_w (ps_par hc hN hi hj hij hx hy (pa_mon ha) hw hs) fun D σ H h => ⟨_, h, fun vs H1 h1 => by
    split at h1
    · exact ⟨_, _, rfl, h1⟩
    · exact h1.elim⟩
def tRngZ (ta : TA) : TI := fun σ H R => ta σ H fun vs H1 => match vs with
  | [.int j] => -(2 ^ 62) ≤ j ∧ j < 2 ^ 62 ∧ R (Itr 0 j.toNat) H1
  | _ => False
theorem pi_rngZ {tg : Expr} {p : Pos} {ta : TA} (hg : Gl X "range") (hm : X.mg "range" = none) (ha : PA X [a] ta) (hs : starEach [a] X.env = [(false, eval a X.env)] := by rfl) : PI X tg (.Call (.Name "range" p) [a] [] pos) (tRngZ ta) :=
  pi_w (pi_range1 hg hm (pa_mon ha) hs) fun σ H R h => ⟨_, h, fun vs H1 h1 => by
    split at h1
    · exact ⟨_, rfl, h1⟩
    · exact h1.elim⟩
def tItL (K : PySem.W.Frag) (te : TE) : TI := fun σ H R => te σ H fun x H1 => match x with
  | .ref a => (∃ xs, SqL K H1 a xs) ∧ R (Itl K a) H1
  | _ => False
theorem pi_lz {tg : Expr} (h : PE X e te) : PI X tg e (tItL X.K te) := pi_w (pi_list (pe_mon h)) fun σ H R h => ⟨_, h, fun x H1 h1 => by
  split at h1
  · exact ⟨_, rfl, h1.1, h1.2⟩
  · exact h1.elim⟩
def tItT (K : PySem.W.Frag) (te : TE) : TI := fun σ H R => te σ H fun x H1 => match x with
  | .ref a => (∃ xs, SqT K H1 a xs) ∧ R (Itt K a) H1
  | _ => False
theorem pi_tz {tg : Expr} (h : PE X e te) : PI X tg e (tItT X.K te) := pi_w (pi_tup (pe_mon h)) fun σ H R h => ⟨_, h, fun x H1 h1 => by
  split at h1
  · exact ⟨_, rfl, h1.1, h1.2⟩
  · exact h1.elim⟩
def tItS (te : TE) : TI := fun σ H R => te σ H fun x H1 => match x with
  | .str a => R (Its a) H1
  | _ => False
theorem pi_sz {tg : Expr} (h : PE X e te) : PI X tg e (tItS te) := pi_w (pi_str (pe_mon h)) fun σ H R h => ⟨_, h, fun x H1 h1 => by
  split at h1
  · exact ⟨_, rfl, h1⟩
  · exact h1.elim⟩
end

/-! ### defs -/
/-- a def that stands under its name: its contract -/
structure Ct (P : Program) (w : World) (K : PySem.W.Frag) (mg : Str → Option Value) (base : Heap) (CX : CXT) (k : Nat) (x : Str) (ps : List Str) (sp : Sp) : Prop where
  ex : ∃ f fd, mg x = some (.ref f) ∧ PySem.W.keepIn K (.ref f) = true ∧ Binds K fd ps [] ∧ FnOk P w K mg base CX k f fd ps sp ∧ ∃ oc od osl, K.lookup f = some ⟨oc, od, .func fd, osl⟩
/-- a def of the top as it stands -/
structure Df (K : PySem.W.Frag) (mg : Str → Option Value) (x : Str) (st : Stmt) (ps : List Str) : Prop where
  ex : ∃ f fd, Fun K x x st f fd ∧ mg x = some (.ref f) ∧ Binds K fd ps []
def tCl (sp : Sp) (E : XK) (t : TA) : TE := fun σ H Q => t σ H fun vs H1 => sp vs H1 Q E
section
variable {X : Cx} {CX : CXT} {k : Nat} {x : Str} {ps : List Str} {sp : Sp} {E : XK} {p pos : Pos} {e : Expr} {es : List Expr} {t : TA}
theorem pe_cl (C : Ct X.prog X.w X.K X.mg X.base CX k x ps sp) (hr : Room k X.A) (hx : Passes CX X E) (ha : PA X (e :: es) t) (hg : Gl X x := by rfl)
    (hdb : (x == ("__debug__" : Str)) = false := by decide)
    (he : starEach (e :: es) X.env = (false, eval e X.env) :: starEach es X.env := by rfl) (hpl : (backTo pos (starEach es X.env)).any (·.1) = false := by rfl) : PE X (.Call (.Name x p) (e :: es) [] pos) (tCl sp E t) := by
  obtain ⟨f, fd, hm, hk, hb, F, _⟩ := C.ex
  refine pe_w (pe_call F hr hg hm hk hb .nil hx ha hdb he hpl) fun σ H Q h => ?_
  show t σ H fun vs H1 => sp (vs ++ []) H1 Q E
  have e : (fun (vs : List V) (H1 : Hp) => sp (vs ++ []) H1 Q E) = fun vs H1 => sp vs H1 Q E := by
    funext vs H1
    rw [List.append_nil]
  rw [e]
  exact h
theorem pe_cl0 (C : Ct X.prog X.w X.K X.mg X.base CX k x ps sp) (hr : Room k X.A) (hx : Passes CX X E) (hg : Gl X x := by rfl) (hdb : (x == ("__debug__" : Str)) = false := by decide) : PE X (.Call (.Name x p) [] [] pos) (tCl sp E tNil) := by
  obtain ⟨f, fd, hm, hk, hb, F, _⟩ := C.ex
  exact pe_call0 F hr hg hm hk hb .nil hx hdb
end
/-- promises by the parameters -/
def sp1 (p : V → Hp → VK → XK → Prop) : Sp := fun vs H Q E => match vs with
  | [a] => p a H Q E
  | _ => False
def sp2 (p : V → V → Hp → VK → XK → Prop) : Sp := fun vs H Q E => match vs with
  | [a, b] => p a b H Q E
  | _ => False
def sp3 (p : V → V → V → Hp → VK → XK → Prop) : Sp := fun vs H Q E => match vs with
  | [a, b, c] => p a b c H Q E
  | _ => False
def sp4 (p : V → V → V → V → Hp → VK → XK → Prop) : Sp := fun vs H Q E => match vs with
  | [a, b, c, d] => p a b c d H Q E
  | _ => False
theorem sp1_of {p : V → Hp → VK → XK → Prop} {vs : List V} {H : Hp} {Q : VK} {E : XK} (h : sp1 p vs H Q E) : ∃ a, vs = [a] ∧ p a H Q E := by
  unfold sp1 at h
  split at h
  · exact ⟨_, rfl, h⟩
  · exact h.elim
theorem sp2_of {p : V → V → Hp → VK → XK → Prop} {vs : List V} {H : Hp} {Q : VK} {E : XK} (h : sp2 p vs H Q E) : ∃ a b, vs = [a, b] ∧ p a b H Q E := by
  unfold sp2 at h
  split at h
  · exact ⟨_, _, rfl, h⟩
  · exact h.elim
theorem sp3_of {p : V → V → V → Hp → VK → XK → Prop} {vs : List V} {H : Hp} {Q : VK} {E : XK} (h : sp3 p vs H Q E) : ∃ a b c, vs = [a, b, c] ∧ p a b c H Q E := by
  unfold sp3 at h
  split at h
  · exact ⟨_, _, _, rfl, h⟩
  · exact h.elim
theorem sp4_of {p : V → V → V → V → Hp → VK → XK → Prop} {vs : List V} {H : Hp} {Q : VK} {E : XK} (h : sp4 p vs H Q E) : ∃ a b c d, vs = [a, b, c, d] ∧ p a b c d H Q E := by
  unfold sp4 at h
  split at h
  · exact ⟨_, _, _, _, rfl, h⟩
  · exact h.elim
section
variable {P : Program} {w : World} {K : PySem.W.Frag} {mg : Str → Option Value} {base : Heap}
theorem fun_at {x q : Str} {st : Stmt} {f : Addr} {fd : FuncData} (F : Fun K x q st f fd) : ∃ oc od osl, K.lookup f = some ⟨oc, od, .func fd, osl⟩ := by
  obtain ⟨oc, od, _, _, _, _, _, _, osl, _, h, _⟩ := F.ex
  exact ⟨oc, od, osl, h⟩
/-- the same def called by names alone, the names in the order ks: g puts the values in the parameters' order -/
structure CtK (P : Program) (w : World) (K : PySem.W.Frag) (mg : Str → Option Value) (base : Heap) (CX : CXT) (k : Nat) (x : Str) (ps ks : List Str) (g : {α : Type} → List α → List α) (sp : Sp) : Prop where
  ex : ∃ f fd, mg x = some (.ref f) ∧ PySem.W.keepIn K (.ref f) = true ∧ (∀ (s : Shared) (ws : List Value), (g ws).length = ps.length → BindsTo s fd ⟨[], ks.zip ws⟩ (ps.zip (g ws))) ∧
    (∀ {zs : List V} {ws : List Value}, Vals zs ws → Vals (g zs) (g ws)) ∧ FnOk P w K mg base CX k f fd ps sp
theorem Ct.kw {CX : CXT} {k : Nat} {x : Str} {st : Stmt} {ps ks : List Str} {g : {α : Type} → List α → List α} {sp : Sp} (C : Ct P w K mg base CX k x ps sp) (D : Df K mg x st ps)
    (h : ∀ (kV doc pm : Value) (an : Option Addr) (cdv ct : Value) (ws : List Value), (g ws).length = ps.length → bindArgs (PySem.W.fnOf x x (defArgs st) (defBody st) (defScope st) .none kV doc pm an cdv ct) ⟨[], ks.zip ws⟩ = pure (ps.zip (g ws)))
    (hg : ∀ {zs : List V} {ws : List Value}, Vals zs ws → Vals (g zs) (g ws)) : CtK P w K mg base CX k x ps ks g sp := by
  obtain ⟨f, fd, hm, hk, hb, F, oc, od, osl, hl⟩ := C.ex
  obtain ⟨f', fd', F', hm', _⟩ := D.ex
  have e : f = f' := by
    rw [hm] at hm'
    cases hm'
    rfl
  subst e
  obtain ⟨oc', od', kV, doc, pm, an, cdv, ct, osl', rfl, hl', _⟩ := F'.ex
  have e2 : fd = PySem.W.fnOf x x (defArgs st) (defBody st) (defScope st) .none kV doc pm an cdv ct := by
    rw [hl] at hl'
    cases hl'
    rfl
  subst e2
  exact ⟨f, _, hm, hk, fun s ws hlen => .of_eq (h kV doc pm an cdv ct ws hlen), hg, F⟩
/-- f(k = v, ..) -/
def tClK (g : {α : Type} → List α → List α) (sp : Sp) (E : XK) (t : TA) : TE := fun σ H Q => t σ H fun zs H1 => sp (g zs) H1 Q E
theorem pe_clK {X : Cx} {CX : CXT} {k : Nat} {x : Str} {ps ks : List Str} {g : {α : Type} → List α → List α} {sp : Sp} {E : XK} {p pos : Pos} {kws : List Keyword} {t : TA} (C : CtK X.prog X.w X.K X.mg X.base CX k x ps ks g sp) (hr : Room k X.A) (hx : Passes CX X E)
    (hkw : PK X kws t) (hg : Gl X x := by rfl) (hall : (backToKw pos (keywordEach kws X.env)).all (·.1.isSome) = true := by rfl) (hks : (backToKw pos (keywordEach kws X.env)).filterMap (·.1) = ks := by rfl)
    (hdb : (x == ("__debug__" : Str)) = false := by decide)
    (hpl : ((backTo pos (starEach [] X.env)).any (·.1) || (backToKw pos (keywordEach kws X.env)).any (·.1.isNone)) = false := by rfl) :
    PE X (.Call (.Name x p) [] kws pos) (tClK g sp E t) := by
  obtain ⟨f, fd, hm, hk, hb, hrel, F⟩ := C.ex
  refine ⟨fun pins s σ H Q I h => wpAny_Call_Name_kw (ld_glob I hg hm ?_ hdb)⟩
  refine PySem.W.callWith_KW0 (h₀ := X.base) I.ok.mod.kin hk hall (thn (hkw.run pos pins s σ H _ I h) fun ws s1 ⟨zs, H1, I1, rz, q⟩ => ⟨I1.kIn, ?_⟩) hpl
  rw [hks]
  have r2 := hrel rz
  have hl : (g ws).length = ps.length := by
    rw [← r2.length]
    exact F.len _ _ _ _ q
  refine wpAny_call (codeAny_mono (F.run X.A X.stack s1 H1 ⟨[], ks.zip ws⟩ (g ws) (g zs) Q E hr I1.env0 (hb s1 ws hl) r2 q) fun r s' hq => ?_)
  match r, hq with
  | .error e, hq => exact hx pins σ H1 s1 e s' I1 hq
  | .ok (.ret u), hq => exact I1.after hq
  | .ok .next, hq => exact False.elim hq
  | .ok .brk, hq => exact False.elim hq
  | .ok .cont, hq => exact False.elim hq
/-- a def that raises nothing, one parameter -/
theorem ct1 {x : Str} {st : Stmt} {a : Str} {N : List Str} {k : Nat} {p : V → Hp → VK → XK → Prop} (D : Df K mg x st [a]) (S : FnScope N [a] (defScope st))
    (body : ∀ (f : Addr) (cdv : Value) (A : Around) (outer : List Env) (s : Shared) (H : Hp) (u : V) (Q : VK) (E : XK), Room k (A.deeper (envOfC x (defScope st) s.heap.objs.size f cdv)) → p u H Q E →
      ∃ t, PSs (cxOf CX0 P w K mg base N x (defScope st) f cdv A outer s H E).nox (defBody st) t ∧ t { nx := fun _ H' => Q .non H', rt := Q } (start N [u]) H) : Ct P w K mg base CX0 (k + 1) x [a] (sp1 p) := by
  obtain ⟨f, fd, F, hm, hb⟩ := D.ex
  refine ⟨f, fd, hm, F.kp, hb, F.ok S (fun vs H Q E h => ?_) (fun cdv A outer s H vs Q E hr h => ?_), fun_at F⟩
  · obtain ⟨u, rfl, _⟩ := sp1_of h
    rfl
  · obtain ⟨u, rfl, h⟩ := sp1_of h
    exact body f cdv A outer s H u Q E hr h
theorem ct2 {x : Str} {st : Stmt} {a b : Str} {N : List Str} {k : Nat} {p : V → V → Hp → VK → XK → Prop} (D : Df K mg x st [a, b]) (S : FnScope N [a, b] (defScope st))
    (body : ∀ (f : Addr) (cdv : Value) (A : Around) (outer : List Env) (s : Shared) (H : Hp) (u v : V) (Q : VK) (E : XK), Room k (A.deeper (envOfC x (defScope st) s.heap.objs.size f cdv)) → p u v H Q E →
      ∃ t, PSs (cxOf CX0 P w K mg base N x (defScope st) f cdv A outer s H E).nox (defBody st) t ∧ t { nx := fun _ H' => Q .non H', rt := Q } (start N [u, v]) H) : Ct P w K mg base CX0 (k + 1) x [a, b] (sp2 p) := by
  obtain ⟨f, fd, F, hm, hb⟩ := D.ex
  refine ⟨f, fd, hm, F.kp, hb, F.ok S (fun vs H Q E h => ?_) (fun cdv A outer s H vs Q E hr h => ?_), fun_at F⟩
  · obtain ⟨u, v, rfl, _⟩ := sp2_of h
    rfl
  · obtain ⟨u, v, rfl, h⟩ := sp2_of h
    exact body f cdv A outer s H u v Q E hr h
theorem ct3 {x : Str} {st : Stmt} {a b c : Str} {N : List Str} {k : Nat} {p : V → V → V → Hp → VK → XK → Prop} (D : Df K mg x st [a, b, c]) (S : FnScope N [a, b, c] (defScope st))
    (body : ∀ (f : Addr) (cdv : Value) (A : Around) (outer : List Env) (s : Shared) (H : Hp) (u v y : V) (Q : VK) (E : XK), Room k (A.deeper (envOfC x (defScope st) s.heap.objs.size f cdv)) → p u v y H Q E →
      ∃ t, PSs (cxOf CX0 P w K mg base N x (defScope st) f cdv A outer s H E).nox (defBody st) t ∧ t { nx := fun _ H' => Q .non H', rt := Q } (start N [u, v, y]) H) : Ct P w K mg base CX0 (k + 1) x [a, b, c] (sp3 p) := by
  obtain ⟨f, fd, F, hm, hb⟩ := D.ex
  refine ⟨f, fd, hm, F.kp, hb, F.ok S (fun vs H Q E h => ?_) (fun cdv A outer s H vs Q E hr h => ?_), fun_at F⟩
  · obtain ⟨u, v, y, rfl, _⟩ := sp3_of h
    rfl
  · obtain ⟨u, v, y, rfl, h⟩ := sp3_of h
    exact body f cdv A outer s H u v y Q E hr h
theorem ct4 {x : Str} {st : Stmt} {a b c d : Str} {N : List Str} {k : Nat} {p : V → V → V → V → Hp → VK → XK → Prop} (D : Df K mg x st [a, b, c, d]) (S : FnScope N [a, b, c, d] (defScope st))
    (body : ∀ (f : Addr) (cdv : Value) (A : Around) (outer : List Env) (s : Shared) (H : Hp) (u v y z : V) (Q : VK) (E : XK), Room k (A.deeper (envOfC x (defScope st) s.heap.objs.size f cdv)) → p u v y z H Q E →
      ∃ t, PSs (cxOf CX0 P w K mg base N x (defScope st) f cdv A outer s H E).nox (defBody st) t ∧ t { nx := fun _ H' => Q .non H', rt := Q } (start N [u, v, y, z]) H) : Ct P w K mg base CX0 (k + 1) x [a, b, c, d] (sp4 p) := by
  obtain ⟨f, fd, F, hm, hb⟩ := D.ex
  refine ⟨f, fd, hm, F.kp, hb, F.ok S (fun vs H Q E h => ?_) (fun cdv A outer s H vs Q E hr h => ?_), fun_at F⟩
  · obtain ⟨u, v, y, z, rfl, _⟩ := sp4_of h
    rfl
  · obtain ⟨u, v, y, z, rfl, h⟩ := sp4_of h
    exact body f cdv A outer s H u v y z Q E hr h
end

/-! ### loops over known items -/
/-- the iterator J gives these items while S stands -/
structure Wk (J : It) (items : List V) (S : Hp → Prop) : Prop where
  go : ∀ i H, S H → i < items.length → J.go i H
  stop : ∀ H, S H → J.stop items.length H
  yld : ∀ i H x H', S H → i < items.length → J.yld i H x H' → H' = H ∧ items[i]? = some x
theorem wk_list {K : PySem.W.Frag} {a : Addr} (xs : List V) : Wk (Itl K a) xs (fun H => SqL K H a xs) where
  go i H s h := ⟨xs, xs[i], s, by simp [h]⟩
  stop H s := ⟨xs, s, Nat.le_refl _⟩
  yld i H x H' s _ y := ⟨y.1, y.2 xs s⟩
theorem wk_tup {K : PySem.W.Frag} {a : Addr} (xs : List V) : Wk (Itt K a) xs (fun H => SqT K H a xs) where
  go i H s h := ⟨xs, xs[i], s, by simp [h]⟩
  stop H s := ⟨xs, s, Nat.le_refl _⟩
  yld i H x H' s _ y := ⟨y.1, y.2 xs s⟩
def rngV (lo : Int) (n : Nat) : List V := (List.range n).map fun (i : Nat) => V.int (lo + i)
theorem rngV_len (lo : Int) (n : Nat) : (rngV lo n).length = n := by simp [rngV]
theorem rngV_get {lo : Int} {n i : Nat} (h : i < n) : (rngV lo n)[i]? = some (.int (lo + i)) := by
  rw [rngV, List.getElem?_map, List.getElem?_range h]
  rfl
theorem rngV_at {lo : Int} {n i : Nat} {x : V} (h : (rngV lo n)[i]? = some x) : i < n ∧ x = .int (lo + i) := by
  have hi : i < n := by
    have q := (List.getElem?_eq_some_iff.mp h).1
    rw [rngV_len] at q
    exact q
  rw [rngV_get hi] at h
  exact ⟨hi, (Option.some.inj h).symm⟩
theorem wk_rng (lo : Int) (n : Nat) : Wk (Itr lo n) (rngV lo n) (fun _ => True) where
  go i H _ h := by
    rw [rngV_len] at h
    exact h
  stop H _ := by
    show n ≤ (rngV lo n).length
    rw [rngV_len]
    exact Nat.le_refl n
  yld i H x H' s h y := by
    rw [rngV_len] at h
    obtain ⟨y1, y2⟩ := y
    exact ⟨y1, by rw [y2, rngV_get h]⟩
def signV (c : Nat) : V := V.str ⟨#[c]⟩
def signsV (x : Str) : List V := x.cps.toList.map signV
theorem wk_str (x : Str) : Wk (Its x) (signsV x) (fun _ => True) where
  go i H _ h := by
    rw [signsV, List.length_map, Array.length_toList] at h
    exact h
  stop H _ := by
    show x.cps.size ≤ (signsV x).length
    rw [signsV, List.length_map, Array.length_toList]
    exact Nat.le_refl _
  yld i H v H' s h y := by
    obtain ⟨y1, c, y2, y3⟩ := y
    refine ⟨y1, ?_⟩
    rw [signsV, List.getElem?_map, Array.getElem?_toList, y2, y3]
    rfl
/-- for: the invariant by the turn -/
theorem for_w {J : It} {items : List V} {S : Hp → Prop} (wk : Wk J items S) {g : TG} {tb : TS} {D : Ends} {σ : L2.St} {H : Hp} (Pv : Nat → L2.St → Hp → Prop) (h0 : Pv 0 σ H) (hS : ∀ i σ H, Pv i σ H → S H)
    (hs : ∀ i x σ H, items[i]? = some x → Pv i σ H → g x σ H fun σ2 H2 => tb { D with nx := Pv (i + 1), ct := Pv (i + 1), bk := D.nx } σ2 H2) (hd : ∀ σ H, Pv items.length σ H → D.nx σ H) :
    ∃ W : Nat → Nat → L2.St → Hp → Prop, (∃ m, W 0 m σ H) ∧ ∀ i m σ H, W i m σ H →
      (J.stop i H ∧ D.nx σ H) ∨ (J.go i H ∧ ∃ N : L2.St → Hp → Prop, (∀ σ' H', N σ' H' → ∃ m', m' < m ∧ W (i + 1) m' σ' H') ∧ ∀ x H', J.yld i H x H' → g x σ H' fun σ2 H2 => tb { D with nx := N, ct := N, bk := D.nx } σ2 H2) := by
  refine ⟨fun i m σ H => m = items.length - i ∧ i ≤ items.length ∧ Pv i σ H, ⟨_, rfl, Nat.zero_le _, h0⟩, ?_⟩
  rintro i m σ H ⟨rfl, hi, p⟩
  have s := hS i σ H p
  rcases Nat.lt_or_ge i items.length with hlt | hge
  · refine .inr ⟨wk.go i H s hlt, Pv (i + 1), fun σ' H' p' => ⟨items.length - (i + 1), by omega, rfl, hlt, p'⟩, fun x H' y => ?_⟩
    obtain ⟨rfl, hx⟩ := wk.yld i H x H' s hlt y
    exact hs i x σ _ hx p
  · have e : i = items.length := Nat.le_antisymm hi hge
    subst e
    exact .inl ⟨wk.stop H s, hd σ H p⟩

/-! ### comprehensions -/
def monI (t : TI) : TI := fun σ H R => ∃ R0 : It → Hp → Prop, t σ H R0 ∧ ∀ J H1, R0 J H1 → R J H1
def monG (t : TG) : TG := fun v σ H Q => ∃ Q0 : L2.St → Hp → Prop, t v σ H Q0 ∧ ∀ σ1 H1, Q0 σ1 H1 → Q σ1 H1
def monT (t : TT) : TT := fun σ H Q => ∃ Q0 : Bool → Hp → Prop, t σ H Q0 ∧ ∀ b H1, Q0 b H1 → Q b H1
theorem pi_mon {X : Cx} {g e : Expr} {t : TI} (h : PI X g e t) : PI X g e (monI t) := ⟨fun pins s σ H R I ⟨R0, q, i⟩ =>
  thn (h.run pins s σ H R0 I q) fun v s1 h1 => thn h1 fun u s2 ⟨it, fp, tn, J, H', a1, a2, a3, a4, a5, a6⟩ => ⟨it, fp, tn, J, H', a1, a2, a3, a4, a5, i _ _ a6⟩⟩
theorem pg_mon {X : Cx} {g : Expr} {t : TG} (h : PG X g t) : PG X g (monG t) := ⟨fun pins s σ H v u Q I r ⟨Q0, q, i⟩ =>
  thn (h.run pins s σ H v u Q0 I r q) fun _ s1 ⟨σ', H', a, b⟩ => ⟨σ', H', a, i _ _ b⟩⟩
theorem pts_mon {X : Cx} {es : List Expr} {t : TT} (h : PTs X es t) : PTs X es (monT t) := ⟨fun pins s σ H Q I ⟨Q0, q, i⟩ =>
  thn (h.run pins s σ H Q0 I q) fun b s1 ⟨H', a, c⟩ => ⟨H', a, i _ _ c⟩⟩
/-- [te for g in wi if tt]: W by the turn, a measure, the list so far -/
def tLcz (wi : TI) (g : TG) (tt : TT) (te : TE) (vs : List Nat) : TE := fun σ H Q => wi σ H fun J H1 => ∀ D, H1 D = none → ∃ W : Nat → Nat → List V → Hp → Prop, (∃ m, ∀ H2, Nw H1 D (.lst []) H2 → W 0 m [] H2) ∧
  ∀ i m acc H, H D = some (.lst acc) → W i m acc H → (J.stop i H ∧ Q (.ref D) H) ∨
    (acc.length < sizeLine ∧ J.go i H ∧ ∃ Nx : List V → Hp → Prop, (∀ a' H', Nx a' H' → ∃ m', m' < m ∧ W (i + 1) m' a' H') ∧ ∀ x H', J.yld i H x H' → g x (wipe σ vs) H' fun σ2 H2 => wipe σ2 vs = wipe σ vs ∧ tt σ2 H2 fun b H3 =>
      if b = true then te σ2 H3 fun y H4 => H4 D = some (.lst acc) ∧ ∀ H5, Wr H4 D (.lst (acc ++ [y])) H5 → Nx (acc ++ [y]) H5 else H3 D = some (.lst acc) ∧ Nx acc H3)
theorem tLcz_of {wi : TI} {g : TG} {tt : TT} {te : TE} {vs : List Nat} {σ : L2.St} {H : Hp} {Q : VK} (h : tLcz wi g tt te vs σ H Q) : tLc (monI wi) (monG g) (monT tt) (mon te) vs σ H Q := by
  refine ⟨_, h, fun J H1 h1 D hD => ?_⟩
  obtain ⟨W, ⟨m, w0⟩, step⟩ := h1 D hD
  refine ⟨fun i m H => ∃ acc, H D = some (.lst acc) ∧ W i m acc H, ⟨m, [], upd_same, w0 _ (nw hD)⟩, ?_⟩
  rintro i m H ⟨acc, hacc, w⟩
  rcases step i m acc H hacc w with q | ⟨hz, go, Nx, hN, body⟩
  · exact .inl q
  · refine .inr ⟨go, fun H' => ∃ acc, H' D = some (.lst acc) ∧ Nx acc H', fun H' ⟨a', e, n⟩ => ?_, fun x H' y => ?_⟩
    · obtain ⟨m', l, w'⟩ := hN a' H' n
      exact ⟨m', l, a', e, w'⟩
    · refine ⟨_, body x H' y, fun σ2 H2 ⟨e, h2⟩ => ⟨e, _, h2, fun b H3 h3 => ?_⟩⟩
      cases b with
      | true =>
        rw [if_pos rfl] at h3 ⊢
        exact ⟨_, h3, fun z H4 h4 => ⟨acc, h4.1, hz, _, upd_same, h4.2 _ wr⟩⟩
      | false =>
        rw [if_neg Bool.false_ne_true] at h3 ⊢
        exact ⟨acc, h3.1, h3.2⟩
theorem pe_lcz {X : Cx} {elt tg iter : Expr} {ifs : List Expr} {scope : Scope} {own : List (Str × Nat)} {pos : Pos} {wi : TI} {g : TG} {tt : TT} {te : TE} (hc : X.calm = true) (hN : X.N.Nodup) (hi : PI X tg iter wi) (ok : BlkOk X.N X.env.scope scope own)
    (hg : ∀ (s : Shared) (H : Hp) (C : Addr) (cl : List (Str × Addr)) (fp : List Addr), PG (X.blk s H scope (compEnvC scope cl C X.env) fp) tg g) (ht : ∀ (s : Shared) (H : Hp) (C : Addr) (cl : List (Str × Addr)) (fp : List Addr), PTs (X.blk s H scope (compEnvC scope cl C X.env) fp) ifs tt)
    (he : ∀ (s : Shared) (H : Hp) (C : Addr) (cl : List (Str × Addr)) (fp : List Addr), PE (X.blk s H scope (compEnvC scope cl C X.env) fp) elt te) (hs : ∀ x, foldedSetIterable iter X.env x = pure x := by intro _; rfl) :
    PE X (.ListComp elt [⟨tg, iter, ifs, 0⟩] scope pos) (tLcz wi g tt te (own.map (·.2))) :=
  pe_w (pe_lc hc hN (pi_mon hi) ok (fun s H C cl fp => pg_mon (hg s H C cl fp)) (fun s H C cl fp => pts_mon (ht s H C cl fp)) (fun s H C cl fp => pe_mon (he s H C cl fp)) hs) fun σ H Q h => tLcz_of h
theorem ps_setLcz {X : Cx} {i : Nat} {y : Str} {py : Pos} {elt tg iter : Expr} {ifs : List Expr} {scope : Scope} {own : List (Str × Nat)} {pos spos : Pos} {wi : TI} {g : TG} {tt : TT} {te : TE} (hc : X.calm = true) (hN : X.N.Nodup) (hy : X.N[i]? = some y) (hyl : X.env.scope.names.lookup y = some .local)
    (hsw : swapsWith (.ListComp elt [⟨tg, iter, ifs, 0⟩] scope pos) (some (.Name y py)) spos.line X.env = pure true) (hi : PI X tg iter wi) (ok : BlkOk X.N X.env.scope scope own)
    (hg : ∀ (s : Shared) (H : Hp) (C : Addr) (cl : List (Str × Addr)) (fp : List Addr), PG (X.blk s H scope (compEnvC scope cl C X.env) fp) tg g) (ht : ∀ (s : Shared) (H : Hp) (C : Addr) (cl : List (Str × Addr)) (fp : List Addr), PTs (X.blk s H scope (compEnvC scope cl C X.env) fp) ifs tt)
    (he : ∀ (s : Shared) (H : Hp) (C : Addr) (cl : List (Str × Addr)) (fp : List Addr), PE (X.blk s H scope (compEnvC scope cl C X.env) fp) elt te) (hs : ∀ x, foldedSetIterable iter X.env x = pure x := by intro _; rfl) :
    PS X (.Assign [.Name y py] (.ListComp elt [⟨tg, iter, ifs, 0⟩] scope pos) spos) (tAsg (tLcz wi g tt te (own.map (·.2))) (gName i)) :=
  ps_w (ps_setLc hc hN hy hyl hsw (pi_mon hi) ok (fun s H C cl fp => pg_mon (hg s H C cl fp)) (fun s H C cl fp => pts_mon (ht s H C cl fp)) (fun s H C cl fp => pe_mon (he s H C cl fp)) hs) fun D σ H h => tLcz_of h
/-- a comprehension over known items: the invariant by the turn and the list so far -/
theorem lc_w {J : It} {items : List V} {S : Hp → Prop} (wk : Wk J items S) (hz : items.length ≤ 1000000) {g : TG} {tt : TT} {te : TE} {vs : List Nat} {σ : L2.St} {H1 : Hp} {D : Addr} {Qd : Hp → Prop} (Pv : Nat → List V → Hp → Prop) (h0 : ∀ H2, Nw H1 D (.lst []) H2 → Pv 0 [] H2)
    (hS : ∀ i acc H, Pv i acc H → S H) (hL : ∀ i acc H, Pv i acc H → acc.length ≤ i)
    (hs : ∀ i x acc H, items[i]? = some x → H D = some (.lst acc) → Pv i acc H → g x (wipe σ vs) H fun σ2 H2 => wipe σ2 vs = wipe σ vs ∧ tt σ2 H2 fun b H3 =>
      if b = true then te σ2 H3 fun y H4 => H4 D = some (.lst acc) ∧ ∀ H5, Wr H4 D (.lst (acc ++ [y])) H5 → Pv (i + 1) (acc ++ [y]) H5 else H3 D = some (.lst acc) ∧ Pv (i + 1) acc H3)
    (hd : ∀ acc H, acc.length ≤ items.length → H D = some (.lst acc) → Pv items.length acc H → Qd H) :
    ∃ W : Nat → Nat → List V → Hp → Prop, (∃ m, ∀ H2, Nw H1 D (.lst []) H2 → W 0 m [] H2) ∧
  ∀ i m acc H, H D = some (.lst acc) → W i m acc H → (J.stop i H ∧ Qd H) ∨
    (acc.length < sizeLine ∧ J.go i H ∧ ∃ Nx : List V → Hp → Prop, (∀ a' H', Nx a' H' → ∃ m', m' < m ∧ W (i + 1) m' a' H') ∧ ∀ x H', J.yld i H x H' → g x (wipe σ vs) H' fun σ2 H2 => wipe σ2 vs = wipe σ vs ∧ tt σ2 H2 fun b H3 =>
      if b = true then te σ2 H3 fun y H4 => H4 D = some (.lst acc) ∧ ∀ H5, Wr H4 D (.lst (acc ++ [y])) H5 → Nx (acc ++ [y]) H5 else H3 D = some (.lst acc) ∧ Nx acc H3) := by
  have hs1 : 1000000 < sizeLine := by decide
  -- the list is never longer than the turns done
  refine ⟨fun i m acc H => m = items.length - i ∧ i ≤ items.length ∧ Pv i acc H, ⟨items.length, fun H2 n => ⟨by omega, Nat.zero_le _, h0 H2 n⟩⟩, ?_⟩
  rintro i m acc H hacc ⟨rfl, hi, p⟩
  have hl := hL i acc H p
  have s := hS i acc H p
  rcases Nat.lt_or_ge i items.length with hlt | hge
  · refine .inr ⟨by omega, wk.go i H s hlt, Pv (i + 1), fun a' H' p' => ⟨items.length - (i + 1), by omega, rfl, hlt, p'⟩, fun x H' y => ?_⟩
    obtain ⟨rfl, hx⟩ := wk.yld i H x H' s hlt y
    exact hs i x acc _ hx hacc p
  · have e : i = items.length := Nat.le_antisymm hi hge
    subst e
    exact .inl ⟨wk.stop H s, hd acc H hl hacc p⟩

/-! ### constants of the module, permutations -/
theorem pe_gk {X : Cx} {x : Str} {v : V} {pos : Pos} (h : ∃ u, X.mg x = some u ∧ RelV v u) (hg : Gl X x := by rfl) (hd : (x == ("__debug__" : Str)) = false := by decide) : PE X (.Name x pos) (tC v) := by
  obtain ⟨u, hm, r⟩ := h
  exact pe_glob hg hm r hd
def zNeg : V → Hp → VK → Prop := fun x H Q => match x with
  | .int i => Q (.int (-i)) H
  | _ => False
theorem un_negZ {X : Cx} : UnR X (unaryOp .USub) zNeg :=
  fun pins s σ H x v Q I r h => by
    unfold zNeg at h
    split at h
    · exact un_neg pins s σ H _ v Q I r ⟨_, rfl, h⟩
    · exact h.elim
def perm_0 {α : Type} (l : List α) : List α := l
theorem perm_0_ok {zs : List V} {ws : List Value} (r : Vals zs ws) : Vals (perm_0 zs) (perm_0 ws) := r
def perm_1_0 {α : Type} : List α → List α
  | [a, b] => [b, a]
  | _ => []
theorem perm_1_0_ok {zs : List V} {ws : List Value} (r : Vals zs ws) : Vals (perm_1_0 zs) (perm_1_0 ws) := by
  match zs, ws, r with
  | [], [], _ => exact .nil
  | [_], [_], _ => exact .nil
  | [_, _], [_, _], .cons a (.cons b .nil) => exact .cons b (.cons a .nil)
  | _ :: _ :: _ :: _, _ :: _ :: _ :: _, _ => exact .nil

/-! ### the same rules over the written part by its own name (a block's rules must not speak of the block) -/
section
variable {X : Cx} (K : PySem.W.Frag)
theorem k_add (hK : X.K = K := by rfl) : OpR X (binaryOp .Add) (zAdd K) := hK ▸ o_add
theorem k_eq (hu : X.A.units + 64 < cLine) (hK : X.K = K := by rfl) : OpR X (compareOp .Eq) (zEq K false) := hK ▸ o_eq hu
theorem k_ne (hu : X.A.units + 64 < cLine) (hK : X.K = K := by rfl) : OpR X (compareOp .NotEq) (zEq K true) := hK ▸ o_ne hu
theorem k_in (hK : X.K = K := by rfl) : OpR X (compareOp .In) (zIn K false) := hK ▸ o_in
theorem k_nin (hK : X.K = K := by rfl) : OpR X (compareOp .NotIn) (zIn K true) := hK ▸ o_nin
theorem k_ix (hK : X.K = K := by rfl) : IxR X (zIx K) := hK ▸ o_ix
theorem k_sl (hK : X.K = K := by rfl) : SlR X (zSl K) := hK ▸ o_sl
theorem k_len (hK : X.K = K := by rfl) : CallR X (.builtin "len") (zLen K) := hK ▸ c_len
theorem k_sum (hc : X.calm = true) (hK : X.K = K := by rfl) : CallR X (.builtin "sum") (zSum K) := hK ▸ c_sum hc
theorem k_all (hc : X.calm = true) (hK : X.K = K := by rfl) : CallR X (.builtin "all") (zAll K) := hK ▸ c_all hc
theorem k_list (hK : X.K = K := by rfl) : CallR X (.type "list") (zList K) := hK ▸ c_list
theorem k_tuple (hK : X.K = K := by rfl) : CallR X (.type "tuple") (zTuple K) := hK ▸ c_tuple
theorem k_isi (hK : X.K = K := by rfl) : CallR X (.builtin "isinstance") (zIsi K) := hK ▸ c_isi
theorem mk_join (hK : X.K = K := by rfl) : MtR X "str.join" (ofS (zJoin K)) := hK ▸ m_join
theorem pt_trK {a : Expr} {ta : TE} (h : PE X a ta) (hK : X.K = K := by rfl) (he : ∀ whole, isTrue a X.env whole = (do let v ← whole; standAt a.pos; holding [v] (truthy v)) := by intro _; rfl) : PT X a (tTr K ta) := hK ▸ pt_tr h he
theorem pi_lzK {tg e : Expr} {te : TE} (h : PE X e te) (hK : X.K = K := by rfl) : PI X tg e (tItL K te) := hK ▸ pi_lz h
theorem pi_tzK {tg e : Expr} {te : TE} (h : PE X e te) (hK : X.K = K := by rfl) : PI X tg e (tItT K te) := hK ▸ pi_tz h
theorem pg_tzK {es : List Expr} {k : Nat} {pos : Pos} {t : TGs} {n : Nat} (hc : X.calm = true) (h : PGs X es t) (hK : X.K = K := by rfl) (hn : (assignEach es X.env).length = n := by rfl) (hst : (assignEach es X.env).findIdx? (·.1) = none := by rfl) : PG X (.Tuple es k pos) (gTz K n t) :=
  hK ▸ pg_tz hc h hn hst
theorem pe_mlK {e o : Expr} {es : List Expr} {to : TE} {t : TA} {name : Str} {apos cpos : Pos} {id : String} {r : Addr → List V → Hp → VK → Prop} (slot : Slot "list" name id) (hty : typeOf (.builtin id) = pure (.type "method_descriptor")) (hm : MtR X id (ofL r)) (ho : PE X o to) (ha : PA X (e :: es) t)
    (hK : X.K = K := by rfl) (hbase : attributeBase o name X.env (eval o X.env) = eval o X.env := by rfl)
    (hfew : ((backTo cpos (starEach (e :: es) X.env)).all (fun x => !x.1) && (backToKw cpos (keywordEach [] X.env)).all (fun x => x.1.isSome)
      && decide ((e :: es).length + ([] : List Keyword).length + (if ([] : List Keyword).isEmpty then 0 else 1) < 30)) = true := by rfl)
    (hline : (apos.endLine == cpos.line) = true := by rfl) (hs : starEach (e :: es) X.env = (false, eval e X.env) :: starEach es X.env := by rfl) (hplain : (backTo cpos (starEach es X.env)).any (·.1) = false := by rfl) :
    PE X (.Call (.Attribute o name apos) (e :: es) [] cpos) (tMl K r to t) := hK ▸ pe_ml slot hty hm ho ha hbase hfew hline hs hplain
end

/-! ### items at a place -/
theorem atI_some {α : Type} {xs : List α} {r : Int} (h0 : 0 ≤ r) (h : r < (xs.length : Int)) : ∃ v, atI xs r = some v ∧ v ∈ xs ∧ xs[r.toNat]? = some v := by
  have hl : r.toNat < xs.length := by omega
  have q := atI_nat (List.getElem?_eq_getElem hl)
  rw [Int.toNat_of_nonneg h0] at q
  exact ⟨xs[r.toNat], q, List.getElem_mem hl, List.getElem?_eq_getElem hl⟩
/-- an int of a written list -/
theorem menuI (ms : List Int) {r : Int} (h0 : 0 ≤ r) (h : r < (ms.length : Int)) : ∃ v, atI (ms.map V.int) r = some (.int v) ∧ v ∈ ms := by
  obtain ⟨v, h1, h2, _⟩ := atI_some (xs := ms.map V.int) h0 (by rw [List.length_map]; exact h)
  obtain ⟨i, hi, rfl⟩ := List.mem_map.mp h2
  exact ⟨i, h1, hi⟩
theorem iteY {c : Bool} {A B : Prop} (h : c = true) (a : A) : if c = true then A else B := by
  rw [if_pos h]
  exact a
theorem iteN {c : Bool} {A B : Prop} (h : c = false) (b : B) : if c = true then A else B := by
  rw [if_neg (by rw [h]; exact Bool.false_ne_true)]
  exact b
/-- one of two walks -/
def tIor (a b : TI) : TI := fun σ H R => a σ H R ∨ b σ H R
theorem pi_or {X : Cx} {tg e : Expr} {a b : TI} (ha : PI X tg e a) (hb : PI X tg e b) : PI X tg e (tIor a b) := ⟨fun pins s σ H R I h => by
  rcases h with h | h
  · exact ha.run pins s σ H R I h
  · exact hb.run pins s σ H R I h⟩
theorem dT {p : Prop} [Decidable p] (h : decide p = true) : p := of_decide_eq_true h
theorem dF {p : Prop} [Decidable p] (h : ¬ decide p = true) : ¬ p := fun q => h (decide_eq_true q)
theorem signsV_len (x : Str) : (signsV x).length = x.length := by
  rw [signsV, List.length_map, Array.length_toList]
  rfl
theorem signsV_at {x : Str} {i : Nat} {v : V} (h : (signsV x)[i]? = some v) : ∃ c, x.cps.toList[i]? = some c ∧ v = signV c := by
  rw [signsV, List.getElem?_map] at h
  cases e : x.cps.toList[i]? with
  | none => rw [e] at h; cases h
  | some c =>
    rw [e] at h
    exact ⟨c, rfl, (Option.some.inj h).symm⟩

/-! ### the end -/
section
variable {P : Program} {w : World} {K : PySem.W.Frag} {mg : Str → Option Value} {base : Heap}
theorem df_mk {h : Heap} (X : K.In h) (G : h.Ns mainGlobals mg) {x : Str} {st : Stmt} {ps : List Str} {f : Addr} {oc : Value} {od an : Option Addr} {osl : Array (Option Value)} {kV doc pm cdv ct : Value} (a : PySem.W.nsIn K mainGlobals x = some (some (.ref f)))
    (l : K.lookup f = some ⟨oc, od, .func (PySem.W.fnOf x x (defArgs st) (defBody st) (defScope st) .none kV doc pm an cdv ct), osl⟩) (c : PySem.W.codeIn K cdv x = true) (k : PySem.W.keepIn K (.ref f) = true)
    (b : ∀ (kV doc pm : Value) (an : Option Addr) (cdv ct : Value) (us : List Value), us.length = ps.length → bindArgs (PySem.W.fnOf x x (defArgs st) (defBody st) (defScope st) .none kV doc pm an cdv ct) ⟨us, []⟩ = pure (ps.zip us)) : Df K mg x st ps :=
  ⟨f, _, fun_mk l c k, PySem.W.mg_of X G a, (fun_mk l c k).binds b⟩
theorem law_fn {CX : CXT} {k : Nat} {x : Str} {ps : List Str} {sp : Sp} {fa : Addr} {fd : FuncData} {oc : Value} {od : Option Addr} {osl : Array (Option Value)} (C : Ct P w K mg base CX k x ps sp) (hfa : mg x = some (.ref fa))
    (l : K.lookup fa = some ⟨oc, od, .func fd, osl⟩) : FnOk P w K mg base CX k fa fd ps sp := by
  obtain ⟨f, fd', hm, _, _, F, oc', od', osl', hl⟩ := C.ex
  have e : f = fa := by
    rw [hm] at hfa
    cases hfa
    rfl
  subst e
  have e2 : fd' = fd := by
    rw [hl] at l
    cases l
    rfl
  subst e2
  exact F
end
end Z

/-! M9: texts as lists of codes: signs, frames, their reading. -/
namespace M9
open PySem PySem.Spec PyProof.Rows L2 Z SX PySem.NumText

/-! ### signs -/
def Pr (l : List Nat) : Prop := ∀ c ∈ l, 32 ≤ c ∧ c ≤ 126
theorem pr_nil : Pr [] := fun _ h => by cases h
theorem pr_cons {c : Nat} {l : List Nat} (h : 32 ≤ c ∧ c ≤ 126) (t : Pr l) : Pr (c :: l) := fun d hd => by
  rcases List.mem_cons.mp hd with rfl | hd
  · exact h
  · exact t d hd
theorem pr_app {l m : List Nat} (a : Pr l) (b : Pr m) : Pr (l ++ m) := fun c hc => (List.mem_append.mp hc).elim (a c) (b c)
theorem pr_take {l : List Nat} (n : Nat) (a : Pr l) : Pr (l.take n) := fun c hc => a c (List.mem_of_mem_take hc)
theorem pr_drop {l : List Nat} (n : Nat) (a : Pr l) : Pr (l.drop n) := fun c hc => a c (List.mem_of_mem_drop hc)
theorem pr_rep {l : List Nat} (n : Nat) (a : Pr l) : Pr (List.replicate n l).flatten := fun c hc => by
  obtain ⟨m, hm, hc⟩ := List.mem_flatten.mp hc
  rw [(List.mem_replicate.mp hm).2] at hc
  exact a c hc
theorem pr_flat {ls : List (List Nat)} (a : ∀ l ∈ ls, Pr l) : Pr ls.flatten := fun c hc => by
  obtain ⟨m, hm, hc⟩ := List.mem_flatten.mp hc
  exact a m hm c hc
theorem pr_of {l : List Nat} (h : (l.all fun c => decide (32 ≤ c) && decide (c ≤ 126)) = true) : Pr l := fun c hc => by
  have q := (List.all_eq_true.mp h) c hc
  simpa using q
theorem printable_all : ∀ c : _root_.Fin 127, 32 ≤ c.val → Unicode.isPrintable c.val = true := by decide +kernel
theorem isascii_S {l : List Nat} (h : Pr l) : Txt.isascii (S l) = true := by
  show (l.toArray.all fun c => decide (c < 128)) = true
  rw [← Array.all_toList, List.all_eq_true]
  intro c hc
  have := h c (by simpa using hc)
  exact decide_eq_true (by omega)
theorem isprintable_S {l : List Nat} (h : Pr l) : Txt.isprintable (S l) = true := by
  show (l.toArray.all Unicode.isPrintable) = true
  rw [← Array.all_toList, List.all_eq_true]
  intro c hc
  have q := h c (by simpa using hc)
  exact printable_all ⟨c, by omega⟩ q.1
theorem S_lit {s : Str} {l : List Nat} (h : s.cps.toList = l) : s = S l := by
  rw [← h]
theorem length_S (l : List Nat) : (S l).length = l.length := S_len l
theorem cps_S (l : List Nat) : (S l).cps.toList = l := by simp [S]
theorem cut_S (l : List Nat) (lo hi : Option Int) : cutS (S l) lo hi = S ((l.drop (HT.sIx l.length 0 lo)).take (HT.sIx l.length l.length hi - HT.sIx l.length 0 lo)) := by
  unfold cutS
  rw [length_S]
theorem sIx_pos {n d : Nat} {i : Int} (h : 0 ≤ i) : HT.sIx n d (some i) = min i.toNat n := by
  show (if i < 0 then (i + (n : Int)).toNat else min i.toNat n) = min i.toNat n
  rw [if_neg (by omega)]
/-- l[a:b] for counts -/
theorem cut_nn {l : List Nat} {a b : Nat} : cutS (S l) (some (a : Int)) (some (b : Int)) = S ((l.drop a).take (b - a)) := by
  rw [cut_S, sIx_pos (by omega), sIx_pos (by omega), Int.toNat_natCast, Int.toNat_natCast]
  congr 1
  rcases Nat.le_total a l.length with h | h
  · rw [Nat.min_eq_left h]
    rcases Nat.le_total b l.length with h2 | h2
    · rw [Nat.min_eq_left h2]
    · rw [Nat.min_eq_right h2, List.take_of_length_le (by rw [List.length_drop]; omega), List.take_of_length_le (by rw [List.length_drop]; omega)]
  · rw [Nat.min_eq_right h, List.drop_of_length_le (Nat.le_refl _), List.drop_of_length_le h]
    simp
theorem cut_n {l : List Nat} {b : Nat} : cutS (S l) none (some (b : Int)) = S (l.take b) := by
  rw [cut_S, sIx_pos (by omega), Int.toNat_natCast]
  show S ((l.drop 0).take (min b l.length - 0)) = S (l.take b)
  rw [List.drop_zero, Nat.sub_zero]
  rcases Nat.le_total b l.length with h | h
  · rw [Nat.min_eq_left h]
  · rw [Nat.min_eq_right h, List.take_of_length_le (Nat.le_refl _), List.take_of_length_le h]
theorem cut_from {l : List Nat} {a : Nat} : cutS (S l) (some (a : Int)) none = S (l.drop a) := by
  rw [cut_S, sIx_pos (by omega), Int.toNat_natCast]
  show S ((l.drop (min a l.length)).take (l.length - min a l.length)) = S (l.drop a)
  rcases Nat.le_total a l.length with h | h
  · rw [Nat.min_eq_left h, List.take_of_length_le (by rw [List.length_drop]; omega)]
  · rw [Nat.min_eq_right h, List.drop_of_length_le (Nat.le_refl _), List.drop_of_length_le h]
    simp
theorem rep_S (l : List Nat) (n : Int) : rep (S l) n = S (List.replicate n.toNat l).flatten := by
  unfold rep
  rw [cps_S]
theorem rep_one (c : Nat) (n : Nat) : (List.replicate n [c]).flatten = List.replicate n c := by
  induction n with
  | zero => rfl
  | succ n ih => rw [List.replicate_succ, List.flatten_cons, ih]; rfl
theorem joinL_nil (ls : List (List Nat)) : TL.joinL [] ls = ls.flatten := by
  induction ls with
  | nil => rfl
  | cons a r ih =>
    cases r with
    | nil => simp [TL.joinL]
    | cons b r => rw [TL.joinL, ih]; simp
theorem join_flat {e : Str} (he : e = S []) (ls : List (List Nat)) : Txt.join e (ls.map S) = S ls.flatten := by
  rw [he, join_S, joinL_nil]

/-! ### frames -/
def frL (l : List Nat) : List Nat := List.replicate (5 - (TL.numL l.length).length) 48 ++ TL.numL l.length ++ [58] ++ l ++ [59]
theorem numL5 {n : Nat} (h : n < 100000) : (TL.numL n).length ≤ 5 ∧ 1 ≤ (TL.numL n).length := by
  refine ⟨TL.numL_len (by decide) (by simpa using h), ?_⟩
  rcases Nat.eq_zero_or_pos (TL.numL n).length with e | e
  · exact absurd (List.length_eq_zero_iff.mp e) (TL.numL_ne n)
  · exact e
theorem frL_len {l : List Nat} (h : l.length < 100000) : (frL l).length = l.length + 7 := by
  obtain ⟨h1, h2⟩ := numL5 h
  unfold frL
  simp only [List.length_append, List.length_replicate, List.length_singleton]
  omega
theorem numL_pr (n : Nat) : Pr (TL.numL n) := fun c hc => by
  have := TL.numL_digits n c hc
  omega
theorem frL_pr {l : List Nat} (h : Pr l) : Pr (frL l) := by
  unfold frL
  refine pr_app (pr_app (pr_app (pr_app (fun c hc => ?_) (numL_pr _)) (pr_of (by decide))) h) (pr_of (by decide))
  rw [(List.mem_replicate.mp hc).2]
  omega
/-- str(n).zfill(5) -/
theorem zfill_S {n : Nat} (h : n < 100000) : Txt.zfill (S (TL.numL n)) 5 = S (List.replicate (5 - (TL.numL n).length) 48 ++ TL.numL n) := by
  obtain ⟨h1, h2⟩ := numL5 h
  unfold Txt.zfill
  rw [length_S]
  by_cases h5 : (TL.numL n).length = 5
  · rw [if_pos (by omega), h5]
    rfl
  · rw [if_neg (by omega)]
    have e : (5 : Int).toNat - (TL.numL n).length = 5 - (TL.numL n).length := rfl
    rw [e]
    obtain ⟨c, r, hc⟩ : ∃ c r, TL.numL n = c :: r := by
      cases q : TL.numL n with
      | nil => exact absurd q (TL.numL_ne n)
      | cons c r => exact ⟨c, r, rfl⟩
    have hd := TL.numL_digits n c (by rw [hc]; exact List.mem_cons_self)
    unfold zfilled
    have e0 : (S (TL.numL n)).cps[0]? = some c := by
      rw [hc]
      simp [S]
    rw [e0]
    have pad : Builtin.Str.padded (S (TL.numL n)) (5 - (TL.numL n).length) 0 48 = S (List.replicate (5 - (TL.numL n).length) 48 ++ TL.numL n) := by
      unfold Builtin.Str.padded
      simp [S]
    split
    · rename_i q; cases q; omega
    · rename_i q; cases q; omega
    · exact pad

/-! ### reading frames -/
def digs (l : List Nat) : Bool := l.all fun c => decide (48 ≤ c) && decide (c ≤ 57)
/-- the number of a head -/
def headN (h : List Nat) : Option Nat := if h.length < 6 ∨ h[5]? ≠ some 58 ∨ digs (h.take 5) = false then none else some (digitsVal (h.take 5))
/-- the end of the frame that begins at i -/
def fEnd (l : List Nat) (i : Nat) : Option Nat := match headN ((l.drop i).take 6) with
  | none => none
  | some n => if n ≤ 80000 ∧ (l.drop (i + 6 + n)).take 1 = [59] then some (i + 6 + n + 1) else none
theorem take1 {l : List Nat} {i c : Nat} (h : (l.drop i).take 1 = [c]) : i < l.length ∧ l[i]? = some c := by
  have hl : i < l.length := by
    rcases Nat.lt_or_ge i l.length with q | q
    · exact q
    · rw [List.drop_of_length_le q] at h
      cases h
  rw [List.drop_eq_getElem_cons hl] at h
  have h2 : [l[i]] = [c] := h
  refine ⟨hl, ?_⟩
  rw [List.getElem?_eq_getElem hl]
  cases h2
  rfl
theorem fEnd_bounds {l : List Nat} {i e : Nat} (h : fEnd l i = some e) : i + 7 ≤ e ∧ e ≤ l.length := by
  unfold fEnd at h
  split at h
  · cases h
  · split at h
    · rename_i q
      cases h
      obtain ⟨h1, _⟩ := take1 q.2
      omega
    · cases h
def scan : Nat → List Nat → Nat → List (List Nat) × Nat
  | 0, _, i => ([], i)
  | f + 1, l, i => match fEnd l i with
    | none => ([], i)
    | some e => ((l.drop (i + 6)).take (e - 1 - (i + 6)) :: (scan f l e).1, (scan f l e).2)
theorem scan_stable : ∀ (f f' : Nat) (l : List Nat) (i : Nat), l.length + 1 ≤ i + f → l.length + 1 ≤ i + f' → scan f l i = scan f' l i
  | 0, 0, _, _, _, _ => rfl
  | 0, f' + 1, l, i, h, _ => by
    unfold scan
    cases q : fEnd l i with
    | none => rfl
    | some e => have := fEnd_bounds q; omega
  | f + 1, 0, l, i, _, h => by
    unfold scan
    cases q : fEnd l i with
    | none => rfl
    | some e => have := fEnd_bounds q; omega
  | f + 1, f' + 1, l, i, h, h' => by
    unfold scan
    cases q : fEnd l i with
    | none => rfl
    | some e =>
      have := fEnd_bounds q
      simp only
      rw [scan_stable f f' l e (by omega) (by omega)]
/-- the frames from i on -/
def sc (l : List Nat) (i : Nat) : List (List Nat) × Nat := scan (l.length + 1) l i
theorem sc_none {l : List Nat} {i : Nat} (h : fEnd l i = none) : sc l i = ([], i) := by
  unfold sc scan
  rw [h]
theorem sc_some {l : List Nat} {i e : Nat} (h : fEnd l i = some e) : sc l i = ((l.drop (i + 6)).take (e - 1 - (i + 6)) :: (sc l e).1, (sc l e).2) := by
  have b := fEnd_bounds h
  have e1 : scan l.length l e = scan (l.length + 1) l e := scan_stable _ _ _ _ (by omega) (by omega)
  show scan (l.length + 1) l i = _
  rw [scan, h]
  simp only
  rw [e1]
  rfl
theorem sc_le : ∀ (f : Nat) (l : List Nat) (i : Nat), i ≤ l.length → i ≤ (scan f l i).2 ∧ (scan f l i).2 ≤ l.length ∧ (scan f l i).1.length * 7 + i ≤ (scan f l i).2
  | 0, l, i, h => ⟨Nat.le_refl _, h, by simp [scan]⟩
  | f + 1, l, i, h => by
    unfold scan
    cases q : fEnd l i with
    | none => exact ⟨Nat.le_refl _, h, by simp⟩
    | some e =>
      have b := fEnd_bounds q
      have r := sc_le f l e b.2
      refine ⟨by simp only; omega, r.2.1, ?_⟩
      simp only [List.length_cons]
      omega
theorem sc_bounds {l : List Nat} {i : Nat} (h : i ≤ l.length) : i ≤ (sc l i).2 ∧ (sc l i).2 ≤ l.length ∧ (sc l i).1.length * 7 + i ≤ (sc l i).2 := sc_le _ l i h
theorem digitsVal_lt : ∀ (l : List Nat), digs l = true → digitsVal l < 10 ^ l.length := by
  intro l
  have gen : ∀ (l : List Nat) (a k : Nat), digs l = true → a < 10 ^ k → l.foldl (fun acc c => acc * 10 + (c - 48)) a < 10 ^ (k + l.length) := by
    intro l
    induction l with
    | nil => intro a k _ h; exact h
    | cons c r ih =>
      intro a k hd h
      have hd' : (decide (48 ≤ c) && decide (c ≤ 57) && digs r) = true := hd
      simp only [Bool.and_eq_true, decide_eq_true_eq] at hd'
      rw [List.foldl_cons, List.length_cons]
      have q := ih (a * 10 + (c - 48)) (k + 1) hd'.2 (by rw [Nat.pow_succ]; omega)
      rw [show k + (r.length + 1) = k + 1 + r.length by omega]
      exact q
  intro h
  have q := gen l 0 0 h (by decide)
  simpa [digitsVal] using q
theorem intText_head {h : List Nat} (h5 : h.length = 5) (hd : digs h = true) : intText? (S h) = some ((digitsVal h : Nat) : Int) := int_S hd (fun e => by rw [e] at h5; cases h5) (by omega)

/-! ### texts as data -/
def strsV (ls : List (List Nat)) : List V := (ls.map S).map V.str
theorem strsV_len (ls : List (List Nat)) : (strsV ls).length = ls.length := by simp [strsV]
theorem strsV_app (ls : List (List Nat)) (l : List Nat) : strsV (ls ++ [l]) = strsV ls ++ [.str (S l)] := by simp [strsV]
theorem strsV_at {ls : List (List Nat)} {i : Nat} {x : V} (h : (strsV ls)[i]? = some x) : ∃ l, ls[i]? = some l ∧ x = .str (S l) ∧ l ∈ ls := by
  unfold strsV at h
  rw [List.getElem?_map, List.getElem?_map] at h
  cases e : ls[i]? with
  | none => rw [e] at h; cases h
  | some l =>
    rw [e] at h
    exact ⟨l, rfl, (Option.some.inj h).symm, List.mem_of_getElem? e⟩
def strsD (ls : List (List Nat)) : PyData := .list (ls.map fun l => .str (S l))
theorem dpAll_strs {K : PySem.W.Frag} {H : Hp} : ∀ ls : List (List Nat), DpAll K H (strsV ls) (ls.map fun l => .str (S l))
  | [] => .nil
  | l :: r => .cons (.str (S l)) (dpAll_strs r)
theorem dp_strs {K : PySem.W.Frag} {H : Hp} {a : Addr} {ls : List (List Nat)} (h : SqL K H a (strsV ls)) : Dp K H (.ref a) (strsD ls) := .lst h (dpAll_strs ls)
theorem strOk_S {l : List Nat} (h : Pr l) : PyData.strOk (S l) = true := by
  show (l.toArray.all fun c => decide (c < 0x110000)) = true
  rw [← Array.all_toList, List.all_eq_true]
  intro c hc
  have := h c (by simpa using hc)
  exact decide_eq_true (by omega)
theorem lay_strs : ∀ {ls : List (List Nat)}, (∀ l ∈ ls, Pr l) → PyData.canLayAll0 (ls.map fun l => .str (S l)) = true
  | [], _ => rfl
  | l :: r, h => by
    show (PyData.strOk (S l) && PyData.canLayAll0 (r.map fun l => .str (S l))) = true
    rw [strOk_S (h l List.mem_cons_self), lay_strs fun l hl => h l (List.mem_cons_of_mem _ hl)]
    rfl
theorem depth_strs : ∀ ls : List (List Nat), PyData.depthAll (ls.map fun l => .str (S l)) = 0
  | [] => rfl
  | l :: r => by
    show max 0 (PyData.depthAll (r.map fun l => .str (S l))) = 0
    rw [depth_strs r]
    rfl
theorem shaped_strs {ls : List (List Nat)} (h : ∀ l ∈ ls, Pr l) : SeqAt.shaped (strsD ls) = true := by
  show (PyData.canLayAll0 _ && decide (PyData.depthAll (ls.map fun l => .str (S l)) + 1 ≤ 64)) = true
  rw [lay_strs h, depth_strs]
  rfl
theorem shaped_pair {d : PyData} {i : Int} (h : SeqAt.shaped d = true) (hd : d.depth ≤ 10) : SeqAt.shaped (.tuple [d, .int i]) = true := by
  have h1 : (d.canLay0 && decide (d.depth ≤ 64)) = true := h
  rw [Bool.and_eq_true] at h1
  show ((d.canLay0 && true) && decide (max d.depth (max 0 0) + 1 ≤ 64)) = true
  rw [h1.1]
  simp
  omega
theorem depth_strsD (ls : List (List Nat)) : (strsD ls).depth = 1 := by
  show PyData.depthAll (ls.map fun l => .str (S l)) + 1 = 1
  rw [depth_strs]
theorem sc_pr {l : List Nat} (h : Pr l) : ∀ (f i : Nat), ∀ m ∈ (scan f l i).1, Pr m
  | 0, _, m, hm => by cases hm
  | f + 1, i, m, hm => by
    unfold scan at hm
    cases q : fEnd l i with
    | none => rw [q] at hm; cases hm
    | some e =>
      rw [q] at hm
      rcases List.mem_cons.mp hm with rfl | hm
      · exact pr_take _ (pr_drop _ h)
      · exact sc_pr h f e m hm
theorem eqv_self {d : PyData} (h : SeqAt.shaped d = true) : PyData.eqv d d = true := SeqAt.eqv_refl d (SeqAt.canLay_of_shaped h)
theorem eqv_nil (ds : List PyData) : PyData.eqv (.list ds) (.list []) = ds.isEmpty := by
  rw [PyData.eqv]
  cases ds <;> rfl
def isdig (c : Nat) : Bool := decide (48 ≤ c) && decide (c ≤ 57)
theorem digits_list : ("0123456789" : Str).cps.toList = [48, 49, 50, 51, 52, 53, 54, 55, 56, 57] := by decide +kernel
theorem dig_in (c : Nat) : decide (c ∈ ("0123456789" : Str).cps.toList) = isdig c := by
  rw [digits_list]
  unfold isdig
  rw [Bool.eq_iff_iff]
  simp only [decide_eq_true_eq, Bool.and_eq_true, List.mem_cons, List.not_mem_nil, or_false]
  omega
theorem digs_all (l : List Nat) : digs l = (l.map isdig).all id := by
  unfold digs
  rw [List.all_map]
  rfl
theorem signs_strs (cs : List Nat) : cs.map signV = strsV (cs.map fun c => [c]) := by
  unfold strsV
  rw [List.map_map, List.map_map]
  rfl
theorem pr_one {c : Nat} (h : 32 ≤ c ∧ c ≤ 126) : Pr [c] := pr_cons h pr_nil
theorem digs_filter : ∀ l : List Nat, digs l = (l.filter fun c => !isdig c).isEmpty
  | [] => rfl
  | c :: r => by
    show (isdig c && digs r) = _
    rw [digs_filter r, List.filter_cons]
    cases isdig c <;> rfl
end M9

/-! M11: what is read in a beginning of frames. -/
namespace M9
open PySem PySem.Spec PyProof.Rows L2 Z SX PySem.NumText

theorem digitsVal_zeros (k : Nat) (l : List Nat) : digitsVal (List.replicate k 48 ++ l) = digitsVal l := by
  unfold digitsVal
  rw [List.foldl_append]
  congr 1
  induction k with
  | zero => rfl
  | succ k ih => rw [List.replicate_succ, List.foldl_cons]; exact ih
def figs (n : Nat) : List Nat := List.replicate (5 - (TL.numL n).length) 48 ++ TL.numL n
theorem figs_len {n : Nat} (h : n < 100000) : (figs n).length = 5 := by
  obtain ⟨h1, h2⟩ := numL5 h
  unfold figs
  rw [List.length_append, List.length_replicate]
  omega
theorem figs_val (n : Nat) : digitsVal (figs n) = n := by
  unfold figs
  rw [digitsVal_zeros, TL.numL_val]
theorem figs_digs (n : Nat) : digs (figs n) = true := by
  unfold digs figs
  rw [List.all_eq_true]
  intro c hc
  rcases List.mem_append.mp hc with q | q
  · rw [(List.mem_replicate.mp q).2]
    rfl
  · have := TL.numL_digits n c q
    simpa using this
theorem frL_eq (m : List Nat) : frL m = figs m.length ++ (58 :: (m ++ [59])) := by
  unfold frL figs
  simp [List.append_assoc]
theorem head_fr {m rest : List Nat} (h : m.length ≤ 80000) : headN ((frL m ++ rest).take 6) = some m.length := by
  have h5 := figs_len (n := m.length) (by omega)
  have e : (frL m ++ rest).take 6 = figs m.length ++ [58] := by
    rw [frL_eq, List.append_assoc, List.take_append, h5, List.take_of_length_le (by omega)]
    rfl
  rw [e]
  unfold headN
  rw [if_neg, List.take_append_of_le_length (by omega), List.take_of_length_le (by omega), figs_val]
  rintro (z | z | z)
  · rw [List.length_append, h5] at z
    exact absurd z (by decide)
  · rw [List.getElem?_append_right (by omega), h5] at z
    exact z rfl
  · rw [List.take_append_of_le_length (by omega), List.take_of_length_le (by omega), figs_digs] at z
    cases z
theorem drop_fr {m rest : List Nat} (h : m.length ≤ 80000) : (frL m ++ rest).drop (6 + m.length) = 59 :: rest := by
  have h5 := figs_len (n := m.length) (by omega)
  rw [frL_eq]
  have e : figs m.length ++ (58 :: (m ++ [59])) ++ rest = (figs m.length ++ (58 :: m)) ++ (59 :: rest) := by simp [List.append_assoc]
  rw [e, List.drop_append_of_le_length (by rw [List.length_append, List.length_cons, h5]; omega), List.drop_of_length_le (by rw [List.length_append, List.length_cons, h5]; omega)]
  rfl
theorem body_fr {m rest : List Nat} (h : m.length ≤ 80000) : ((frL m ++ rest).drop 6).take m.length = m := by
  have h5 := figs_len (n := m.length) (by omega)
  rw [frL_eq]
  have e : figs m.length ++ (58 :: (m ++ [59])) ++ rest = (figs m.length ++ [58]) ++ (m ++ (59 :: rest)) := by simp [List.append_assoc]
  rw [e, List.drop_append_of_le_length (by rw [List.length_append, h5]; decide), List.drop_of_length_le (by rw [List.length_append, h5]; decide), List.nil_append, List.take_append_of_le_length (Nat.le_refl _), List.take_length]
theorem fEnd_fr {l m rest : List Nat} {i : Nat} (h : m.length ≤ 80000) (e : l.drop i = frL m ++ rest) : fEnd l i = some (i + m.length + 7) := by
  unfold fEnd
  rw [e, head_fr h]
  simp only
  have d : l.drop (i + 6 + m.length) = 59 :: rest := by
    rw [Nat.add_assoc, ← List.drop_drop, e, drop_fr h]
  rw [d, if_pos ⟨h, rfl⟩]
  congr 1
  omega
theorem fEnd_cut {l m rest : List Nat} {i k : Nat} (h : m.length ≤ 80000) (hk : k < m.length + 7) (e : l.drop i = (frL m ++ rest).take k) : fEnd l i = none := by
  unfold fEnd
  rw [e, List.take_take]
  rcases Nat.lt_or_ge k 6 with q | q
  · have hn : headN ((frL m ++ rest).take (min 6 k)) = none := by
      unfold headN
      rw [if_pos]
      refine .inl ?_
      rw [List.length_take]
      omega
    rw [hn]
  · rw [Nat.min_eq_left q, head_fr h]
    simp only
    have d : l.drop (i + 6 + m.length) = [] := by
      rw [Nat.add_assoc, ← List.drop_drop, e]
      refine List.drop_of_length_le ?_
      rw [List.length_take]
      omega
    rw [d, if_neg]
    rintro ⟨_, z⟩
    cases z
theorem fEnd_nil {l : List Nat} {i : Nat} (e : l.drop i = []) : fEnd l i = none := by
  unfold fEnd
  rw [e]
  rfl
/-- how many frames are whole among the first k signs -/
def cnt : List (List Nat) → Nat → Nat
  | [], _ => 0
  | m :: r, k => if m.length + 7 ≤ k then 1 + cnt r (k - (m.length + 7)) else 0
theorem cnt_le : ∀ (ls : List (List Nat)) (k : Nat), cnt ls k ≤ ls.length
  | [], _ => Nat.le_refl 0
  | m :: r, k => by
    unfold cnt
    have := cnt_le r (k - (m.length + 7))
    rw [List.length_cons]
    split <;> omega
def fl (ls : List (List Nat)) : List Nat := (ls.map frL).flatten
theorem fl_cons (m : List Nat) (r : List (List Nat)) : fl (m :: r) = frL m ++ fl r := by simp [fl]
theorem fl_app (a b : List (List Nat)) : fl (a ++ b) = fl a ++ fl b := by simp [fl]
theorem sc_cut : ∀ (ls : List (List Nat)) (l : List Nat) (i k : Nat), (∀ m ∈ ls, m.length ≤ 80000) → l.drop i = (fl ls).take k → sc l i = (ls.take (cnt ls k), i + (fl (ls.take (cnt ls k))).length)
  | [], l, i, k, _, e => by
    have e' : l.drop i = [] := by rw [e]; simp [fl]
    rw [sc_none (fEnd_nil e')]
    simp [fl]
  | m :: r, l, i, k, h, e => by
    have hm := h m List.mem_cons_self
    have lm := frL_len (l := m) (by omega)
    rw [fl_cons] at e
    unfold cnt
    by_cases hk : m.length + 7 ≤ k
    · rw [if_pos hk]
      have e1 : l.drop i = frL m ++ (fl r).take (k - (m.length + 7)) := by
        rw [e, List.take_append, lm, List.take_of_length_le (by omega)]
      have e2 : l.drop (i + m.length + 7) = (fl r).take (k - (m.length + 7)) := by
        rw [Nat.add_assoc, ← List.drop_drop, e1, List.drop_append_of_le_length (by omega), List.drop_of_length_le (by omega), List.nil_append]
      have ih := sc_cut r l (i + m.length + 7) (k - (m.length + 7)) (fun x hx => h x (List.mem_cons_of_mem _ hx)) e2
      rw [sc_some (fEnd_fr hm e1), ih]
      have e3 : (l.drop (i + 6)).take (i + m.length + 7 - 1 - (i + 6)) = m := by
        rw [← List.drop_drop, e1, show i + m.length + 7 - 1 - (i + 6) = m.length by omega, body_fr hm]
      rw [e3, Nat.add_comm 1, List.take_succ_cons, fl_cons, List.length_append, lm]
      simp only [Prod.mk.injEq, true_and]
      omega
    · rw [if_neg hk, sc_none (fEnd_cut hm (by omega) e)]
      simp [fl]
theorem cnt_full : ∀ (ls : List (List Nat)) (k : Nat), (∀ m ∈ ls, m.length ≤ 80000) → (fl ls).length ≤ k → cnt ls k = ls.length
  | [], _, _, _ => rfl
  | m :: r, k, h, hk => by
    have lm := frL_len (l := m) (by have := h m List.mem_cons_self; omega)
    rw [fl_cons, List.length_append, lm] at hk
    unfold cnt
    rw [if_pos (by omega), cnt_full r _ (fun x hx => h x (List.mem_cons_of_mem _ hx)) (by omega), List.length_cons]
    omega
/-- one sign less: the last one is lost -/
theorem cnt_last : ∀ (ls : List (List Nat)), (∀ m ∈ ls, m.length ≤ 80000) → cnt ls ((fl ls).length - 1) = ls.length - 1
  | [], _ => rfl
  | [m], h => by
    have lm := frL_len (l := m) (by have := h m List.mem_cons_self; omega)
    unfold cnt
    rw [fl_cons, List.length_append, lm, show (fl []).length = 0 from rfl, if_neg (by omega)]
    rfl
  | m :: n :: r, h => by
    have lm := frL_len (l := m) (by have := h m List.mem_cons_self; omega)
    have ln := frL_len (l := n) (by have := h n (List.mem_cons_of_mem _ List.mem_cons_self); omega)
    have ih := cnt_last (n :: r) fun x hx => h x (List.mem_cons_of_mem _ hx)
    have l2 : (fl (n :: r)).length = n.length + 7 + (fl r).length := by rw [fl_cons, List.length_append, ln]
    rw [cnt, fl_cons, List.length_append, lm, if_pos (by omega), show m.length + 7 + (fl (n :: r)).length - 1 - (m.length + 7) = (fl (n :: r)).length - 1 by omega, ih]
    simp only [List.length_cons]
    omega
theorem fl_take {ls : List (List Nat)} (j : Nat) : (fl ls).take (fl (ls.take j)).length = fl (ls.take j) := by
  have e : fl ls = fl (ls.take j) ++ fl (ls.drop j) := by rw [← fl_app, List.take_append_drop]
  rw [e, List.take_append_of_le_length (Nat.le_refl _), List.take_length]
theorem fl_rep (n : Nat) (m : List Nat) : fl (List.replicate n m) = (List.replicate n (frL m)).flatten := by
  unfold fl
  rw [List.map_replicate]
theorem cnt_rep (n : Nat) (m : List Nat) : ∀ k, cnt (List.replicate n m) k = min n (k / (m.length + 7)) := by
  induction n with
  | zero => intro k; simp [cnt]
  | succ n ih =>
    intro k
    rw [List.replicate_succ, cnt]
    by_cases hk : m.length + 7 ≤ k
    · rw [if_pos hk, ih]
      have : k / (m.length + 7) = (k - (m.length + 7)) / (m.length + 7) + 1 := by
        rw [Nat.div_eq, if_pos ⟨by omega, hk⟩]
      omega
    · rw [if_neg hk, Nat.div_eq_of_lt (by omega)]
      simp
/-- the ends of frames -/
def endsL : Nat → List (List Nat) → List Nat
  | _, [] => []
  | a, m :: r => (a + m.length + 7) :: endsL (a + m.length + 7) r
theorem endsL_len : ∀ (a : Nat) (ls : List (List Nat)), (endsL a ls).length = ls.length
  | _, [] => rfl
  | a, m :: r => by rw [endsL, List.length_cons, endsL_len, List.length_cons]
theorem endsL_ge : ∀ (a : Nat) (ls : List (List Nat)), ∀ e ∈ endsL a ls, a + 7 ≤ e
  | _, [], e, h => by cases h
  | a, m :: r, e, h => by
    rcases List.mem_cons.mp h with rfl | h
    · omega
    · have := endsL_ge (a + m.length + 7) r e h
      omega
theorem endsL_cnt : ∀ (ls : List (List Nat)) (a k : Nat), ((endsL a ls).filter fun e => decide (e ≤ a + k)).length = cnt ls k
  | [], _, _ => rfl
  | m :: r, a, k => by
    rw [endsL, cnt, List.filter_cons]
    by_cases hk : m.length + 7 ≤ k
    · rw [if_pos (decide_eq_true (by omega)), if_pos hk, List.length_cons, ← endsL_cnt r (a + m.length + 7) (k - (m.length + 7))]
      have : a + m.length + 7 + (k - (m.length + 7)) = a + k := by omega
      rw [this]
      omega
    · rw [if_neg (by simpa using (by omega : ¬ a + m.length + 7 ≤ a + k)), if_neg hk]
      have : (endsL (a + m.length + 7) r).filter (fun e => decide (e ≤ a + k)) = [] := by
        rw [List.filter_eq_nil_iff]
        intro e he
        have := endsL_ge _ _ e he
        simp only [decide_eq_true_eq]
        omega
      rw [this]
      rfl
theorem endsL_app : ∀ (a : Nat) (ls : List (List Nat)) (m : List Nat), (∀ x ∈ ls, x.length ≤ 80000) → endsL a (ls ++ [m]) = endsL a ls ++ [a + (fl ls).length + m.length + 7]
  | a, [], m, _ => by simp [endsL, fl]
  | a, x :: r, m, h => by
    have lx := frL_len (l := x) (by have := h x List.mem_cons_self; omega)
    rw [List.cons_append, endsL, endsL_app (a + x.length + 7) r m fun y hy => h y (List.mem_cons_of_mem _ hy), endsL, fl_cons, List.length_append, lx, List.cons_append]
    congr 3
    omega
theorem endsL_at : ∀ (ls : List (List Nat)) (a j : Nat), (∀ x ∈ ls, x.length ≤ 80000) → j < ls.length → (endsL a ls)[j]? = some (a + (fl (ls.take (j + 1))).length)
  | m :: r, a, 0, h, _ => by
    have lm := frL_len (l := m) (by have := h m List.mem_cons_self; omega)
    rw [endsL, List.take_succ_cons, fl_cons, List.length_append, lm]
    simp [fl]
    omega
  | m :: r, a, j + 1, h, hj => by
    have lm := frL_len (l := m) (by have := h m List.mem_cons_self; omega)
    rw [endsL, List.getElem?_cons_succ, endsL_at r (a + m.length + 7) j (fun y hy => h y (List.mem_cons_of_mem _ hy)) (by simpa using hj), List.take_succ_cons, fl_cons, List.length_append, lm]
    congr 1
    omega
end M9

namespace L11_
open PySem PySem.Spec PyProof.Rows L2 Z
open SX M9
def top (i : Nat) : Stmt := PySem.Challenge.pw_inorderonce_k11_frames_cut_anywhere.main.body.getD i (.Pass ⟨0, 0, 0, 0⟩)
structure Txt (K : PySem.W.Frag) (mg : Str → Option Value) : Prop where
  n_int : mg "int" = none
  n_str : mg "str" = none
  n_len : mg "len" = none
  n_isinstance : mg "isinstance" = none
  n_tuple : mg "tuple" = none
  n_list : mg "list" = none
  n_all : mg "all" = none
  n_bool : mg "bool" = none
  n_min : mg "min" = none
  n_abs : mg "abs" = none
  n_sum : mg "sum" = none
  n_range : mg "range" = none
  n_max : mg "max" = none
  c_MOST_SIGNS : ∃ u, mg "MOST_SIGNS" = some u ∧ RelV (.int (80000)) u
  c_FIGURES : ∃ u, mg "FIGURES" = some u ∧ RelV (.str "0123456789") u
theorem bt_int : bootBuiltins "int" = some (.type "int") := by decide +kernel
theorem bt_str : bootBuiltins "str" = some (.type "str") := by decide +kernel
theorem bt_len : bootBuiltins "len" = some (.builtin "len") := by decide +kernel
theorem bt_isinstance : bootBuiltins "isinstance" = some (.builtin "isinstance") := by decide +kernel
theorem bt_tuple : bootBuiltins "tuple" = some (.type "tuple") := by decide +kernel
theorem bt_list : bootBuiltins "list" = some (.type "list") := by decide +kernel
theorem bt_all : bootBuiltins "all" = some (.builtin "all") := by decide +kernel
theorem bt_bool : bootBuiltins "bool" = some (.type "bool") := by decide +kernel
theorem bt_min : bootBuiltins "min" = some (.builtin "min") := by decide +kernel
theorem bt_abs : bootBuiltins "abs" = some (.builtin "abs") := by decide +kernel
theorem bt_sum : bootBuiltins "sum" = some (.builtin "sum") := by decide +kernel
theorem bt_max : bootBuiltins "max" = some (.builtin "max") := by decide +kernel


local macro_rules | `(tactic| walk_at "hp") => `(tactic| first | assumption | (refine Nw.keep (by assumption) ?_; walk_at "hp") | (refine But.at (by assumption) (by assumption) ?_; walk_at "hp") | (refine Wr.keep (by assumption) (by assumption) ?_; walk_at "hp"))
/-! ### promises -/
/-- a box of digits and draws, with at most n draws so far -/
def BoxAt (n : Nat) (H : Hp) (b : Addr) : Prop := ∃ (g : Int) (f : Bool) (s c : Int), H b = some (.lst [.int g, .bl f, .int s, .int c]) ∧ 0 ≤ g ∧ 0 ≤ s ∧ s < 2147483648 ∧ 0 ≤ c ∧ c ≤ n
theorem BoxAt.mono {n m : Nat} {H : Hp} {b : Addr} (h : BoxAt n H b) (e : n ≤ m) : BoxAt m H b := by
  obtain ⟨g, f, s, c, h1, h2, h3, h4, h5, h6⟩ := h
  exact ⟨g, f, s, c, h1, h2, h3, h4, h5, by omega⟩
theorem BoxAt.same {n : Nat} {H H2 : Hp} {b : Addr} (h : BoxAt n H b) (e : Same H H2) : BoxAt n H2 b := by
  obtain ⟨g, f, s, c, h1, h2⟩ := h
  exact ⟨g, f, s, c, e _ _ h1, h2⟩
theorem BoxAt.some {n : Nat} {H : Hp} {b : Addr} (h : BoxAt n H b) : ∃ o, H b = Option.some o := by
  obtain ⟨g, f, s, c, h1, h2⟩ := h
  exact ⟨_, h1⟩
theorem BoxAt.ne {n : Nat} {H : Hp} {b p : Addr} (h : BoxAt n H b) (e : H p = none) : b ≠ p := by
  obtain ⟨o, h⟩ := h.some
  exact ne_of_none h e
theorem BoxAt.wr {n : Nat} {H H2 : Hp} {b l : Addr} {o : HO} (h : BoxAt n H b) (e : b ≠ l) (w : Wr H l o H2) : BoxAt n H2 b := by
  obtain ⟨g, f, s, c, h1, h2⟩ := h
  exact ⟨g, f, s, c, w.keep e h1, h2⟩
theorem BoxAt.but {n : Nat} {H H2 : Hp} {b l : Addr} (h : BoxAt n H b) (e : b ≠ l) (w : But l H H2) : BoxAt n H2 b := by
  obtain ⟨g, f, s, c, h1, h2⟩ := h
  exact ⟨g, f, s, c, w.at e h1, h2⟩
def TX (n : Nat) (l : List Nat) : Prop := Pr l ∧ l.length ≤ n
def sp__law_box (K : PySem.W.Frag) : Sp := sp1 fun great H Q _ => ∃ g, great = .int g ∧ ∀ b H2, H b = none → Same H H2 → BoxAt 0 H2 b → Q (.ref b) H2
def sp__law_cell (K : PySem.W.Frag) : Sp := sp2 fun script k H Q _ => ∃ (a : Addr) (i : Int) (ns : List Int), script = .ref a ∧ k = .int i ∧ 0 ≤ i ∧ i < 1000 ∧ SqL K H a (ns.map V.int) ∧ ns.length ≤ 63 ∧ ∀ z H2, Same H H2 → Q (.int z) H2
def sp__law_take (K : PySem.W.Frag) : Sp := sp2 fun box many H Q _ => ∃ (b : Addr) (m : Int) (n : Nat), box = .ref b ∧ many = .int m ∧ 0 < m ∧ m < 1000000 ∧ BoxAt n H b ∧ n < 1000000 ∧ ∀ r H2, But b H H2 → BoxAt (n + 1) H2 b → 0 ≤ r → r < m → Q (.int r) H2
def sp__law_sign (K : PySem.W.Frag) : Sp := sp2 fun box near H Q _ => ∃ (b : Addr) (k : Bool) (n : Nat), box = .ref b ∧ near = .bl k ∧ BoxAt n H b ∧ n < 900000 ∧ ∀ c H2, But b H H2 → BoxAt (n + 1) H2 b → 32 ≤ c ∧ c ≤ 126 → Q (.str (S [c])) H2
def sp__law_frame (K : PySem.W.Frag) : Sp := sp1 fun row H Q _ => ∃ l, row = .str (S l) ∧ l.length ≤ 80000 ∧ Q (.str (S (frL l))) H
def sp__law_text (K : PySem.W.Frag) : Sp := sp1 fun box H Q _ => ∃ (b : Addr) (n : Nat), box = .ref b ∧ BoxAt n H b ∧ n < 800000 ∧ ∀ l H2, But b H H2 → BoxAt (n + 20) H2 b → TX 101 l → Q (.str (S l)) H2
def sp__law_texts (K : PySem.W.Frag) : Sp := sp1 fun box H Q _ => ∃ (b : Addr) (n : Nat), box = .ref b ∧ BoxAt n H b ∧ n < 700000 ∧
  ∀ p ls H2, H p = none → But b H H2 → BoxAt (n + 200) H2 b → H2 p = some (.lst (strsV ls)) → ls.length ≤ 7 → (∀ l ∈ ls, TX 101 l) → Q (.ref p) H2
def sp_is_signs (K : PySem.W.Frag) : Sp := sp1 fun v H Q _ => ∃ l, v = .str (S l) ∧ Pr l ∧ Q (.bl true) H
def sp_has_frame (K : PySem.W.Frag) : Sp := sp1 fun v H Q _ => ∃ l, v = .str (S l) ∧ Pr l ∧ l.length ≤ 80000 ∧ Q (.bl true) H
def sp_framed (K : PySem.W.Frag) : Sp := sp1 fun v H Q _ => ∃ l, v = .str (S l) ∧ Pr l ∧ l.length ≤ 80000 ∧ Q (.str (S (frL l))) H
def sp_is_list (K : PySem.W.Frag) : Sp := sp1 fun v H Q _ => ∃ a xs, v = .ref a ∧ (SqL K H a xs ∨ SqT K H a xs) ∧ ∀ H2, Same H H2 → Q (.bl true) H2
def sp_check_texts (K : PySem.W.Frag) : Sp := sp1 fun v H Q _ => ∃ a ls, v = .ref a ∧ (SqL K H a (strsV ls) ∨ SqT K H a (strsV ls)) ∧ (∀ l ∈ ls, Pr l ∧ l.length ≤ 80000) ∧ ∀ H2, Same H H2 → Q .non H2
def sp_all_framed (K : PySem.W.Frag) : Sp := sp1 fun v H Q _ => ∃ a ls, v = .ref a ∧ (SqL K H a (strsV ls) ∨ SqT K H a (strsV ls)) ∧ (∀ l ∈ ls, Pr l ∧ l.length ≤ 80000) ∧ (ls.map frL).flatten.length ≤ 1000000 ∧
  ∀ H2, Same H H2 → Q (.str (S (ls.map frL).flatten)) H2
def optV : Option Nat → V
  | none => .non
  | some e => .int (e : Nat)
def sp_frame_end (K : PySem.W.Frag) : Sp := sp2 fun v u H Q _ => ∃ (l : List Nat) (i : Nat), v = .str (S l) ∧ u = .int (i : Nat) ∧ Pr l ∧ i ≤ l.length ∧ l.length ≤ 1000000 ∧ ∀ H2, Same H H2 → Q (optV (fEnd l i)) H2
def sp_frames_in (K : PySem.W.Frag) : Sp := sp1 fun v H Q _ => ∃ l, v = .str (S l) ∧ Pr l ∧ l.length ≤ 1000000 ∧
  ∀ p q H2, Same H H2 → H p = none → H q = none → H2 q = some (.lst (strsV (sc l 0).1)) → H2 p = some (.tup [.ref q, .int ((sc l 0).2 : Nat)]) → Q (.ref p) H2
def sp_is_whole (K : PySem.W.Frag) : Sp := sp1 fun v H Q _ => ∃ l, v = .str (S l) ∧ Pr l ∧ l.length ≤ 1000000 ∧ ∀ H2, Same H H2 → Q (.bl (decide ((sc l 0).2 = l.length))) H2
def sp__law_read (K : PySem.W.Frag) : Sp := sp1 fun v H Q _ => ∃ l, v = .str (S l) ∧ Pr l ∧ l.length ≤ 80000 ∧
  ∀ p q H2, Same H H2 → H p = none → H q = none → H2 q = some (.lst (strsV (sc l 0).1)) → H2 p = some (.tup [.ref q, .int ((sc l 0).2 : Nat)]) → Q (.ref p) H2
def sp__law_reads_right (K : PySem.W.Frag) : Sp := sp1 fun v H Q _ => ∃ l, v = .str (S l) ∧ Pr l ∧ l.length ≤ 80000 ∧ ∀ H2, Same H H2 → Q (.bl true) H2
def sp__law_frames_right (K : PySem.W.Frag) : Sp := sp2 fun v u H Q _ => ∃ a c ls ms, v = .ref a ∧ u = .ref c ∧ H a = some (.lst (strsV ls)) ∧ H c = some (.lst (strsV ms)) ∧ ls.length ≤ 7 ∧ ms.length ≤ 7 ∧ (∀ l ∈ ls, TX 101 l) ∧ (∀ l ∈ ms, TX 101 l) ∧
  ∀ H2, Same H H2 → Q (.bl true) H2
def sp__law_turned (K : PySem.W.Frag) : Sp := sp2 fun box v H Q _ => ∃ (b : Addr) (n : Nat) (m : List Nat), box = .ref b ∧ v = .str (S (frL m)) ∧ TX 101 m ∧ BoxAt n H b ∧ n < 800000 ∧ ∀ l H2, But b H H2 → BoxAt (n + 10) H2 b → TX 120 l → Q (.str (S l)) H2
def sp__law_tail (K : PySem.W.Frag) : Sp := sp1 fun box H Q _ => ∃ (b : Addr) (n : Nat), box = .ref b ∧ BoxAt n H b ∧ n < 700000 ∧ ∀ l H2, But b H H2 → BoxAt (n + 60) H2 b → TX 120 l → Q (.str (S l)) H2
def sp_law (K : PySem.W.Frag) : Sp := sp1 fun v H Q _ => ∃ (a : Addr) (ns : List Int), v = .ref a ∧ SqL K H a (ns.map V.int) ∧ ns.length ≤ 63 ∧ ∀ H2, Q (.bl true) H2
theorem lit_0 : ("0" : Str) = S [48] := by decide +kernel
theorem lit_colon : (":" : Str) = S [58] := by decide +kernel
theorem lit_semi : (";" : Str) = S [59] := by decide +kernel
theorem lit_nil : ("" : Str) = S [] := by decide +kernel
theorem log_small {n : Nat} (h : n < 10000000) : ((n : Nat) : Int).natAbs.log2 < 1920 := by
  rw [Int.natAbs_natCast]
  rcases Nat.eq_zero_or_pos n with e | e
  · subst e; decide
  · have q : 2 ^ n.log2 ≤ n := Nat.log2_self_le (by omega)
    have h2 : n < 2 ^ 24 := by omega
    have : n.log2 < 24 := (Nat.pow_lt_pow_iff_right (by decide : 1 < 2)).mp (Nat.lt_of_le_of_lt q h2)
    omega
theorem joinSz (ls : List (List Nat)) (h : ls.flatten.length ≤ 10000000) : ((ls.map S).map (·.length)).sum + (ls.map S).length * ("" : Str).length ≤ 16777216 := by
  rw [lit_nil, length_S, lens, ← List.length_flatten]
  show _ + _ * 0 ≤ _
  omega
theorem neq_lit {t : Str} {l m : List Nat} (ht : t = S m) (h : ¬ (true ^^ decide (V.str (S l) = V.str t)) = true) : l = m := by
  by_cases e : V.str (S l) = V.str t
  · rw [ht] at e
    exact S_inj (V.str.inj e)
  · rw [decide_eq_false e] at h
    exact absurd rfl h
theorem neq_lit1 {t : Str} {c d : Nat} (ht : t = S [d]) (h : ¬ (true ^^ decide (V.str (S [c]) = V.str t)) = true) : c = d := (List.cons.inj (neq_lit ht h)).1
theorem nself (x : V) : (true ^^ decide (x = x)) = false := by rw [decide_eq_true rfl]; rfl
theorem eself (x : V) : (false ^^ decide (x = x)) = true := by rw [decide_eq_true rfl]; rfl
theorem frs_len {k : Nat} (hk : k ≤ 80000) : ∀ {ls : List (List Nat)}, (∀ l ∈ ls, TX k l) → (ls.map frL).flatten.length ≤ ls.length * (k + 7)
  | [], _ => Nat.zero_le _
  | l :: r, h => by
    have h1 := (h l List.mem_cons_self).2
    have h2 := frs_len hk fun m hm => h m (List.mem_cons_of_mem _ hm)
    rw [List.map_cons, List.flatten_cons, List.length_append, List.length_cons, frL_len (by omega), Nat.succ_mul]
    omega
theorem frs_pr {ls : List (List Nat)} (h : ∀ l ∈ ls, Pr l) : Pr (ls.map frL).flatten := pr_flat fun l hl => by
  obtain ⟨m, hm, rfl⟩ := List.mem_map.mp hl
  exact frL_pr (h m hm)
/-- ''.join([_law_frame(row) for row in xs]): the block over a list of texts -/
theorem frs_lc {K : PySem.W.Frag} {a D : Addr} {ls : List (List Nat)} {H1 : Hp} {σ : L2.St} {i : Nat} {Qd : Hp → Prop} (hls : ls.length ≤ 1000) (hz : ∀ l ∈ ls, l.length ≤ 80000) (hx : SqL K H1 a (strsV ls)) (hD : H1 D = none)
    (hw : ∀ v, wipe ((wipe σ [i]).set i (some v)) [i] = wipe σ [i]) (hi : ∀ v, ((wipe σ [i]).set i (some v))[i]? = some (some v)) (hd : ∀ H, H D = some (.lst (strsV (ls.map frL))) → Same H1 H → Qd H) :
    ∃ W : Nat → Nat → List V → Hp → Prop, (∃ m, ∀ H2, Nw H1 D (.lst []) H2 → W 0 m [] H2) ∧
  ∀ t m acc H, H D = some (.lst acc) → W t m acc H → ((Itl K a).stop t H ∧ Qd H) ∨
    (acc.length < sizeLine ∧ (Itl K a).go t H ∧ ∃ Nx : List V → Hp → Prop, (∀ a' H', Nx a' H' → ∃ m', m' < m ∧ W (t + 1) m' a' H') ∧ ∀ x H', (Itl K a).yld t H x H' → gName i x (wipe σ [i]) H' fun σ2 H2 => wipe σ2 [i] = wipe σ [i] ∧ tYes σ2 H2 fun b H3 =>
      if b = true then tCl (sp__law_frame K) E0 (tCons (tV i) tNil) σ2 H3 fun y H4 => H4 D = some (.lst acc) ∧ ∀ H5, Wr H4 D (.lst (acc ++ [y])) H5 → Nx (acc ++ [y]) H5 else H3 D = some (.lst acc) ∧ Nx acc H3) := by
  refine lc_w (wk_list (strsV ls)) (by rw [strsV_len]; omega) (fun t acc H3 => Same H1 H3 ∧ acc = strsV ((ls.take t).map frL)) (fun H3 n3 => ⟨n3.same, rfl⟩) (fun t acc H3 p => sqL_same p.1 hx)
    (fun t acc H3 p => by rw [p.2, strsV_len, List.length_map, List.length_take]; omega) ?_ ?_
  · rintro t x acc H3 hx' hD3 ⟨s3, rfl⟩
    obtain ⟨l, h1, rfl, hm⟩ := strsV_at hx'
    refine ⟨hw _, ?_⟩
    show tV i ((wipe σ [i]).set i (some (V.str (S l)))) H3 _
    unfold tV
    rw [hi]
    refine ⟨l, rfl, hz l hm, hD3, fun H5 w5 => ⟨s3.wr hD w5, ?_⟩⟩
    rw [List.take_add_one, h1, List.map_append]
    exact (strsV_app _ _).symm
  · rintro acc H4 _ h4 ⟨s4, rfl⟩
    rw [strsV_len, List.take_length] at h4
    exact hd H4 h4 s4
theorem frL_dig {l : List Nat} (h : l.length < 100000) : ∃ d, (frL l)[4]? = some d ∧ 48 ≤ d ∧ d ≤ 57 := by
  obtain ⟨h1, h2⟩ := numL5 h
  have dig : ∀ c ∈ List.replicate (5 - (TL.numL l.length).length) 48 ++ TL.numL l.length, 48 ≤ c ∧ c ≤ 57 := fun c hc => by
    rcases List.mem_append.mp hc with q | q
    · rw [(List.mem_replicate.mp q).2]
      omega
    · exact TL.numL_digits _ c q
  have len : (List.replicate (5 - (TL.numL l.length).length) 48 ++ TL.numL l.length).length = 5 := by
    rw [List.length_append, List.length_replicate]
    omega
  unfold frL
  generalize List.replicate (5 - (TL.numL l.length).length) 48 ++ TL.numL l.length = z at dig len
  refine ⟨z[4], ?_, dig _ (List.getElem_mem _)⟩
  rw [List.append_assoc, List.append_assoc, List.getElem?_append_left (by omega)]
  exact List.getElem?_eq_getElem (by omega)
theorem int_dig {d : Nat} (h : 48 ≤ d ∧ d ≤ 57) : intText? (S [d]) = some ((d - 48 : Nat) : Int) := by
  have q := int_S (a := [d]) (by simp; omega) (by simp) (by show 1 ≤ 4300; decide)
  rw [q]
  simp [PySem.NumText.digitsVal]
theorem menuS (ts : List Str) {n : Nat} (ok : (ts.all fun t => (t.cps.toList.all fun c => decide (32 ≤ c) && decide (c ≤ 126)) && decide (t.cps.toList.length ≤ n)) = true) {r : Int} (h0 : 0 ≤ r) (h : r < (ts.length : Int)) :
    ∃ l, atI (ts.map V.str) r = some (.str (S l)) ∧ TX n l := by
  obtain ⟨v, h1, h2, _⟩ := atI_some (xs := ts.map V.str) h0 (by rw [List.length_map]; exact h)
  obtain ⟨t, ht, rfl⟩ := List.mem_map.mp h2
  have q := (List.all_eq_true.mp ok) t ht
  rw [Bool.and_eq_true] at q
  refine ⟨t.cps.toList, ?_, pr_of q.1, of_decide_eq_true q.2⟩
  rw [S_tl]
  exact h1
theorem cutV_strs (ls : List (List Nat)) (n : Nat) : cutV (strsV ls) none (some (n : Int)) = strsV (ls.take n) := by
  unfold cutV
  rw [sIx_pos (by omega), Int.toNat_natCast, strsV_len]
  show ((strsV ls).drop 0).take (min n ls.length - 0) = _
  rw [List.drop_zero, Nat.sub_zero]
  unfold strsV
  rw [List.map_take, List.map_take]
  rcases Nat.le_total n ls.length with q | q
  · rw [Nat.min_eq_left q]
  · rw [Nat.min_eq_right q, List.take_of_length_le (by simp), List.take_of_length_le (by simpa using q)]
/-- the signs of the alphabets -/
theorem near_item {t : Str} (h : (t.cps.toList.all fun c => decide (32 ≤ c) && decide (c ≤ 126)) = true) {r : Int} (h0 : 0 ≤ r) (h1 : r < (t.length : Int)) : ∃ c : Nat, atI t.cps.toList r = some c ∧ 32 ≤ c ∧ c ≤ 126 := by
  obtain ⟨c, e1, e2, _⟩ := atI_some (xs := t.cps.toList) h0 (by simpa [Str.length] using h1)
  have := (List.all_eq_true.mp h) c e2
  exact ⟨c, e1, by simpa using this⟩
theorem lit_z : ("00000:;" : Str) = S [48, 48, 48, 48, 48, 58, 59] := by decide +kernel
theorem rep_len (n : Nat) (m : List Nat) : ((List.replicate n m).flatten).length = n * m.length := by simp
def sp_is_integer (K : PySem.W.Frag) : Sp := sp1 fun v H Q _ => ∃ i : Int, v = .int i ∧ Q (.bl true) H
def sp_is_count (K : PySem.W.Frag) : Sp := sp1 fun v H Q _ => ∃ i : Int, v = .int i ∧ 0 ≤ i ∧ Q (.bl true) H
def sp_cut_at (K : PySem.W.Frag) : Sp := sp2 fun v u H Q _ => ∃ a ls k, v = .ref a ∧ u = .int (k : Nat) ∧ (SqL K H a (strsV ls) ∨ SqT K H a (strsV ls)) ∧ (∀ l ∈ ls, Pr l ∧ l.length ≤ 80000) ∧ ∀ H2, Same H H2 → Q (.int (cnt ls k : Nat)) H2
def sp__law_many_right (K : PySem.W.Frag) : Sp := sp1 fun box H Q _ => ∃ b : Addr, box = .ref b ∧ BoxAt 0 H b ∧ ∀ H2, But b H H2 → Q (.bl true) H2
def intsV (ns : List Nat) : List V := (ns.map fun n => ((n : Nat) : Int)).map V.int
theorem intsV_len (ns : List Nat) : (intsV ns).length = ns.length := by simp [intsV]
theorem intsV_app (ns : List Nat) (n : Nat) : intsV (ns ++ [n]) = intsV ns ++ [.int (n : Nat)] := by simp [intsV]
theorem intsV_at {ns : List Nat} {i : Nat} {x : V} (h : (intsV ns)[i]? = some x) : ∃ n, ns[i]? = some n ∧ x = .int (n : Nat) ∧ n ∈ ns := by
  unfold intsV at h
  rw [List.getElem?_map, List.getElem?_map] at h
  cases e : ns[i]? with
  | none => rw [e] at h; cases h
  | some n =>
    rw [e] at h
    exact ⟨n, rfl, (Option.some.inj h).symm, List.mem_of_getElem? e⟩
theorem intsV_get {ns : List Nat} {i n : Nat} (h : ns[i]? = some n) : (intsV ns)[i]? = some (.int (n : Nat)) := by
  unfold intsV
  rw [List.getElem?_map, List.getElem?_map, h]
  rfl
def sp__law_ends (K : PySem.W.Frag) : Sp := sp1 fun v H Q _ => ∃ a ls, v = .ref a ∧ SqL K H a (strsV ls) ∧ (∀ l ∈ ls, TX 101 l) ∧ ls.length ≤ 7 ∧ ∀ p H2, Same H H2 → H p = none → H2 p = some (.lst (intsV (endsL 0 ls))) → Q (.ref p) H2
def sp__law_cuts (K : PySem.W.Frag) : Sp := sp2 fun box v H Q _ => ∃ (b a : Addr) (n : Nat) (es : List Nat), box = .ref b ∧ v = .ref a ∧ BoxAt n H b ∧ n < 800000 ∧ H a = some (.lst (intsV es)) ∧ es.length ≤ 7 ∧ (∀ e ∈ es, 7 ≤ e ∧ e ≤ 10000) ∧
  ∀ p ns H2, H p = none → But b H H2 → BoxAt (n + 100) H2 b → H2 p = some (.lst (intsV ns)) → ns.length ≤ 1000 → Q (.ref p) H2
def sp__law_cut_right (K : PySem.W.Frag) : Sp := sp4 fun v u t g H Q _ => ∃ a e ls k, v = .ref a ∧ u = .ref e ∧ t = .str (S (fl ls)) ∧ g = .int (k : Nat) ∧ H a = some (.lst (strsV ls)) ∧ H e = some (.lst (intsV (endsL 0 ls))) ∧ ls.length ≤ 7 ∧ (∀ l ∈ ls, TX 101 l) ∧
  ∀ H2, Same H H2 → Q (.bl true) H2
def intsD (ns : List Nat) : PyData := .list (ns.map fun n => .int ((n : Nat) : Int))
theorem dpAll_ints {K : PySem.W.Frag} {H : Hp} : ∀ ns : List Nat, DpAll K H (intsV ns) (ns.map fun n => .int ((n : Nat) : Int))
  | [] => .nil
  | n :: r => .cons (.int _) (dpAll_ints r)
theorem dp_ints {K : PySem.W.Frag} {H : Hp} {a : Addr} {ns : List Nat} (h : SqL K H a (intsV ns)) : Dp K H (.ref a) (intsD ns) := .lst h (dpAll_ints ns)
theorem lay_ints : ∀ ns : List Nat, PyData.canLayAll0 (ns.map fun n => .int ((n : Nat) : Int)) = true
  | [] => rfl
  | n :: r => by
    show (true && PyData.canLayAll0 (r.map fun n => .int ((n : Nat) : Int))) = true
    rw [lay_ints r]
    rfl
theorem depth_ints : ∀ ns : List Nat, PyData.depthAll (ns.map fun n => .int ((n : Nat) : Int)) = 0
  | [] => rfl
  | n :: r => by
    show max 0 (PyData.depthAll (r.map fun n => .int ((n : Nat) : Int))) = 0
    rw [depth_ints r]
    rfl
theorem shaped_ints (ns : List Nat) : SeqAt.shaped (intsD ns) = true := by
  show (PyData.canLayAll0 _ && decide (PyData.depthAll (ns.map fun n => .int ((n : Nat) : Int)) + 1 ≤ 64)) = true
  rw [lay_ints, depth_ints]
  rfl
theorem ints_nil (ns : List Nat) : PyData.eqv (intsD ns) (.list []) = ns.isEmpty := by
  cases ns with
  | nil => rfl
  | cons a r => rfl
theorem atI_last {α : Type} (xs : List α) (x : α) : atI (xs ++ [x]) (-1) = some x := by
  have e : ixN (xs ++ [x]).length (-1) = some xs.length := by
    unfold ixN
    rw [List.length_append, List.length_singleton, if_neg (by decide), if_pos (by omega), show (-1 + ((xs.length + 1 : Nat) : Int)).toNat = xs.length by omega]
  unfold atI
  rw [e]
  simp
theorem fl_take_len (ls : List (List Nat)) (j : Nat) : (fl (ls.take j)).length ≤ (fl ls).length := by
  have e : fl ls = fl (ls.take j) ++ fl (ls.drop j) := by rw [← fl_app, List.take_append_drop]
  rw [e, List.length_append]
  omega
theorem endsL_le {ls : List (List Nat)} (h : ∀ x ∈ ls, x.length ≤ 80000) : ∀ e ∈ endsL 0 ls, e ≤ (fl ls).length := fun e he => by
  obtain ⟨j, hj⟩ := List.mem_iff_getElem?.mp he
  have hl := (List.getElem?_eq_some_iff.mp hj).1
  rw [endsL_len] at hl
  rw [endsL_at ls 0 j h hl, Nat.zero_add] at hj
  rw [← Option.some.inj hj]
  exact fl_take_len ls _
theorem cut_neg1 (l : List Nat) : cutS (S l) none (some (-1)) = S (l.take (l.length - 1)) := by
  rw [cut_S]
  show S ((l.drop 0).take ((if (-1 : Int) < 0 then (-1 + (l.length : Int)).toNat else min (-1 : Int).toNat l.length) - 0)) = _
  rw [if_pos (by decide), List.drop_zero, Nat.sub_zero, show (-1 + (l.length : Int)).toNat = l.length - 1 by omega]
theorem cutV_neg1 (ls : List (List Nat)) : cutV (strsV ls) none (some (-1)) = strsV (ls.take (ls.length - 1)) := by
  unfold cutV
  rw [strsV_len]
  show ((strsV ls).drop 0).take ((if (-1 : Int) < 0 then (-1 + (ls.length : Int)).toNat else min (-1 : Int).toNat ls.length) - 0) = _
  rw [if_pos (by decide), List.drop_zero, Nat.sub_zero, show (-1 + (ls.length : Int)).toNat = ls.length - 1 by omega]
  unfold strsV
  rw [List.map_take, List.map_take]
theorem strsV_cat (a b : List (List Nat)) : strsV a ++ strsV b = strsV (a ++ b) := by simp [strsV]
section
variable {P : Program} {w : World} {K : PySem.W.Frag} {mg : Str → Option Value} {base : Heap}
/-! ### _law_take(_law_box_here, _law_many), level 1 -/
abbrev s__law_take : Stmt := top 23
abbrev N__law_take : List Str := ["_law_box_here", "_law_many", "_law_digit", "_law_mixed"]
theorem sc__law_take : FnScope N__law_take ["_law_box_here", "_law_many"] (defScope s__law_take) := ⟨rfl, rfl, rfl, by decide +kernel, rfl, by decide +kernel, by decide +kernel⟩
theorem ok__law_take (T : Txt K mg) (D : Df K mg "_law_take" s__law_take ["_law_box_here", "_law_many"]) : Ct P w K mg base CX0 1 "_law_take" ["_law_box_here", "_law_many"] (sp__law_take K) := by
  refine ct2 D sc__law_take fun f cdv A outer s H a_box_here a_many Q E hr h => ⟨_, (pss_cons (ps_if (PW.pt (pw_and (pt_trK K (pe_ix (k_ix K) (pz 0) pe_int (fun _ _ => rfl))) (pw_and1 (pt_cmpZ o_gtS (pe_ix (k_ix K) (pz 0) pe_int (fun _ _ => rfl)) pe_int (nomark _))))) 
      (pss_cons (ps_set (i := 2) sc__law_take.nd rfl (Or.inl rfl) (pe_op o_mod (pe_callTy c_int (by rfl) T.n_int bt_int (pa_cons (pe_ix (k_ix K) (pz 0) pe_int (fun _ _ => rfl)) pa_nil)) (pz 1)))
      (pss_cons (ps_asg (pe_op o_fdiv (pe_ix (k_ix K) (pz 0) pe_int (fun _ _ => rfl)) (pz 1)) (pg_sub (pz 0) pe_int s_list))
      (pss_one (ps_ret (pz 2))))) pss_nil)
    (pss_cons (ps_asg (pe_op (k_add K) (pe_ix (k_ix K) (pz 0) pe_int (fun _ _ => rfl)) pe_int) (pg_sub (pz 0) pe_int s_list))
    (pss_cons (ps_set (i := 3) sc__law_take.nd rfl (Or.inl rfl) (pe_op o_mod (pe_callTy c_int (by rfl) T.n_int bt_int (pa_cons (pe_op o_pow (pe_op (k_add K) (pe_op (k_add K) (pe_ix (k_ix K) (pz 0) pe_int (fun _ _ => rfl)) (pe_op o_mul pe_int (pe_ix (k_ix K) (pz 0) pe_int (fun _ _ => rfl)))) pe_int) pe_int) pa_nil)) pe_int))
    (pss_one (ps_ret (pe_op o_mod (pe_op o_fdiv (pe_op o_mod (pe_callTy c_int (by rfl) T.n_int bt_int (pa_cons (pe_op o_pow (pe_op (k_add K) (pe_op o_mul (pz 3) pe_int) (pe_op o_mul pe_int (pe_ix (k_ix K) (pz 0) pe_int (fun _ _ => rfl)))) pe_int) pa_nil)) pe_int) pe_int) (pz 1))))))), ?_⟩
  obtain ⟨b, m, n, rfl, rfl, hm, hm2, hB, hn, k⟩ := h
  obtain ⟨g, f1, s1, c, hb, g0, s0, s2, c0, c1⟩ := id hB
  have two : (2 : Int) ^ 64 = 18446744073709551616 := by decide
  refine ⟨_, _, .inl (SqL.of hb), rfl, ?_⟩
  refine ite2 (fun h1 => ?_) (fun h1 => ?_)
  · refine ⟨_, _, .inl (SqL.of hb), rfl, ?_⟩
    refine ite2 (fun h2 => ?_) (fun h2 => ?_)
    · refine ⟨_, _, .inl (SqL.of hb), rfl, hm, ?_⟩
      refine ⟨_, _, .inl (SqL.of hb), rfl, ⟨hm, by omega⟩, ?_⟩
      refine ⟨_, 0, hb, rfl, fun H2 w => ?_⟩
      have hg : 0 < g := by simpa using h2
      exact k _ H2 w.but ⟨_, _, _, _, w.here, Int.ediv_nonneg g0 (by omega), s0, s2, c0, by omega⟩ (Int.emod_nonneg _ (by omega)) (Int.emod_lt_of_pos _ hm)
    · refine ⟨_, _, .inl (SqL.of hb), rfl, ?_⟩
      refine ⟨_, 3, hb, rfl, fun H2 w => ?_⟩
      refine ⟨_, _, .inl (SqL.of w.here), rfl, ?_⟩
      refine ⟨_, _, .inl (SqL.of w.here), rfl, .inl ⟨by omega, by omega⟩, ?_⟩
      refine ⟨⟨by decide, by decide, by omega⟩, by show (0 : Int) < _; decide, ?_⟩
      have q1 := Int.emod_nonneg ((s1 + 15485863 * (c + 1) + 179424697) ^ (5 : Int).toNat) (show (2147483647 : Int) ≠ 0 by decide)
      have q2 := Int.emod_lt_of_pos ((s1 + 15485863 * (c + 1) + 179424697) ^ (5 : Int).toNat) (show (0 : Int) < 2147483647 by decide)
      refine ⟨.inr ⟨by omega, by omega⟩, ?_⟩
      refine ⟨_, _, .inl (SqL.of w.here), rfl, .inl ⟨by omega, by omega⟩, ?_⟩
      generalize (s1 + 15485863 * (c + 1) + 179424697) ^ (5 : Int).toNat % 2147483647 = z at q1 q2 ⊢
      refine ⟨⟨by decide, by decide, by omega⟩, by show (0 : Int) < _; decide, ⟨by show (0 : Int) < _; decide, by show _ < (1073741824 : Int); decide⟩, hm, ?_⟩
      exact k _ H2 w.but ⟨_, _, _, _, w.here, g0, s0, s2, by omega, by omega⟩ (Int.emod_nonneg _ (by omega)) (Int.emod_lt_of_pos _ hm)
  · refine iteF ?_
    refine ⟨_, _, .inl (SqL.of hb), rfl, ?_⟩
    refine ⟨_, 3, hb, rfl, fun H2 w => ?_⟩
    refine ⟨_, _, .inl (SqL.of w.here), rfl, ?_⟩
    refine ⟨_, _, .inl (SqL.of w.here), rfl, .inl ⟨by omega, by omega⟩, ?_⟩
    refine ⟨⟨by decide, by decide, by omega⟩, by show (0 : Int) < _; decide, ?_⟩
    have q1 := Int.emod_nonneg ((s1 + 15485863 * (c + 1) + 179424697) ^ (5 : Int).toNat) (show (2147483647 : Int) ≠ 0 by decide)
    have q2 := Int.emod_lt_of_pos ((s1 + 15485863 * (c + 1) + 179424697) ^ (5 : Int).toNat) (show (0 : Int) < 2147483647 by decide)
    refine ⟨.inr ⟨by omega, by omega⟩, ?_⟩
    refine ⟨_, _, .inl (SqL.of w.here), rfl, .inl ⟨by omega, by omega⟩, ?_⟩
    generalize (s1 + 15485863 * (c + 1) + 179424697) ^ (5 : Int).toNat % 2147483647 = z at q1 q2 ⊢
    refine ⟨⟨by decide, by decide, by omega⟩, by show (0 : Int) < _; decide, ⟨by show (0 : Int) < _; decide, by show _ < (1073741824 : Int); decide⟩, hm, ?_⟩
    exact k _ H2 w.but ⟨_, _, _, _, w.here, g0, s0, s2, by omega, by omega⟩ (Int.emod_nonneg _ (by omega)) (Int.emod_lt_of_pos _ hm)

/-! ### _law_frame(_law_row), level 1 -/
abbrev s__law_frame : Stmt := top 25
abbrev N__law_frame : List Str := ["_law_row", "_law_count"]
theorem sc__law_frame : FnScope N__law_frame ["_law_row"] (defScope s__law_frame) := ⟨rfl, rfl, rfl, by decide +kernel, rfl, by decide +kernel, by decide +kernel⟩
theorem ok__law_frame (T : Txt K mg) (D : Df K mg "_law_frame" s__law_frame ["_law_row"]) : Ct P w K mg base CX0 1 "_law_frame" ["_law_row"] (sp__law_frame K) := by
  refine ct1 D sc__law_frame fun f cdv A outer s H a_row Q E hr h => ⟨_, (pss_cons (ps_set (i := 1) sc__law_frame.nd rfl (Or.inl rfl) (pe_callTy c_str (by rfl) T.n_str bt_str (pa_cons (pe_callB (k_len K) (by rfl) T.n_len bt_len (pa_cons (pz 0) pa_nil)) pa_nil)))
    (pss_one (ps_ret (pe_op (k_add K) (pe_op (k_add K) (pe_op (k_add K) (pe_op (k_add K) (pe_op o_mul pe_str (pe_op o_sub pe_int (pe_callB (k_len K) (by rfl) T.n_len bt_len (pa_cons (pz 1) pa_nil)))) (pz 1)) pe_str) (pz 0)) pe_str)))), ?_⟩
  obtain ⟨l, rfl, hl, q⟩ := h
  obtain ⟨n1, n2⟩ := numL5 (n := l.length) (by omega)
  refine ⟨sz (by rw [length_S]; omega), ?_⟩
  rw [length_S]
  refine ⟨log_small (by omega), ?_⟩
  rw [num_S]
  refine ⟨sz (by rw [length_S]; omega), ?_⟩
  rw [length_S]
  refine ⟨by omega, by omega, by show 1 * _ ≤ 1000000; omega, ?_⟩
  rw [lit_0, rep_S, show (5 - ((TL.numL l.length).length : Int)).toNat = 5 - (TL.numL l.length).length by omega, rep_one]
  refine ⟨sz (by rw [length_S, length_S, List.length_replicate]; omega), ?_⟩
  rw [S_cat]
  refine ⟨sz (by rw [length_S, List.length_append, List.length_replicate]; show _ + 1 ≤ 16000000; omega), ?_⟩
  rw [lit_colon, S_cat]
  refine ⟨sz (by simp only [length_S, List.length_append, List.length_replicate, List.length_singleton]; omega), ?_⟩
  rw [S_cat]
  refine ⟨sz (by simp only [length_S, List.length_append, List.length_replicate, List.length_singleton]; show _ + 1 ≤ 16000000; omega), ?_⟩
  rw [lit_semi, S_cat]
  exact q

/-! ### is_list(value), level 1 -/
abbrev s_is_list : Stmt := top 5
abbrev N_is_list : List Str := ["value"]
theorem sc_is_list : FnScope N_is_list ["value"] (defScope s_is_list) := ⟨rfl, rfl, rfl, by decide +kernel, rfl, by decide +kernel, by decide +kernel⟩
theorem ok_is_list (T : Txt K mg) (D : Df K mg "is_list" s_is_list ["value"]) : Ct P w K mg base CX0 1 "is_list" ["value"] (sp_is_list K) := by
  refine ct1 D sc_is_list fun f cdv A outer s H a_value Q E hr h => ⟨_, (pss_one (ps_ret (pe_callB (k_isi K) (by rfl) T.n_isinstance bt_isinstance (pa_cons (pz 0) (pa_cons (pe_tz (pa_cons (pe_bltn (v := .ty "list") (by rfl) T.n_list bt_list rfl) (pa_cons (pe_bltn (v := .ty "tuple") (by rfl) T.n_tuple bt_tuple rfl) pa_nil))) pa_nil))))), ?_⟩
  obtain ⟨a, xs, rfl, hx, q⟩ := h
  refine ⟨by show 2 ≤ sizeLine; decide, fun p H2 n2 => ?_⟩
  rcases hx with hx | hx
  · refine ⟨"list", "tuple", "list", n2.here, by decide, by decide, .inl ⟨rfl, xs, sqL_same n2.same hx⟩, ?_⟩
    exact q H2 n2.same
  · refine ⟨"list", "tuple", "tuple", n2.here, by decide, by decide, .inr (.inl ⟨rfl, xs, sqT_same n2.same hx⟩), ?_⟩
    exact q H2 n2.same

/-! ### is_signs(value), level 1 -/
abbrev s_is_signs : Stmt := top 8
abbrev N_is_signs : List Str := ["value"]
theorem sc_is_signs : FnScope N_is_signs ["value"] (defScope s_is_signs) := ⟨rfl, rfl, rfl, by decide +kernel, rfl, by decide +kernel, by decide +kernel⟩
theorem ok_is_signs (T : Txt K mg) (D : Df K mg "is_signs" s_is_signs ["value"]) : Ct P w K mg base CX0 1 "is_signs" ["value"] (sp_is_signs K) := by
  refine ct1 D sc_is_signs fun f cdv A outer s H a_value Q E hr h => ⟨_, (pss_one (ps_ret (pe_andZ (pe_callB (k_isi K) (by rfl) T.n_isinstance bt_isinstance (pa_cons (pz 0) (pa_cons (pe_bltn (v := .ty "str") (by rfl) T.n_str bt_str rfl) pa_nil))) (pe_andZ (pe_ms0 PySem.F.slot_str_isascii PySem.F.type_str_isascii m_isascii (pz 0)) (pe_one (pe_ms0 PySem.F.slot_str_isprintable PySem.F.type_str_isprintable m_isprintable (pz 0))))))), ?_⟩
  obtain ⟨l, rfl, hp, q⟩ := h
  refine ⟨by decide, "str", rfl, ?_⟩
  refine iteY (isascii_S hp) ?_
  show Q (.bl (Txt.isprintable (S l))) H
  rw [isprintable_S hp]
  exact q

/-! ### has_frame(value), level 2 -/
abbrev s_has_frame : Stmt := top 12
abbrev N_has_frame : List Str := ["value"]
theorem sc_has_frame : FnScope N_has_frame ["value"] (defScope s_has_frame) := ⟨rfl, rfl, rfl, by decide +kernel, rfl, by decide +kernel, by decide +kernel⟩
theorem ok_has_frame (T : Txt K mg) (C_is_signs : Ct P w K mg base CX0 1 "is_signs" ["value"] (sp_is_signs K)) (D : Df K mg "has_frame" s_has_frame ["value"]) : Ct P w K mg base CX0 2 "has_frame" ["value"] (sp_has_frame K) := by
  refine ct1 D sc_has_frame fun f cdv A outer s H a_value Q E hr h => ⟨_, (pss_one (ps_ret (pe_andZ (pe_cl C_is_signs (hr.mono (by decide)) pass0 (pa_cons (pz 0) pa_nil)) (pe_one (pe_cmpR o_le (pe_callB (k_len K) (by rfl) T.n_len bt_len (pa_cons (pz 0) pa_nil)) (pe_gk T.c_MOST_SIGNS) (nomark _)))))), ?_⟩
  obtain ⟨l, rfl, hp, hl, q⟩ := h
  refine ⟨l, rfl, hp, ?_⟩
  refine ⟨sz (by rw [length_S]; omega), ?_⟩
  show Q (.bl (decide (((S l).length : Int) ≤ 80000))) H
  rw [length_S, decide_eq_true (by omega)]
  exact q

/-! ### check_texts(texts), level 3 -/
abbrev s_check_texts : Stmt := top 13
abbrev N_check_texts : List Str := ["texts", "text"]
theorem sc_check_texts : FnScope N_check_texts ["texts"] (defScope s_check_texts) := ⟨rfl, rfl, rfl, by decide +kernel, rfl, by decide +kernel, by decide +kernel⟩
theorem ok_check_texts (C_is_list : Ct P w K mg base CX0 1 "is_list" ["value"] (sp_is_list K)) (C_has_frame : Ct P w K mg base CX0 2 "has_frame" ["value"] (sp_has_frame K)) (D : Df K mg "check_texts" s_check_texts ["texts"]) : Ct P w K mg base CX0 3 "check_texts" ["texts"] (sp_check_texts K) := by
  refine ct1 D sc_check_texts fun f cdv A outer s H a_texts Q E hr h => ⟨_, (pss_cons (ps_if (pt_not (pt_trK K (pe_cl C_is_list (hr.mono (by decide)) pass0 (pa_cons (pz 0) pa_nil)))) 
      (pss_one ps_never) pss_nil)
    (pss_one (ps_for PassesOwn.never rfl (pi_or (pi_lzK K (pz 0)) (pi_tzK K (pz 0))) (pg_name (i := 1) sc_check_texts.nd rfl (Or.inl rfl)) 
      (pss_one (ps_if (pt_not (pt_trK K (pe_cl C_has_frame (hr.mono (by decide)) pass0 (pa_cons (pz 1) pa_nil)))) 
        (pss_one ps_never) pss_nil))))), ?_⟩
  obtain ⟨a, ls, rfl, hx, hls, q⟩ := h
  refine ⟨a, strsV ls, rfl, hx, fun H2 s2 => ?_⟩
  rcases hx with hx | hx
  · refine .inl ⟨⟨_, sqL_same s2 hx⟩, for_w (wk_list (strsV ls)) (fun i σ H' => Same H H' ∧ ∃ v, σ = [some (.ref a), v]) ⟨s2, none, rfl⟩ (fun i σ H' p => sqL_same p.1 hx) ?_ (fun σ H' p => q H' p.1)⟩
    rintro i x σ H' hx' ⟨s3, v, rfl⟩
    obtain ⟨l, h1, rfl, hm⟩ := strsV_at hx'
    exact ⟨l, rfl, (hls l hm).1, (hls l hm).2, s3, _, rfl⟩
  · refine .inr ⟨⟨_, sqT_same s2 hx⟩, for_w (wk_tup (strsV ls)) (fun i σ H' => Same H H' ∧ ∃ v, σ = [some (.ref a), v]) ⟨s2, none, rfl⟩ (fun i σ H' p => sqT_same p.1 hx) ?_ (fun σ H' p => q H' p.1)⟩
    rintro i x σ H' hx' ⟨s3, v, rfl⟩
    obtain ⟨l, h1, rfl, hm⟩ := strsV_at hx'
    exact ⟨l, rfl, (hls l hm).1, (hls l hm).2, s3, _, rfl⟩

/-! ### framed(text), level 3 -/
abbrev s_framed : Stmt := top 14
abbrev N_framed : List Str := ["text"]
theorem sc_framed : FnScope N_framed ["text"] (defScope s_framed) := ⟨rfl, rfl, rfl, by decide +kernel, rfl, by decide +kernel, by decide +kernel⟩
theorem ok_framed (T : Txt K mg) (C_has_frame : Ct P w K mg base CX0 2 "has_frame" ["value"] (sp_has_frame K)) (D : Df K mg "framed" s_framed ["text"]) : Ct P w K mg base CX0 3 "framed" ["text"] (sp_framed K) := by
  refine ct1 D sc_framed fun f cdv A outer s H a_text Q E hr h => ⟨_, (pss_cons (ps_if (pt_not (pt_trK K (pe_cl C_has_frame (hr.mono (by decide)) pass0 (pa_cons (pz 0) pa_nil)))) 
      (pss_one ps_never) pss_nil)
    (pss_one (ps_ret (pe_op (k_add K) (pe_op (k_add K) (pe_op (k_add K) (pe_ms PySem.F.slot_str_zfill PySem.F.type_str_zfill m_zfill (pe_callTy c_str (by rfl) T.n_str bt_str (pa_cons (pe_callB (k_len K) (by rfl) T.n_len bt_len (pa_cons (pz 0) pa_nil)) pa_nil)) (pa_cons pe_int pa_nil)) pe_str) (pz 0)) pe_str)))), ?_⟩
  obtain ⟨l, rfl, hp, hl, q⟩ := h
  obtain ⟨n1, n2⟩ := numL5 (n := l.length) (by omega)
  refine ⟨l, rfl, hp, hl, ?_⟩
  refine ⟨sz (by rw [length_S]; omega), ?_⟩
  rw [length_S]
  refine ⟨log_small (by omega), ?_⟩
  rw [num_S]
  refine ⟨by decide, ?_⟩
  rw [zfill_S (by omega), lit_colon]
  refine ⟨sz (by simp only [length_S, List.length_append, List.length_replicate, List.length_singleton]; omega), ?_⟩
  rw [S_cat]
  refine ⟨sz (by simp only [length_S, List.length_append, List.length_replicate, List.length_singleton]; omega), ?_⟩
  rw [S_cat, lit_semi]
  refine ⟨sz (by simp only [length_S, List.length_append, List.length_replicate, List.length_singleton]; omega), ?_⟩
  rw [S_cat]
  exact q

/-! ### all_framed(texts), level 4 -/
abbrev s_all_framed : Stmt := top 15
abbrev N_all_framed : List Str := ["texts", "text"]
theorem sc_all_framed : FnScope N_all_framed ["texts"] (defScope s_all_framed) := ⟨rfl, rfl, rfl, by decide +kernel, rfl, by decide +kernel, by decide +kernel⟩
theorem ok_all_framed (C_check_texts : Ct P w K mg base CX0 3 "check_texts" ["texts"] (sp_check_texts K)) (C_framed : Ct P w K mg base CX0 3 "framed" ["text"] (sp_framed K)) (D : Df K mg "all_framed" s_all_framed ["texts"]) : Ct P w K mg base CX0 4 "all_framed" ["texts"] (sp_all_framed K) := by
  refine ct1 D sc_all_framed fun f cdv A outer s H a_texts Q E hr h => ⟨_, (pss_cons (ps_expr (pe_cl C_check_texts (hr.mono (by decide)) pass0 (pa_cons (pz 0) pa_nil)))
    (pss_one (ps_ret (pe_ms PySem.F.slot_str_join PySem.F.type_str_join (mk_join K) pe_str (pa_cons (pe_lcz (own := [("text", 1)]) (by rfl) sc_all_framed.nd (pi_or (pi_lzK K (pz 0)) (pi_tzK K (pz 0))) (blkOk_by (own := [("text", 1)]) (N := N_all_framed) (sc := defScope s_all_framed) (by decide +kernel)) (fun _ _ _ _ _ => (pg_name (i := 1) sc_all_framed.nd rfl (Or.inl rfl))) (fun _ _ _ _ _ => pts_nil) (fun _ _ _ _ _ => (pe_cl C_framed (hr.mono (by decide)) pass0 (pa_cons (pz 1) pa_nil)))) pa_nil))))), ?_⟩
  obtain ⟨a, ls, rfl, hx, hls, hz, q⟩ := h
  have hz2 : ls.length ≤ 1000000 := by
    have : ls.length * 7 ≤ (ls.map frL).flatten.length := by
      clear hx hz q
      induction ls with
      | nil => simp
      | cons x r ih =>
        have h1 := frL_len (l := x) (by have := (hls x List.mem_cons_self).2; omega)
        have h2 := ih fun l hl => hls l (List.mem_cons_of_mem _ hl)
        rw [List.map_cons, List.flatten_cons, List.length_append, List.length_cons, h1]
        omega
    omega
  refine ⟨a, ls, rfl, hx, hls, fun H2 s2 => ?_⟩
  have fin : ∀ (D : Addr) (H4 : Hp), H2 D = none → H4 D = some (.lst (strsV (ls.map frL))) → Same H2 H4 → zJoin K "" [.ref D] H4 Q := fun D H4 hD h4 s4 => by
    refine ⟨(ls.map frL).map S, .inl (SqL.of h4), joinSz _ (by omega), ?_⟩
    rw [join_flat lit_nil]
    exact q H4 (s2.trans s4)
  have turn : ∀ (D : Addr) (hD : H2 D = none) (i : Nat) (x : V) (acc : List V) (H3 : Hp), (strsV ls)[i]? = some x → H3 D = some (.lst acc) → (Same H2 H3 ∧ acc = strsV ((ls.take i).map frL)) →
      gName 1 x (wipe [some (.ref a), none] [1]) H3 fun σ2 H2' => wipe σ2 [1] = wipe [some (.ref a), none] [1] ∧ tYes σ2 H2' fun b H3 => if b = true then tCl (sp_framed K) E0 (tCons (tV 1) tNil) σ2 H3 fun y H4 => H4 D = some (.lst acc) ∧ ∀ H5, Wr H4 D (.lst (acc ++ [y])) H5 → (Same H2 H5 ∧ acc ++ [y] = strsV ((ls.take (i + 1)).map frL)) else H3 D = some (.lst acc) ∧ (Same H2 H3 ∧ acc = strsV ((ls.take (i + 1)).map frL)) := by
    rintro D hD i x acc H3 hx' hD3 ⟨s3, rfl⟩
    obtain ⟨l, h1, rfl, hm⟩ := strsV_at hx'
    refine ⟨rfl, ?_⟩
    refine ⟨l, rfl, (hls l hm).1, (hls l hm).2, hD3, fun H5 w5 => ⟨s3.wr hD w5, ?_⟩⟩
    rw [List.take_add_one, h1, List.map_append]
    exact (strsV_app _ _).symm
  rcases hx with hx | hx
  · refine .inl ⟨⟨_, sqL_same s2 hx⟩, fun D hD => lc_w (wk_list (strsV ls)) (by rw [strsV_len]; omega) (fun i acc H3 => Same H2 H3 ∧ acc = strsV ((ls.take i).map frL)) (fun H3 n3 => ⟨n3.same, rfl⟩) (fun i acc H3 p => sqL_same (s2.trans p.1) hx)
      (fun i acc H3 p => by rw [p.2, strsV_len, List.length_map, List.length_take]; omega) (turn D hD) (fun acc H4 _ h4 p => ?_)⟩
    obtain ⟨p1, rfl⟩ := p
    rw [strsV_len, List.take_length] at h4
    exact fin D H4 hD h4 p1
  · refine .inr ⟨⟨_, sqT_same s2 hx⟩, fun D hD => lc_w (wk_tup (strsV ls)) (by rw [strsV_len]; omega) (fun i acc H3 => Same H2 H3 ∧ acc = strsV ((ls.take i).map frL)) (fun H3 n3 => ⟨n3.same, rfl⟩) (fun i acc H3 p => sqT_same (s2.trans p.1) hx)
      (fun i acc H3 p => by rw [p.2, strsV_len, List.length_map, List.length_take]; omega) (turn D hD) (fun acc H4 _ h4 p => ?_)⟩
    obtain ⟨p1, rfl⟩ := p
    rw [strsV_len, List.take_length] at h4
    exact fin D H4 hD h4 p1

/-! ### frame_end(text, start), level 1 -/
abbrev s_frame_end : Stmt := top 16
abbrev N_frame_end : List Str := ["text", "start", "head", "signs", "end", "sign"]
theorem sc_frame_end : FnScope N_frame_end ["text", "start"] (defScope s_frame_end) := ⟨rfl, rfl, rfl, by decide +kernel, rfl, by decide +kernel, by decide +kernel⟩
theorem ok_frame_end (T : Txt K mg) (D : Df K mg "frame_end" s_frame_end ["text", "start"]) : Ct P w K mg base CX0 1 "frame_end" ["text", "start"] (sp_frame_end K) := by
  refine ct2 D sc_frame_end fun f cdv A outer s H a_text a_start Q E hr h => ⟨_, (pss_cons (ps_set (i := 2) sc_frame_end.nd rfl (Or.inl rfl) (pe_slice (k_sl K) (pz 0) (po_z (pz 1)) (po_z (pe_op (k_add K) (pz 1) pe_int))))
    (pss_cons (ps_if (PW.pt (pw_or (pt_cmpZ o_ltS (pe_callB (k_len K) (by rfl) T.n_len bt_len (pa_cons (pz 2) pa_nil)) pe_int (nomark _)) (pw_or (pt_cmpZ (k_ne K hr.units) (pe_ix (k_ix K) (pz 2) pe_int (fun _ _ => rfl)) pe_str (nomark _)) (pw_or1 (pt_not (pt_trK K (pe_callB (k_all K rfl) (by rfl) T.n_all bt_all (pa_cons (pe_lcz (own := [("sign", 5)]) (by rfl) sc_frame_end.nd (pi_sz (pe_slice (k_sl K) (pz 2) po_none (po_z pe_int))) (blkOk_by (own := [("sign", 5)]) (N := N_frame_end) (sc := defScope s_frame_end) (by decide +kernel)) (fun _ _ _ _ _ => (pg_name (i := 5) sc_frame_end.nd rfl (Or.inl rfl))) (fun _ _ _ _ _ => pts_nil) (fun _ _ _ _ _ => (pe_cmpR (k_in K) (pz 5) (pe_gk T.c_FIGURES) (by rfl)))) pa_nil)))))))) 
      (pss_one (ps_ret pe_non)) pss_nil)
    (pss_cons (ps_set (i := 3) sc_frame_end.nd rfl (Or.inl rfl) (pe_callTy c_int (by rfl) T.n_int bt_int (pa_cons (pe_slice (k_sl K) (pz 2) po_none (po_z pe_int)) pa_nil)))
    (pss_cons (ps_set (i := 4) sc_frame_end.nd rfl (Or.inl rfl) (pe_op (k_add K) (pe_op (k_add K) (pz 1) pe_int) (pz 3)))
    (pss_cons (ps_if (PW.pt (pw_or (pt_cmpZ o_gtS (pz 3) (pe_gk T.c_MOST_SIGNS) (nomark _)) (pw_or1 (pt_cmpZ (k_ne K hr.units) (pe_slice (k_sl K) (pz 0) (po_z (pz 4)) (po_z (pe_op (k_add K) (pz 4) pe_int))) pe_str (nomark _))))) 
      (pss_one (ps_ret pe_non)) pss_nil)
    (pss_one (ps_ret (pe_op (k_add K) (pz 4) pe_int)))))))), ?_⟩
  obtain ⟨l, i, rfl, rfl, hp, hi, hl, q⟩ := h
  refine ⟨sz (by rw [length_S]; omega), ?_⟩
  rw [show ((i : Nat) : Int) + 6 = ((i + 6 : Nat) : Int) by omega, cut_nn, Nat.add_sub_cancel_left]
  generalize hd : (l.drop i).take 6 = hh
  have hpr : Pr hh := by rw [← hd]; exact pr_take _ (pr_drop _ hp)
  have hlen : hh.length ≤ 6 := by rw [← hd, List.length_take]; omega
  have bad : headN hh = none → ∀ H2, Same H H2 → Q .non H2 := fun e H2 s2 => by
    have z := q H2 s2
    unfold fEnd at z
    rw [hd, e] at z
    exact z
  refine ⟨sz (by rw [length_S]; omega), ?_⟩
  refine ite2 (fun h1 => ?_) (fun h1 => ?_)
  · rw [length_S] at h1
    have h1' : hh.length < 6 := by have := dT h1; omega
    exact bad (if_pos (.inl h1')) H (Same.refl H)
  · rw [length_S] at h1
    have h6 : hh.length = 6 := by
      have := dF h1
      omega
    have e5 : hh[5]? = some hh[5] := List.getElem?_eq_getElem (by omega)
    refine ⟨hh[5], sz (by rw [length_S]; omega), by rw [cps_S]; exact atI_nat e5, ?_⟩
    refine ite2 (fun h2 => ?_) (fun h2 => ?_)
    · have h2' : hh[5] ≠ 58 := fun e => by
        rw [e] at h2
        exact absurd h2 (by decide)
      exact bad (if_pos (.inr (.inl (by rw [e5]; exact fun z => h2' (Option.some.inj z))))) H (Same.refl H)
    · have h58 : hh[5] = 58 := by
        rcases Nat.decEq hh[5] 58 with e | e
        · exfalso
          refine h2 ?_
          have : ¬ (V.str (S [hh[5]]) = V.str (":" : Str)) := fun z => by
            have z' := V.str.inj z
            rw [lit_colon] at z'
            exact e (List.cons.inj (S_inj z')).1
          show (true ^^ decide (V.str (S [hh[5]]) = V.str (":" : Str))) = true
          rw [decide_eq_false this]
          rfl
        · exact e
      refine ⟨sz (by rw [length_S]; omega), ?_⟩
      rw [show cutS (S hh) none (some 5) = S (hh.take 5) from cut_n (b := 5)]
      generalize h5 : hh.take 5 = c5
      have l5 : c5.length = 5 := by rw [← h5, List.length_take]; omega
      refine fun D hD => lc_w (wk_str (S c5)) (by rw [signsV_len, length_S]; omega) (fun i acc H3 => Same H H3 ∧ acc = ((c5.take i).map isdig).map V.bl) (fun H3 n3 => ⟨n3.same, rfl⟩) (fun _ _ _ _ => trivial)
        (fun i acc H3 p => by rw [p.2, List.length_map, List.length_map, List.length_take]; omega) ?_ ?_
      · rintro i x acc H3 hx hD3 ⟨s3, rfl⟩
        obtain ⟨c, hc, rfl⟩ := signsV_at hx
        rw [cps_S] at hc
        refine ⟨rfl, ?_⟩
        refine ⟨c, rfl, hD3, fun H5 w5 => ⟨s3.wr hD w5, ?_⟩⟩
        rw [dig_in, List.take_add_one, hc, List.map_append, List.map_append]
        simp
      · rintro acc H3 _ hD3 ⟨s3, rfl⟩
        rw [signsV_len, length_S, List.take_length] at hD3
        refine ⟨c5.map isdig, SqL.of hD3, ?_⟩
        rw [← digs_all]
        refine ite2 (fun h3 => ?_) (fun h3 => ?_)
        · have h3' : digs c5 = false := by simpa using h3
          exact bad (if_pos (.inr (.inr (by rw [h5]; exact h3')))) H3 s3
        · have h3' : digs c5 = true := by simpa using h3
          have hN : headN hh = some (PySem.NumText.digitsVal c5) := by
            unfold headN
            rw [if_neg, h5]
            rintro (z | z | z)
            · omega
            · rw [e5, h58] at z
              exact z rfl
            · rw [h5, h3'] at z
              cases z
          have hv : PySem.NumText.digitsVal c5 < 100000 := by
            have := digitsVal_lt c5 h3'
            rw [l5] at this
            omega
          refine ⟨sz (by rw [length_S]; omega), ?_⟩
          rw [show cutS (S hh) none (some 5) = S (hh.take 5) from cut_n (b := 5), h5]
          refine ⟨_, intText_head l5 h3', by rw [length_S]; omega, ?_⟩
          generalize hn : PySem.NumText.digitsVal c5 = n at hN hv
          refine ite2 (fun h4 => ?_) (fun h4 => ?_)
          · have h4' := dT h4
            have z := q H3 s3
            unfold fEnd at z
            rw [hd, hN] at z
            have z' : Q (optV (if n ≤ 80000 ∧ (l.drop (i + 6 + n)).take 1 = [59] then some (i + 6 + n + 1) else none)) H3 := z
            rw [if_neg (fun w => by omega)] at z'
            exact z'
          · have h4' := dF h4
            refine ⟨sz (by rw [length_S]; omega), ?_⟩
            rw [show ((i : Nat) : Int) + 6 + ((n : Nat) : Int) = ((i + 6 + n : Nat) : Int) by omega, show ((i + 6 + n : Nat) : Int) + 1 = ((i + 6 + n + 1 : Nat) : Int) by omega, cut_nn, Nat.add_sub_cancel_left]
            have z := q H3 s3
            unfold fEnd at z
            rw [hd, hN] at z
            have z' : Q (optV (if n ≤ 80000 ∧ (l.drop (i + 6 + n)).take 1 = [59] then some (i + 6 + n + 1) else none)) H3 := z
            refine ite2 (fun h6 => ?_) (fun h6 => ?_)
            · rw [if_neg] at z'
              · exact z'
              · rintro ⟨_, w⟩
                rw [w, lit_semi] at h6
                exact absurd h6 (by decide)
            · rw [if_pos] at z'
              · exact z'
              · refine ⟨by omega, ?_⟩
                have h6' : V.str (S ((l.drop (i + 6 + n)).take 1)) = V.str (";" : Str) := by
                  have : (true ^^ decide (V.str (S ((l.drop (i + 6 + n)).take 1)) = V.str (";" : Str))) ≠ true := h6
                  by_cases e : V.str (S ((l.drop (i + 6 + n)).take 1)) = V.str (";" : Str)
                  · exact e
                  · rw [decide_eq_false e] at this
                    exact absurd rfl this
                rw [lit_semi] at h6'
                exact S_inj (V.str.inj h6')

/-! ### frames_in(text), level 2 -/
abbrev s_frames_in : Stmt := top 17
abbrev N_frames_in : List Str := ["text", "texts", "start", "end"]
theorem sc_frames_in : FnScope N_frames_in ["text"] (defScope s_frames_in) := ⟨rfl, rfl, rfl, by decide +kernel, rfl, by decide +kernel, by decide +kernel⟩
theorem ok_frames_in (C_is_signs : Ct P w K mg base CX0 1 "is_signs" ["value"] (sp_is_signs K)) (C_frame_end : Ct P w K mg base CX0 1 "frame_end" ["text", "start"] (sp_frame_end K)) (D : Df K mg "frames_in" s_frames_in ["text"]) : Ct P w K mg base CX0 2 "frames_in" ["text"] (sp_frames_in K) := by
  refine ct1 D sc_frames_in fun f cdv A outer s H a_text Q E hr h => ⟨_, (pss_cons (ps_if (pt_not (pt_trK K (pe_cl C_is_signs (hr.mono (by decide)) pass0 (pa_cons (pz 0) pa_nil)))) 
      (pss_one ps_never) pss_nil)
    (pss_cons (ps_parZ (i := 1) (j := 2) (by rfl) sc_frames_in.nd rfl rfl (by decide) rfl rfl (pa_cons (pe_lz pa_nil) (pa_cons pe_int pa_nil)) (by rfl))
    (pss_cons (ps_set (i := 3) sc_frames_in.nd rfl (Or.inl rfl) (pe_cl C_frame_end (hr.mono (by decide)) pass0 (pa_cons (pz 0) (pa_cons (pz 2) pa_nil))))
    (pss_cons (ps_while PassesOwn.never (pt_cmpZ o_isn (pz 3) pe_non (nomark _)) 
      (pss_cons (ps_expr (pe_mlK K PySem.F.slot_list_append PySem.F.type_list_append m_append (pz 1) (pa_cons (pe_slice (k_sl K) (pz 0) (po_z (pe_op (k_add K) (pz 2) pe_int)) (po_z (pe_op o_sub (pz 3) pe_int))) pa_nil)))
      (pss_cons (ps_set (i := 2) sc_frames_in.nd rfl (Or.inl rfl) (pz 3))
      (pss_one (ps_set (i := 3) sc_frames_in.nd rfl (Or.inl rfl) (pe_cl C_frame_end (hr.mono (by decide)) pass0 (pa_cons (pz 0) (pa_cons (pz 2) pa_nil))))))))
    (pss_one (ps_ret (pe_tz (pa_cons (pz 1) (pa_cons (pz 2) pa_nil))))))))), ?_⟩
  obtain ⟨l, rfl, hp, hl, q⟩ := h
  refine ⟨l, rfl, hp, ?_⟩
  refine ⟨Nat.zero_le _, fun t H2 n2 => ?_⟩
  refine ⟨l, 0, rfl, rfl, hp, Nat.zero_le _, hl, fun H3 s3 => ?_⟩
  refine ⟨fun m σ H' => ∃ (ls : List (List Nat)) (st : Nat), σ = [some (.str (S l)), some (.ref t), some (.int (st : Nat)), some (optV (fEnd l st))] ∧ H' t = some (.lst (strsV ls)) ∧ Same H H' ∧
      st ≤ l.length ∧ ls ++ (sc l st).1 = (sc l 0).1 ∧ (sc l st).2 = (sc l 0).2 ∧ ls.length ≤ st ∧ m = l.length - st, ⟨_, [], 0, rfl, s3 _ _ n2.here, n2.same.trans s3, Nat.zero_le _, rfl, rfl, Nat.zero_le _, rfl⟩, ?_⟩
  rintro m σ H' ⟨ls, st, rfl, ht, s4, hst, e1, e2, hls, rfl⟩
  cases he : fEnd l st with
  | none =>
    rw [sc_none he] at e1 e2
    refine ⟨by show 2 ≤ sizeLine; decide, fun p H4 n4 => ?_⟩
    refine q p t H4 (s4.trans n4.same) (s4.free n4.fresh) n2.fresh ?_ ?_
    · rw [n4.keep ht, ← e1, List.append_nil]
    · rw [← e2]
      exact n4.here
  | some e =>
    have bd := fEnd_bounds he
    rw [sc_some he] at e1 e2
    refine ⟨_, fun σ' H'' w => w, ?_⟩
    refine ⟨⟨_, SqL.of ht⟩, ?_⟩
    refine ⟨sz (by rw [length_S]; omega), ?_⟩
    rw [show ((st : Nat) : Int) + 6 = ((st + 6 : Nat) : Int) by omega, show ((e : Nat) : Int) - 1 = ((e - 1 : Nat) : Int) by omega, cut_nn]
    refine ⟨_, ht, szlt (by rw [strsV_len]; omega), fun H4 w4 => ?_⟩
    have s5 := s4.wr n2.fresh w4
    refine ⟨l, e, rfl, rfl, hp, bd.2, hl, fun H5 s6 => ?_⟩
    refine ⟨l.length - e, by omega, ls ++ [(l.drop (st + 6)).take (e - 1 - (st + 6))], e, rfl, ?_, s5.trans s6, bd.2, ?_, e2, ?_, rfl⟩
    · rw [strsV_app]
      exact s6 _ _ w4.here
    · rw [List.append_assoc]
      exact e1
    · rw [List.length_append, List.length_singleton]
      omega

/-! ### is_integer(value), level 1 -/
abbrev s_is_integer : Stmt := top 6
abbrev N_is_integer : List Str := ["value"]
theorem sc_is_integer : FnScope N_is_integer ["value"] (defScope s_is_integer) := ⟨rfl, rfl, rfl, by decide +kernel, rfl, by decide +kernel, by decide +kernel⟩
theorem ok_is_integer (T : Txt K mg) (D : Df K mg "is_integer" s_is_integer ["value"]) : Ct P w K mg base CX0 1 "is_integer" ["value"] (sp_is_integer K) := by
  refine ct1 D sc_is_integer fun f cdv A outer s H a_value Q E hr h => ⟨_, (pss_one (ps_ret (pe_andZ (pe_callB (k_isi K) (by rfl) T.n_isinstance bt_isinstance (pa_cons (pz 0) (pa_cons (pe_bltn (v := .ty "int") (by rfl) T.n_int bt_int rfl) pa_nil))) (pe_one (pe_notZ (pe_callB (k_isi K) (by rfl) T.n_isinstance bt_isinstance (pa_cons (pz 0) (pa_cons (pe_bltn (v := .ty "bool") (by rfl) T.n_bool bt_bool rfl) pa_nil)))))))), ?_⟩
  obtain ⟨i, rfl, q⟩ := h
  refine ⟨by decide, "int", rfl, ?_⟩
  refine ⟨by decide, "int", rfl, ?_⟩
  exact q

/-! ### is_count(value), level 2 -/
abbrev s_is_count : Stmt := top 7
abbrev N_is_count : List Str := ["value"]
theorem sc_is_count : FnScope N_is_count ["value"] (defScope s_is_count) := ⟨rfl, rfl, rfl, by decide +kernel, rfl, by decide +kernel, by decide +kernel⟩
theorem ok_is_count (C_is_integer : Ct P w K mg base CX0 1 "is_integer" ["value"] (sp_is_integer K)) (D : Df K mg "is_count" s_is_count ["value"]) : Ct P w K mg base CX0 2 "is_count" ["value"] (sp_is_count K) := by
  refine ct1 D sc_is_count fun f cdv A outer s H a_value Q E hr h => ⟨_, (pss_one (ps_ret (pe_andZ (pe_cl C_is_integer (hr.mono (by decide)) pass0 (pa_cons (pz 0) pa_nil)) (pe_one (pe_cmpR o_ge (pz 0) pe_int (nomark _)))))), ?_⟩
  obtain ⟨i, rfl, hi, q⟩ := h
  refine ⟨i, rfl, ?_⟩
  show Q (.bl (decide (0 ≤ i))) H
  rw [decide_eq_true hi]
  exact q

/-! ### cut_at(texts, signs), level 4 -/
abbrev s_cut_at : Stmt := top 19
abbrev N_cut_at : List Str := ["texts", "signs", "many", "end", "text"]
theorem sc_cut_at : FnScope N_cut_at ["texts", "signs"] (defScope s_cut_at) := ⟨rfl, rfl, rfl, by decide +kernel, rfl, by decide +kernel, by decide +kernel⟩
theorem ok_cut_at (T : Txt K mg) (C_check_texts : Ct P w K mg base CX0 3 "check_texts" ["texts"] (sp_check_texts K)) (C_is_count : Ct P w K mg base CX0 2 "is_count" ["value"] (sp_is_count K)) (D : Df K mg "cut_at" s_cut_at ["texts", "signs"]) : Ct P w K mg base CX0 4 "cut_at" ["texts", "signs"] (sp_cut_at K) := by
  refine ct2 D sc_cut_at fun f cdv A outer s H a_texts a_signs Q E hr h => ⟨_, (pss_cons (ps_expr (pe_cl C_check_texts (hr.mono (by decide)) pass0 (pa_cons (pz 0) pa_nil)))
    (pss_cons (ps_if (pt_not (pt_trK K (pe_cl C_is_count (hr.mono (by decide)) pass0 (pa_cons (pz 1) pa_nil)))) 
      (pss_one ps_never) pss_nil)
    (pss_cons (ps_asg (pe_tz (pa_cons pe_int (pa_cons pe_int pa_nil))) (pg_tzK K (by rfl) (pgs_cz (pg_name (i := 2) sc_cut_at.nd rfl (Or.inl rfl)) (pgs_cz (pg_name (i := 3) sc_cut_at.nd rfl (Or.inl rfl)) pgs_nz))))
    (pss_cons (ps_for PassesOwn.never rfl (pi_or (pi_lzK K (pz 0)) (pi_tzK K (pz 0))) (pg_name (i := 4) sc_cut_at.nd rfl (Or.inl rfl)) 
      (pss_cons (ps_aug (i := 3) sc_cut_at.nd rfl (Or.inl rfl) (pe_op (k_add K) (pe_callB (k_len K) (by rfl) T.n_len bt_len (pa_cons (pz 4) pa_nil)) pe_int) ip_add)
      (pss_cons (ps_if (pt_cmpZ o_gtS (pz 3) (pz 1) (nomark _)) 
        (pss_one (ps_ret (pz 2))) pss_nil)
      (pss_one (ps_aug (i := 2) sc_cut_at.nd rfl (Or.inl rfl) pe_int ip_add)))))
    (pss_one (ps_ret (pz 2))))))), ?_⟩
  obtain ⟨a, ls, k, rfl, rfl, hx, hls, q⟩ := h
  refine ⟨a, ls, rfl, hx, hls, fun H2 s2 => ?_⟩
  refine ⟨((k : Nat) : Int), rfl, by omega, ?_⟩
  refine ⟨by show 2 ≤ sizeLine; decide, fun p H3 n3 => ?_⟩
  refine ⟨_, SqT.of n3.here, rfl, ?_⟩
  have s23 := s2.trans n3.same
  let Pv : Nat → L2.St → Hp → Prop := fun i σ H' => Same H H' ∧ ∃ (m e : Nat) (w : Option V), σ = [some (.ref a), some (.int (k : Nat)), some (.int (m : Nat)), some (.int (e : Nat)), w] ∧ e ≤ k ∧ cnt ls k = m + cnt (ls.drop i) (k - e)
  have h0 : Pv 0 [some (.ref a), some (.int (k : Nat)), some (.int ((0 : Nat) : Int)), some (.int ((0 : Nat) : Int)), none] H3 := ⟨s23, 0, 0, none, rfl, Nat.zero_le _, by rw [List.drop_zero, Nat.zero_add]; rfl⟩
  have fin : ∀ σ H', Pv (strsV ls).length σ H' → tV 2 σ H' Q := by
    rintro σ H' ⟨s4, m, e, w, rfl, he, hc⟩
    rw [strsV_len, List.drop_length] at hc
    show Q (.int (m : Nat)) H'
    rw [show m = M9.cnt ls k from (Nat.add_zero m ▸ hc.symm)]
    exact q H' s4
  rcases hx with hx | hx
  case' inl => refine .inl ⟨⟨_, sqL_same s23 hx⟩, for_w (wk_list (strsV ls)) Pv h0 (fun i σ H' p => sqL_same p.1 hx) ?_ (fun σ H' p => fin σ H' p)⟩
  case' inr => refine .inr ⟨⟨_, sqT_same s23 hx⟩, for_w (wk_tup (strsV ls)) Pv h0 (fun i σ H' p => sqT_same p.1 hx) ?_ (fun σ H' p => fin σ H' p)⟩
  all_goals
    rintro i x σ H' hx' ⟨s4, m, e, w, rfl, he, hc⟩
    obtain ⟨l, h1, rfl, hm⟩ := strsV_at hx'
    have hd : ls.drop i = l :: ls.drop (i + 1) := by
      obtain ⟨hi, rfl⟩ := List.getElem?_eq_some_iff.mp h1
      exact List.drop_eq_getElem_cons hi
    rw [hd, M9.cnt] at hc
    have hl := (hls l hm).2
    refine ⟨_, rfl, sz (by rw [length_S]; omega), ?_⟩
    rw [length_S]
    refine ⟨_, _, rfl, rfl, ?_⟩
    refine ite2 (fun hk => ?_) (fun hk => ?_)
    · have hk' : ((e : Nat) : Int) + (((l.length : Nat) : Int) + 7) > ((k : Nat) : Int) := dT hk
      rw [if_neg (by omega)] at hc
      show Q (.int (m : Nat)) H'
      rw [show m = M9.cnt ls k from hc.symm]
      exact q H' s4
    · have hk' : ¬ ((e : Nat) : Int) + (((l.length : Nat) : Int) + 7) > ((k : Nat) : Int) := dF hk
      rw [if_pos (by omega)] at hc
      refine ⟨_, rfl, _, _, rfl, rfl, s4, m + 1, e + (l.length + 7), _, rfl, by omega, ?_⟩
      rw [hc, show k - (e + (l.length + 7)) = k - e - (l.length + 7) by omega]
      omega

/-! ### _law_many_right(_law_box_here), level 5 -/
abbrev s__law_many_right : Stmt := top 31
abbrev N__law_many_right : List Str := ["_law_box_here", "_law_row", "_law_frame_here", "_law_texts_here", "_law_whole", "_law_signs", "_law_many", "_law_found"]
theorem sc__law_many_right : FnScope N__law_many_right ["_law_box_here"] (defScope s__law_many_right) := ⟨rfl, rfl, rfl, by decide +kernel, rfl, by decide +kernel, by decide +kernel⟩
theorem ok__law_many_right (T : Txt K mg) (C__law_take : Ct P w K mg base CX0 1 "_law_take" ["_law_box_here", "_law_many"] (sp__law_take K)) (C__law_frame : Ct P w K mg base CX0 1 "_law_frame" ["_law_row"] (sp__law_frame K)) (C_all_framed : Ct P w K mg base CX0 4 "all_framed" ["texts"] (sp_all_framed K)) (C_frames_in : Ct P w K mg base CX0 2 "frames_in" ["text"] (sp_frames_in K)) (C_cut_at : Ct P w K mg base CX0 4 "cut_at" ["texts", "signs"] (sp_cut_at K)) (D : Df K mg "_law_many_right" s__law_many_right ["_law_box_here"]) : Ct P w K mg base CX0 5 "_law_many_right" ["_law_box_here"] (sp__law_many_right K) := by
  refine ct1 D sc__law_many_right fun f cdv A outer s H a_box_here Q E hr h => ⟨_, (pss_cons (ps_set (i := 1) sc__law_many_right.nd rfl (Or.inl rfl) (pe_ix (k_ix K) (pe_lz (pa_cons pe_str (pa_cons pe_str (pa_cons pe_str (pa_cons pe_str pa_nil))))) (pe_cl C__law_take (hr.mono (by decide)) pass0 (pa_cons (pz 0) (pa_cons pe_int pa_nil))) (fun _ _ => rfl)))
    (pss_cons (ps_parZ (i := 2) (j := 3) (by rfl) sc__law_many_right.nd rfl rfl (by decide) rfl rfl (pa_cons (pe_cl C__law_frame (hr.mono (by decide)) pass0 (pa_cons (pz 1) pa_nil)) (pa_cons (pe_op o_mul (pe_lz (pa_cons (pz 1) pa_nil)) (pe_op o_sub pe_int (pe_cl C__law_take (hr.mono (by decide)) pass0 (pa_cons (pz 0) (pa_cons pe_int pa_nil))))) pa_nil)) (by rfl))
    (pss_cons (ps_set (i := 4) sc__law_many_right.nd rfl (Or.inl rfl) (pe_cl C_all_framed (hr.mono (by decide)) pass0 (pa_cons (pz 3) pa_nil)))
    (pss_cons (ps_if (PW.pt (pw_or (pt_cmpZ (k_ne K hr.units) (pz 4) (pe_op o_mul (pz 2) (pe_callB (k_len K) (by rfl) T.n_len bt_len (pa_cons (pz 3) pa_nil))) (nomark _)) (pw_or1 (pt_cmpZ (k_ne K hr.units) (pe_cl C_frames_in (hr.mono (by decide)) pass0 (pa_cons (pz 4) pa_nil)) (pe_tz (pa_cons (pz 3) (pa_cons (pe_callB (k_len K) (by rfl) T.n_len bt_len (pa_cons (pz 4) pa_nil)) pa_nil))) (nomark _))))) 
      (pss_one (ps_ret pe_bl)) pss_nil)
    (pss_cons (ps_set (i := 5) sc__law_many_right.nd rfl (Or.inl rfl) (pe_cl C__law_take (hr.mono (by decide)) pass0 (pa_cons (pz 0) (pa_cons (pe_op (k_add K) (pe_op o_mul (pe_callB (k_len K) (by rfl) T.n_len bt_len (pa_cons (pz 2) pa_nil)) pe_int) pe_int) pa_nil))))
    (pss_cons (ps_set (i := 6) sc__law_many_right.nd rfl (Or.inl rfl) (pe_op o_fdiv (pz 5) (pe_callB (k_len K) (by rfl) T.n_len bt_len (pa_cons (pz 2) pa_nil))))
    (pss_cons (ps_if (pt_cmpZ (k_ne K hr.units) (pe_cl C_cut_at (hr.mono (by decide)) pass0 (pa_cons (pz 3) (pa_cons (pz 5) pa_nil))) (pe_callB (c_min rfl) (by rfl) T.n_min bt_min (pa_cons (pz 6) (pa_cons (pe_callB (k_len K) (by rfl) T.n_len bt_len (pa_cons (pz 3) pa_nil)) pa_nil))) (nomark _)) 
      (pss_one (ps_ret pe_bl)) pss_nil)
    (pss_cons (ps_set (i := 7) sc__law_many_right.nd rfl (Or.inl rfl) (pe_cl C_frames_in (hr.mono (by decide)) pass0 (pa_cons (pe_slice (k_sl K) (pe_op o_mul (pz 2) pe_int) po_none (po_z (pz 5))) pa_nil)))
    (pss_cons (ps_if (pt_cmpZ (k_ne K hr.units) (pz 7) (pe_tz (pa_cons (pe_op o_mul (pe_lz (pa_cons (pz 1) pa_nil)) (pz 6)) (pa_cons (pe_op o_mul (pz 6) (pe_callB (k_len K) (by rfl) T.n_len bt_len (pa_cons (pz 2) pa_nil))) pa_nil))) (nomark _)) 
      (pss_one (ps_ret pe_bl)) pss_nil)
    (pss_one (ps_ret (pe_andZ (pe_cmpR (k_eq K hr.units) (pe_cl C_all_framed (hr.mono (by decide)) pass0 (pa_cons (pe_ix (k_ix K) (pz 7) pe_int (fun _ _ => rfl)) pa_nil)) (pe_op o_mul (pz 2) (pz 6)) (nomark _)) (pe_one (pe_cmpR (k_eq K hr.units) (pe_cl C_cut_at (hr.mono (by decide)) pass0 (pa_cons (pe_ix (k_ix K) (pz 7) pe_int (fun _ _ => rfl)) (pa_cons (pz 5) pa_nil))) (pz 6) (nomark _))))))))))))))), ?_⟩
  obtain ⟨b, rfl, hB, q⟩ := h
  refine ⟨by show 4 ≤ sizeLine; decide, fun p0 H1 n1 => ?_⟩
  have nb0 : p0 ≠ b := (hB.ne n1.fresh).symm
  refine ⟨b, 4, 0, rfl, rfl, by decide, by decide, hB.same n1.same, by omega, fun r H2 t2 B2 r0 r1 => ?_⟩
  obtain ⟨m, hm, tm⟩ := menuS ["", "a", ";", "00000:;"] (n := 7) (by decide +kernel) r0 r1
  have lm := tm.2
  have lf := frL_len (l := m) (by omega)
  have pf := frL_pr tm.1
  refine ⟨_, _, .inl (SqL.of (t2.at nb0 n1.here)), hm, ?_⟩
  refine ⟨m, rfl, by omega, ?_⟩
  refine ⟨by show 1 ≤ sizeLine; decide, fun u H3 n3 => ?_⟩
  have nub : u ≠ b := (B2.ne n3.fresh).symm
  refine ⟨b, 2, _, rfl, rfl, by decide, by decide, B2.same n3.same, by omega, fun r2 H4 t4 B4 r20 r21 => ?_⟩
  obtain ⟨n, hn⟩ : ∃ n : Nat, 400 - r2 = (n : Int) := ⟨(400 - r2).toNat, by omega⟩
  have hn2 : (400 - r2).toNat = n := by omega
  refine ⟨_, t4.at nub n3.here, by show _ ≤ 400 - r2; omega, by show 400 - r2 < _; omega, by show 1 * (400 - r2).toNat ≤ _; exact sz (by omega), fun v H5 n5 => ?_⟩
  have h5 := n5.here
  have repV : ∀ n : Nat, (List.replicate n [V.str (S m)]).flatten = strsV (List.replicate n m) := fun n => by
    induction n with
    | zero => rfl
    | succ n ih => rw [List.replicate_succ, List.flatten_cons, ih]; rfl
  have h5 : H5 v = some (.lst (strsV (List.replicate n m))) := by rw [← repV, ← hn2]; exact h5
  have okr : ∀ n, ∀ l ∈ List.replicate n m, Pr l ∧ l.length ≤ 80000 := fun n l hl => by
    rw [(List.mem_replicate.mp hl).2]
    exact ⟨tm.1, by omega⟩
  have mapr : ∀ n, ((List.replicate n m).map frL).flatten = (List.replicate n (frL m)).flatten := fun n => by rw [List.map_replicate]
  have lenr : ∀ n, (List.replicate n (frL m)).flatten.length = n * (m.length + 7) := fun n => by rw [rep_len, lf]
  have pfr : ∀ n, Pr (List.replicate n (frL m)).flatten := fun n => pr_flat fun l hl => by rw [(List.mem_replicate.mp hl).2]; exact pf
  have mulb : ∀ n, n ≤ 1500 → n * (m.length + 7) ≤ 21000 := fun n h => Nat.le_trans (Nat.mul_le_mul h (show m.length + 7 ≤ 14 by omega)) (by decide)
  have n400 : n ≤ 1500 := by omega
  have t15 : But b H H5 := (((n1.but.trans t2).trans (But.of n3.same)).trans t4).trans n5.but
  refine ⟨v, _, rfl, .inl (SqL.of h5), okr n, by rw [mapr, lenr]; have := mulb n n400; omega, fun H6 s6 => ?_⟩
  rw [mapr]
  refine .inl ⟨_, .inl (SqL.of (s6 _ _ h5)), ?_⟩
  rw [strsV_len, List.length_replicate]
  refine ⟨by omega, by omega, by rw [length_S, lf, Int.toNat_natCast, Nat.mul_comm]; have := mulb n n400; omega, ?_⟩
  rw [rep_S, Int.toNat_natCast]
  refine iteN (nself _) ?_
  have okl := fun l hl => (okr n l hl).2
  have hsc := sc_cut (List.replicate n m) (List.replicate n (frL m)).flatten 0 _ okl (by rw [List.drop_zero, ← fl_rep, List.take_of_length_le (Nat.le_refl _)])
  rw [cnt_full _ _ okl (Nat.le_refl _), List.take_of_length_le (Nat.le_refl _), fl_rep, lenr, Nat.zero_add] at hsc
  refine ⟨_, rfl, pfr n, by rw [lenr]; have := mulb n n400; omega, fun p s H7 s7 fp fs hs hp => ?_⟩
  rw [hsc] at hs hp
  refine ⟨sz (by rw [length_S, lenr]; have := mulb n n400; omega), ?_⟩
  rw [length_S, lenr]
  refine ⟨by show 2 ≤ sizeLine; decide, fun x H8 n8 => ?_⟩
  have dp : ∀ (H' : Hp) (p r : Addr) (xs : List (List Nat)) (v : Int), H' r = some (.lst (strsV xs)) → H' p = some (.tup [.ref r, .int v]) → Dp K H' (.ref p) (.tuple [strsD xs, .int v]) := fun H' p r xs v h1 h2 => .tup (SqT.of h2) (.cons (dp_strs (SqL.of h1)) (.cons (.int _) .nil))
  have sh : ∀ (n : Nat) (v : Int), SeqAt.shaped (.tuple [strsD (List.replicate n m), .int v]) = true := fun n v => shaped_pair (shaped_strs fun l hl => (okr n l hl).1) (by rw [depth_strsD]; decide)
  have s58 := (s6.trans s7).trans n8.same
  refine ⟨_, _, dp H8 p s _ _ (n8.keep hs) (n8.keep hp), dp H8 x v _ _ (s58 _ _ h5) n8.here, sh _ _, sh _ _, ?_⟩
  rw [eqv_self (sh _ _)]
  refine ⟨sz (by rw [length_S, lf]; omega), ?_⟩
  rw [length_S, lf]
  have two : (2 : Int) ^ 64 = 18446744073709551616 := by decide
  have B8 : BoxAt 2 H8 b := ((B4.same n5.same).same s58).mono (by omega)
  refine ⟨.inl ⟨by omega, by omega⟩, ?_⟩
  refine ⟨b, _, _, rfl, rfl, by omega, by omega, B8, by decide, fun z H9 t9 B9 z0 z1 => ?_⟩
  obtain ⟨k, rfl⟩ : ∃ k : Nat, z = (k : Int) := ⟨z.toNat, by omega⟩
  refine ⟨sz (by rw [length_S, lf]; omega), ?_⟩
  rw [length_S, lf]
  refine ⟨⟨by omega, by omega⟩, ?_⟩
  have nvb : v ≠ b := ((B4).ne n5.fresh).symm
  have h9 := t9.at nvb (s58 _ _ h5)
  have s59 : But b H5 H9 := (But.of s58).trans t9
  refine ⟨v, _, k, rfl, rfl, .inl (SqL.of h9), okr n, fun H10 s10 => ?_⟩
  refine .inl ⟨_, .inl (SqL.of (s10 _ _ h9)), ?_⟩
  rw [strsV_len, List.length_replicate, cnt_rep]
  have hk : k / (m.length + 7) ≤ 1500 := by
    refine Nat.div_le_of_le_mul ?_
    rw [Nat.mul_comm]
    omega
  obtain ⟨c, hc⟩ : ∃ c, k / (m.length + 7) = c := ⟨_, rfl⟩
  have hcI : ((k : Nat) : Int) / ((m.length + 7 : Nat) : Int) = (c : Int) := by rw [← hc]; exact (Int.natCast_ediv _ _).symm
  simp only [hcI]
  rw [hc] at hk ⊢
  have hmin : ((min n c : Nat) : Int) = (if (n : Int) < (c : Int) then (n : Int) else (c : Int)) := by
    split <;> omega
  rw [hmin]
  refine iteN (nself _) ?_
  refine ⟨by decide, by decide, by rw [length_S, lf]; show _ * 1500 ≤ _; omega, ?_⟩
  rw [rep_S]
  have l15 := lenr 1500
  have e15 : (List.replicate ((1500 : Int)).toNat (frL m)).flatten = (List.replicate 1500 (frL m)).flatten := rfl
  rw [e15]
  refine ⟨sz (by rw [length_S, l15]; omega), ?_⟩
  rw [cut_n]
  have hs2 := sc_cut (List.replicate 1500 m) ((List.replicate 1500 (frL m)).flatten.take k) 0 k (fun l hl => (okr _ l hl).2) (by rw [List.drop_zero, ← fl_rep])
  rw [cnt_rep, hc, Nat.min_eq_right hk, List.take_replicate, Nat.min_eq_left hk, fl_rep, lenr, Nat.zero_add] at hs2
  refine ⟨_, rfl, pr_take _ (pfr 1500), by rw [List.length_take, l15]; omega, fun p2 q2 H11 s11 fp2 fq2 hq2 hp2 => ?_⟩
  rw [hs2] at hq2 hp2
  refine ⟨by show 1 ≤ sizeLine; decide, fun u2 H12 n12 => ?_⟩
  refine ⟨_, n12.here, by omega, by omega, by rw [Int.toNat_natCast]; show 1 * _ ≤ _; exact sz (by omega), fun v2 H13 n13 => ?_⟩
  have h13 := n13.here
  rw [Int.toNat_natCast, repV] at h13
  refine ⟨sz (by rw [length_S, lf]; omega), ?_⟩
  rw [length_S, lf]
  refine ⟨.inl ⟨by omega, by omega⟩, ?_⟩
  rw [← Int.natCast_mul]
  refine ⟨by show 2 ≤ sizeLine; decide, fun x2 H14 n14 => ?_⟩
  have s114 := (n12.same.trans n13.same).trans n14.same
  refine ⟨_, _, dp H14 p2 q2 _ _ (s114 _ _ hq2) (s114 _ _ hp2), dp H14 x2 v2 _ _ (n14.keep h13) n14.here, sh _ _, sh _ _, ?_⟩
  rw [eqv_self (sh _ _)]
  refine ⟨_, _, .inr (SqT.of (s114 _ _ hp2)), rfl, ?_⟩
  refine ⟨q2, _, rfl, .inl (SqL.of (s114 _ _ hq2)), okr c, by rw [mapr, lenr]; have := mulb c hk; omega, fun H15 s15 => ?_⟩
  rw [mapr]
  refine ⟨by omega, by omega, by rw [length_S, lf, Int.toNat_natCast, Nat.mul_comm]; have := mulb c hk; omega, ?_⟩
  rw [rep_S, Int.toNat_natCast]
  refine iteY (eself _) ?_
  have s115 := s114.trans s15
  refine ⟨_, _, .inr (SqT.of (s115 _ _ hp2)), rfl, ?_⟩
  refine ⟨q2, _, k, rfl, rfl, .inl (SqL.of (s115 _ _ hq2)), okr c, fun H16 s16 => ?_⟩
  rw [cnt_rep, hc, Nat.min_self]
  show Q (.bl (false ^^ decide (V.int (c : Nat) = V.int (c : Nat)))) H16
  rw [eself]
  exact q H16 ((((t15.trans s59).trans (But.of s10)).trans (But.of s11)).trans (But.of (s115.trans s16)))

/-! ### _law_box(_law_great), level 1 -/
abbrev s__law_box : Stmt := top 22
abbrev N__law_box : List Str := ["_law_great"]
theorem sc__law_box : FnScope N__law_box ["_law_great"] (defScope s__law_box) := ⟨rfl, rfl, rfl, by decide +kernel, rfl, by decide +kernel, by decide +kernel⟩
theorem ok__law_box (T : Txt K mg) (D : Df K mg "_law_box" s__law_box ["_law_great"]) : Ct P w K mg base CX0 1 "_law_box" ["_law_great"] (sp__law_box K) := by
  refine ct1 D sc__law_box fun f cdv A outer s H a_great Q E hr h => ⟨_, (pss_one (ps_ret (pe_lz (pa_cons (pe_callB c_abs (by rfl) T.n_abs bt_abs (pa_cons (pz 0) pa_nil)) (pa_cons (pe_cmpR o_ge (pe_callB c_abs (by rfl) T.n_abs bt_abs (pa_cons (pz 0) pa_nil)) (pe_op o_pow pe_int pe_int) (nomark _)) (pa_cons (pe_op o_mod (pe_callTy c_int (by rfl) T.n_int bt_int (pa_cons (pe_callB c_abs (by rfl) T.n_abs bt_abs (pa_cons (pz 0) pa_nil)) pa_nil)) pe_int) (pa_cons pe_int pa_nil))))))), ?_⟩
  obtain ⟨g, rfl, k⟩ := h
  refine ⟨⟨by decide, by decide, by decide⟩, by show (0 : Int) < _; decide, by show 4 ≤ sizeLine; decide, fun b H2 n => ?_⟩
  refine k b H2 n.fresh n.same ⟨_, _, _, _, n.here, ?_, ?_, ?_, by decide, by decide⟩
  · split <;> omega
  · exact Int.emod_nonneg _ (by decide)
  · have := Int.emod_lt_of_pos (if g < 0 then -g else g) (show (0 : Int) < 2147483629 by decide)
    omega

/-! ### _law_cell(_law_script, _law_k), level 1 -/
abbrev s__law_cell : Stmt := top 21
abbrev N__law_cell : List Str := ["_law_script", "_law_k"]
theorem sc__law_cell : FnScope N__law_cell ["_law_script", "_law_k"] (defScope s__law_cell) := ⟨rfl, rfl, rfl, by decide +kernel, rfl, by decide +kernel, by decide +kernel⟩
theorem ok__law_cell (T : Txt K mg) (D : Df K mg "_law_cell" s__law_cell ["_law_script", "_law_k"]) : Ct P w K mg base CX0 1 "_law_cell" ["_law_script", "_law_k"] (sp__law_cell K) := by
  refine ct2 D sc__law_cell fun f cdv A outer s H a_script a_k Q E hr h => ⟨_, (pss_one (ps_ret (pe_ifExp (pt_cmpZ o_ltS (pz 1) (pe_callB (k_len K) (by rfl) T.n_len bt_len (pa_cons (pz 0) pa_nil)) (nomark _)) (pe_ix (k_ix K) (pz 0) (pz 1) (fun _ _ => rfl)) (pe_op (k_add K) (pe_op o_mul pe_int (pz 1)) (pe_op o_mod (pe_callB (k_sum K rfl) (by rfl) T.n_sum bt_sum (pa_cons (pe_slice (k_sl K) (pz 0) po_none (po_z pe_int)) pa_nil)) pe_int))))), ?_⟩
  obtain ⟨a, i, ns, rfl, rfl, h0, h1, hS, hl, k⟩ := h
  refine .inl ⟨_, .inl hS, ?_⟩
  refine ite2 (fun hc => ?_) (fun hc => ?_)
  · have hi : i < (ns.map V.int).length := by simpa using hc
    rw [List.length_map] at hi
    refine ⟨_, V.int (ns.getD i.toNat 0), .inl hS, ?_, k _ _ (Same.refl _)⟩
    have e : i = ((i.toNat : Nat) : Int) := by omega
    rw [e]
    refine atI_nat ?_
    rw [Int.toNat_natCast, List.getElem?_map, List.getElem?_eq_getElem (by omega)]
    simp [List.getD, List.getElem?_eq_getElem (show i.toNat < ns.length by omega)]
  · refine ⟨.inr ⟨by omega, by omega⟩, .inl ⟨_, hS, fun p H2 n => ?_⟩⟩
    have e : cutV (ns.map V.int) none (some 1) = (ns.take 1).map V.int := by
      cases ns with
      | nil => rfl
      | cons x r => simp [cutV, HT.sIx]
    rw [e] at n
    exact ⟨_, SqL.of n.here, by show (0 : Int) < _; decide, k _ _ n.same⟩

/-! ### _law_sign(_law_box_here, _law_near), level 2 -/
abbrev s__law_sign : Stmt := top 24
abbrev N__law_sign : List Str := ["_law_box_here", "_law_near", "_law_signs"]
theorem sc__law_sign : FnScope N__law_sign ["_law_box_here", "_law_near"] (defScope s__law_sign) := ⟨rfl, rfl, rfl, by decide +kernel, rfl, by decide +kernel, by decide +kernel⟩
theorem ok__law_sign (T : Txt K mg) (C__law_take : Ct P w K mg base CX0 1 "_law_take" ["_law_box_here", "_law_many"] (sp__law_take K)) (D : Df K mg "_law_sign" s__law_sign ["_law_box_here", "_law_near"]) : Ct P w K mg base CX0 2 "_law_sign" ["_law_box_here", "_law_near"] (sp__law_sign K) := by
  refine ct2 D sc__law_sign fun f cdv A outer s H a_box_here a_near Q E hr h => ⟨_, (pss_cons (ps_set (i := 2) sc__law_sign.nd rfl (Or.inl rfl) pe_str)
    (pss_cons (ps_set (i := 2) sc__law_sign.nd rfl (Or.inl rfl) (pe_ifExp (pt_trK K (pz 1)) pe_str (pz 2)))
    (pss_one (ps_ret (pe_ix (k_ix K) (pz 2) (pe_cl C__law_take (hr.mono (by decide)) pass0 (pa_cons (pz 0) (pa_cons (pe_callB (k_len K) (by rfl) T.n_len bt_len (pa_cons (pz 2) pa_nil)) pa_nil))) (fun _ _ => rfl)))))), ?_⟩
  obtain ⟨b, k, n, rfl, rfl, hB, hn, q⟩ := h
  refine ite2 (fun h1 => ?_) (fun h1 => ?_)
  · refine ⟨by decide, b, _, n, rfl, rfl, by decide, by decide, hB, by omega, fun r H2 bt hB2 r0 r1 => ?_⟩
    obtain ⟨c, e, hc⟩ := near_item (t := "0123456789:;") (by decide) r0 r1
    exact ⟨c, by decide, e, q c H2 bt hB2 hc⟩
  · refine ⟨by decide, b, _, n, rfl, rfl, by decide, by decide, hB, by omega, fun r H2 bt hB2 r0 r1 => ?_⟩
    obtain ⟨c, e, hc⟩ := near_item (t := " !\"#$&'()*+,-./0123456789:;<=>?@ABCDEFGHIJKLMNOPQRSTUVWXYZ[\\]^_`abcdefghijklmnopqrstuvwxyz{|}~") (by decide) r0 r1
    exact ⟨c, by decide, e, q c H2 bt hB2 hc⟩

/-! ### _law_text(_law_box_here), level 3 -/
abbrev s__law_text : Stmt := top 26
abbrev N__law_text : List Str := ["_law_box_here", "_law_way", "_law_near", "_law_row", "_law_turn"]
theorem sc__law_text : FnScope N__law_text ["_law_box_here"] (defScope s__law_text) := ⟨rfl, rfl, rfl, by decide +kernel, rfl, by decide +kernel, by decide +kernel⟩
theorem ok__law_text (T : Txt K mg) (C__law_take : Ct P w K mg base CX0 1 "_law_take" ["_law_box_here", "_law_many"] (sp__law_take K)) (C__law_sign : Ct P w K mg base CX0 2 "_law_sign" ["_law_box_here", "_law_near"] (sp__law_sign K)) (C__law_frame : Ct P w K mg base CX0 1 "_law_frame" ["_law_row"] (sp__law_frame K)) (D : Df K mg "_law_text" s__law_text ["_law_box_here"]) : Ct P w K mg base CX0 3 "_law_text" ["_law_box_here"] (sp__law_text K) := by
  refine ct1 D sc__law_text fun f cdv A outer s H a_box_here Q E hr h => ⟨_, (pss_cons (ps_set (i := 1) sc__law_text.nd rfl (Or.inl rfl) (pe_cl C__law_take (hr.mono (by decide)) pass0 (pa_cons (pz 0) (pa_cons pe_int pa_nil))))
    (pss_cons (ps_if (pt_cmpZ (k_eq K hr.units) (pz 1) pe_int (nomark _)) 
      (pss_one (ps_ret (pe_op o_mul (pe_cl C__law_sign (hr.mono (by decide)) pass0 (pa_cons (pz 0) (pa_cons pe_bl pa_nil))) (pe_ix (k_ix K) (pe_lz (pa_cons pe_int (pa_cons pe_int (pa_cons pe_int (pa_cons pe_int pa_nil))))) (pe_cl C__law_take (hr.mono (by decide)) pass0 (pa_cons (pz 0) (pa_cons pe_int pa_nil))) (fun _ _ => rfl))))) pss_nil)
    (pss_cons (ps_set (i := 2) sc__law_text.nd rfl (Or.inr rfl) (pe_cmpR o_ltS (pz 1) pe_int (nomark _)))
    (pss_cons (ps_set (i := 3) sc__law_text.nd rfl (Or.inl rfl) (pe_ms PySem.F.slot_str_join PySem.F.type_str_join (mk_join K) pe_str (pa_cons (pe_lcz (own := [("_law_turn", 4)]) (by rfl) sc__law_text.nd (pi_rngZ (by rfl) T.n_range (pa_cons (pe_ix (k_ix K) (pe_lz (pa_cons pe_int (pa_cons pe_int (pa_cons pe_int (pa_cons pe_int (pa_cons pe_int (pa_cons pe_int pa_nil))))))) (pe_cl C__law_take (hr.mono (by decide)) pass0 (pa_cons (pz 0) (pa_cons pe_int pa_nil))) (fun _ _ => rfl)) pa_nil)) (blkOk_by (own := [("_law_turn", 4)]) (N := N__law_text) (sc := defScope s__law_text) (by decide +kernel)) (fun _ _ _ _ _ => (pg_name (i := 4) sc__law_text.nd rfl (Or.inl rfl))) (fun _ _ _ _ _ => pts_nil) (fun _ _ _ _ _ => (pe_cl C__law_sign (hr.mono (by decide)) pass0 (pa_cons (pz 0) (pa_cons (pz 2) pa_nil))))) pa_nil)))
    (pss_cons (ps_if (pt_cmpZ (k_eq K hr.units) (pz 1) pe_int (nomark _)) 
      (pss_one (ps_ret (pe_cl C__law_frame (hr.mono (by decide)) pass0 (pa_cons (pz 3) pa_nil)))) pss_nil)
    (pss_cons (ps_if (pt_cmpZ (k_eq K hr.units) (pz 1) pe_int (nomark _)) 
      (pss_one (ps_ret (pe_slice (k_sl K) (pe_cl C__law_frame (hr.mono (by decide)) pass0 (pa_cons (pz 3) pa_nil)) po_none (po_z (pe_op (k_add K) pe_int (pe_cl C__law_take (hr.mono (by decide)) pass0 (pa_cons (pz 0) (pa_cons pe_int pa_nil)))))))) pss_nil)
    (pss_one (ps_ret (pe_ifExp (pt_cmpZ (k_eq K hr.units) (pz 1) pe_int (nomark _)) (pe_op o_mul pe_str (pe_op (k_add K) pe_int (pe_cl C__law_take (hr.mono (by decide)) pass0 (pa_cons (pz 0) (pa_cons pe_int pa_nil))))) (pz 3)))))))))), ?_⟩
  obtain ⟨b, n, rfl, hB, hn, q⟩ := h
  refine ⟨b, 8, n, rfl, rfl, by decide, by decide, hB, by omega, fun way H1 t1 B1 w0 w1 => ?_⟩
  refine ite2 (fun hw => ?_) (fun hw => ?_)
  · refine ⟨b, false, n + 1, rfl, rfl, B1, by omega, fun d H3 t3 B3 hd => ?_⟩
    refine ⟨by show 4 ≤ sizeLine; decide, fun p H4 n4 => ?_⟩
    have nb : p ≠ b := (B3.ne n4.fresh).symm
    refine ⟨b, 4, n + 2, rfl, rfl, by decide, by decide, B3.same n4.same, by omega, fun r H5 t5 B5 r0 r1 => ?_⟩
    obtain ⟨m, hm, hmem⟩ := menuI [9, 10, 99, 100] r0 r1
    have hm' : 0 ≤ m ∧ m ≤ 100 := by
      simp only [List.mem_cons, List.not_mem_nil, or_false] at hmem
      omega
    refine ⟨_, .int m, .inl (SqL.of (t5.at nb n4.here)), hm, ?_⟩
    refine ⟨by omega, by omega, by rw [length_S]; show 1 * _ ≤ _; omega, ?_⟩
    rw [rep_S, rep_one]
    refine q _ H5 ((t1.trans (t3.nw n4)).trans t5) (B5.mono (by omega)) ⟨fun x hx => ?_, ?_⟩
    · rw [(List.mem_replicate.mp hx).2]
      exact hd
    · rw [List.length_replicate]
      omega
  · refine ⟨by show 6 ≤ sizeLine; decide, fun p H2 n2 => ?_⟩
    have nb : p ≠ b := (B1.ne n2.fresh).symm
    refine ⟨b, 6, n + 1, rfl, rfl, by decide, by decide, B1.same n2.same, by omega, fun r H3 t3 B3 r0 r1 => ?_⟩
    obtain ⟨m, hm, hmem⟩ := menuI [0, 1, 2, 3, 4, 6] r0 r1
    have hm' : 0 ≤ m ∧ m ≤ 6 := by
      simp only [List.mem_cons, List.not_mem_nil, or_false] at hmem
      omega
    refine ⟨_, .int m, .inl (SqL.of (t3.at nb n2.here)), hm, ?_⟩
    have t13 : But b H H3 := (t1.nw n2).trans t3
    refine ⟨by omega, by omega, fun D hD => lc_w (wk_rng 0 m.toNat) (by rw [rngV_len]; omega)
      (fun i acc H' => ∃ ls : List (List Nat), acc = strsV ls ∧ ls.length = i ∧ (∀ l ∈ ls, TX 1 l) ∧ But b H3 H' ∧ BoxAt (n + 2 + i) H' b)
      (fun H4 n4 => ⟨[], rfl, rfl, (fun _ h => by cases h), n4.but, (B3.same n4.same)⟩) (fun _ _ _ _ => trivial) (fun i acc H' ⟨ls, e, l, _⟩ => by rw [e, strsV_len]; omega) ?_ ?_⟩
    · rintro i x acc H4 hx hD4 ⟨ls, rfl, hl, ht, t4, B4⟩
      obtain ⟨hi, rfl⟩ := rngV_at hx
      have nD : D ≠ b := fun e => by
        obtain ⟨o, ho⟩ := B3.some
        rw [← e, hD] at ho
        cases ho
      refine ⟨rfl, ?_⟩
      refine ⟨b, _, n + 2 + i, rfl, rfl, B4, by omega, fun c H5 t5 B5 hc => ⟨t5.at nD hD4, fun H6 w6 => ?_⟩⟩
      refine ⟨ls ++ [[c]], strsV_app ls [c] ▸ rfl, by rw [List.length_append, hl]; rfl, fun l hl => ?_, (t4.trans t5).wr hD w6, (B5.wr nD.symm w6)⟩
      rcases List.mem_append.mp hl with hl | hl
      · exact ht l hl
      · rw [List.mem_singleton.mp hl]
        exact ⟨pr_cons hc pr_nil, Nat.le_refl 1⟩
    · rintro acc H4 _ hD4 ⟨ls, rfl, hl, ht, t4, B4⟩
      rw [rngV_len] at hl
      rw [rngV_len] at B4
      have lenF : ls.flatten.length ≤ ls.length := by
        have gen : ∀ ls : List (List Nat), (∀ l ∈ ls, TX 1 l) → ls.flatten.length ≤ ls.length := by
          intro ls
          induction ls with
          | nil => intro _; exact Nat.le_refl 0
          | cons a r ih =>
            intro h
            have h1 := (h a List.mem_cons_self).2
            have h2 := ih fun l hl => h l (List.mem_cons_of_mem _ hl)
            rw [List.flatten_cons, List.length_append, List.length_cons]
            omega
        exact gen ls ht
      have prF : Pr ls.flatten := pr_flat fun l hl => (ht l hl).1
      have t14 : But b H H4 := t13.trans t4
      refine ⟨ls.map S, .inl (SqL.of hD4), ?_, ?_⟩
      · exact joinSz _ (by omega)
      rw [join_flat lit_nil]
      refine ite2 (fun h3 => ?_) (fun h3 => ?_)
      · refine ⟨_, rfl, by omega, ?_⟩
        exact q _ H4 t14 (B4.mono (by omega)) ⟨frL_pr prF, by rw [frL_len (by omega)]; omega⟩
      · refine ite2 (fun h4 => ?_) (fun h4 => ?_)
        · refine ⟨_, rfl, by omega, ?_⟩
          refine ⟨b, 7, _, rfl, rfl, by decide, by decide, B4, by omega, fun r2 H5 t5 B5 r20 r21 => ?_⟩
          refine ⟨sz (by rw [length_S, frL_len (by omega)]; omega), ?_⟩
          have e : 1 + r2 = (((1 + r2).toNat : Nat) : Int) := by omega
          rw [e, cut_n]
          exact q _ H5 (t14.trans t5) (B5.mono (by omega)) ⟨pr_take _ (frL_pr prF), by rw [List.length_take]; omega⟩
        · refine ite2 (fun h5 => ?_) (fun h5 => ?_)
          · refine ⟨b, 2, _, rfl, rfl, by decide, by decide, B4, by omega, fun r2 H5 t5 B5 r20 r21 => ?_⟩
            rw [lit_z]
            refine ⟨by omega, by omega, by rw [length_S]; show 7 * _ ≤ _; omega, ?_⟩
            rw [rep_S]
            refine q _ H5 (t14.trans t5) (B5.mono (by omega)) ⟨pr_flat fun l hl => ?_, ?_⟩
            · rw [(List.mem_replicate.mp hl).2]
              exact pr_of (by decide)
            · rw [rep_len]
              show _ * 7 ≤ _
              omega
          · exact q _ H4 t14 (B4.mono (by omega)) ⟨prF, by omega⟩

/-! ### _law_texts(_law_box_here), level 4 -/
abbrev s__law_texts : Stmt := top 27
abbrev N__law_texts : List Str := ["_law_box_here", "_law_turn"]
theorem sc__law_texts : FnScope N__law_texts ["_law_box_here"] (defScope s__law_texts) := ⟨rfl, rfl, rfl, by decide +kernel, rfl, by decide +kernel, by decide +kernel⟩
theorem ok__law_texts (T : Txt K mg) (C__law_take : Ct P w K mg base CX0 1 "_law_take" ["_law_box_here", "_law_many"] (sp__law_take K)) (C__law_text : Ct P w K mg base CX0 3 "_law_text" ["_law_box_here"] (sp__law_text K)) (D : Df K mg "_law_texts" s__law_texts ["_law_box_here"]) : Ct P w K mg base CX0 4 "_law_texts" ["_law_box_here"] (sp__law_texts K) := by
  refine ct1 D sc__law_texts fun f cdv A outer s H a_box_here Q E hr h => ⟨_, (pss_one (ps_ret (pe_lcz (own := [("_law_turn", 1)]) (by rfl) sc__law_texts.nd (pi_rngZ (by rfl) T.n_range (pa_cons (pe_ix (k_ix K) (pe_lz (pa_cons pe_int (pa_cons pe_int (pa_cons pe_int (pa_cons pe_int (pa_cons pe_int (pa_cons pe_int pa_nil))))))) (pe_cl C__law_take (hr.mono (by decide)) pass0 (pa_cons (pz 0) (pa_cons pe_int pa_nil))) (fun _ _ => rfl)) pa_nil)) (blkOk_by (own := [("_law_turn", 1)]) (N := N__law_texts) (sc := defScope s__law_texts) (by decide +kernel)) (fun _ _ _ _ _ => (pg_name (i := 1) sc__law_texts.nd rfl (Or.inl rfl))) (fun _ _ _ _ _ => pts_nil) (fun _ _ _ _ _ => (pe_cl C__law_text (hr.mono (by decide)) pass0 (pa_cons (pz 0) pa_nil)))))), ?_⟩
  obtain ⟨b, n, rfl, hB, hn, q⟩ := h
  refine ⟨by show 6 ≤ sizeLine; decide, fun p H2 n2 => ?_⟩
  have nb : p ≠ b := (hB.ne n2.fresh).symm
  refine ⟨b, 6, n, rfl, rfl, by decide, by decide, hB.same n2.same, by omega, fun r H3 t3 B3 r0 r1 => ?_⟩
  obtain ⟨m, hm, hmem⟩ := menuI [3, 2, 4, 1, 0, 7] r0 r1
  have hm' : 0 ≤ m ∧ m ≤ 7 := by
    simp only [List.mem_cons, List.not_mem_nil, or_false] at hmem
    omega
  refine ⟨_, .int m, .inl (SqL.of (t3.at nb n2.here)), hm, ?_⟩
  have t13 : But b H H3 := n2.but.trans t3
  refine ⟨by omega, by omega, fun D hD => lc_w (wk_rng 0 m.toNat) (by rw [rngV_len]; omega)
    (fun i acc H' => ∃ ls : List (List Nat), acc = strsV ls ∧ ls.length = i ∧ (∀ l ∈ ls, TX 101 l) ∧ But b H3 H' ∧ BoxAt (n + 1 + 20 * i) H' b)
    (fun H4 n4 => ⟨[], rfl, rfl, (fun _ h => by cases h), n4.but, (B3.same n4.same)⟩) (fun _ _ _ _ => trivial) (fun i acc H' ⟨ls, e, l, _⟩ => by rw [e, strsV_len]; omega) ?_ ?_⟩
  · rintro i x acc H4 hx hD4 ⟨ls, rfl, hl, ht, t4, B4⟩
    obtain ⟨hi, rfl⟩ := rngV_at hx
    have nD : D ≠ b := (B3.ne hD).symm
    refine ⟨rfl, ?_⟩
    refine ⟨b, n + 1 + 20 * i, rfl, B4, by omega, fun l H5 t5 B5 hc => ⟨t5.at nD hD4, fun H6 w6 => ?_⟩⟩
    refine ⟨ls ++ [l], (strsV_app ls l).symm, by rw [List.length_append, hl]; rfl, fun l' hl' => ?_, (t4.trans t5).wr hD w6, (B5.wr nD.symm w6).mono (by omega)⟩
    rcases List.mem_append.mp hl' with hl' | hl'
    · exact ht l' hl'
    · rw [List.mem_singleton.mp hl']
      exact hc
  · rintro acc H4 _ hD4 ⟨ls, rfl, hl, ht, t4, B4⟩
    rw [rngV_len] at hl B4
    exact q D ls H4 (t13.free (B3.ne hD).symm hD) (t13.trans t4) (B4.mono (by omega)) hD4 (by omega) ht

/-! ### _law_ends(_law_texts_here), level 1 -/
abbrev s__law_ends : Stmt := top 28
abbrev N__law_ends : List Str := ["_law_texts_here", "_law_found", "_law_at", "_law_row"]
theorem sc__law_ends : FnScope N__law_ends ["_law_texts_here"] (defScope s__law_ends) := ⟨rfl, rfl, rfl, by decide +kernel, rfl, by decide +kernel, by decide +kernel⟩
theorem ok__law_ends (T : Txt K mg) (D : Df K mg "_law_ends" s__law_ends ["_law_texts_here"]) : Ct P w K mg base CX0 1 "_law_ends" ["_law_texts_here"] (sp__law_ends K) := by
  refine ct1 D sc__law_ends fun f cdv A outer s H a_texts_here Q E hr h => ⟨_, (pss_cons (ps_parZ (i := 1) (j := 2) (by rfl) sc__law_ends.nd rfl rfl (by decide) rfl rfl (pa_cons (pe_lz pa_nil) (pa_cons pe_int pa_nil)) (by rfl))
    (pss_cons (ps_for PassesOwn.never rfl (pi_lzK K (pz 0)) (pg_name (i := 3) sc__law_ends.nd rfl (Or.inl rfl)) 
      (pss_cons (ps_set (i := 2) sc__law_ends.nd rfl (Or.inl rfl) (pe_op (k_add K) (pe_op (k_add K) (pz 2) (pe_callB (k_len K) (by rfl) T.n_len bt_len (pa_cons (pz 3) pa_nil))) pe_int))
      (pss_one (ps_expr (pe_mlK K PySem.F.slot_list_append PySem.F.type_list_append m_append (pz 1) (pa_cons (pz 2) pa_nil))))))
    (pss_one (ps_ret (pz 1))))), ?_⟩
  obtain ⟨a, ls, rfl, hx, hls, hn, q⟩ := h
  refine ⟨Nat.zero_le _, fun t H2 n2 => ?_⟩
  refine ⟨⟨_, sqL_same n2.same hx⟩, for_w (wk_list (strsV ls)) (fun i σ H' => Same H H' ∧ H' t = some (.lst (intsV (endsL 0 (ls.take i)))) ∧ ∃ (w : Option V), σ = [some (.ref a), some (.ref t), some (.int ((fl (ls.take i)).length : Nat)), w]) ⟨n2.same, n2.here, none, rfl⟩ (fun i σ H' p => sqL_same p.1 hx) ?_ ?_⟩
  · rintro i x σ H' hx' ⟨s4, ht, w, rfl⟩
    obtain ⟨l, h1, rfl, hm⟩ := strsV_at hx'
    have hl := (hls l hm).2
    have e1 : ls.take (i + 1) = ls.take i ++ [l] := by rw [List.take_add_one, h1]; rfl
    have hz : ∀ x ∈ ls.take i, x.length ≤ 80000 := fun x hx => Nat.le_trans (hls x (List.mem_of_mem_take hx)).2 (by decide)
    refine ⟨sz (by rw [length_S]; omega), ?_⟩
    rw [length_S]
    refine ⟨⟨_, SqL.of ht⟩, ?_⟩
    refine ⟨_, ht, szlt (by rw [intsV_len, endsL_len, List.length_take]; omega), fun H4 w4 => ?_⟩
    refine ⟨s4.wr n2.fresh w4, ?_, ?_⟩
    · rw [e1, endsL_app _ _ _ hz, intsV_app]
      have := w4.here
      rw [show (((fl (ls.take i)).length : Nat) : Int) + ((l.length : Nat) : Int) + 7 = ((0 + (fl (ls.take i)).length + l.length + 7 : Nat) : Int) by omega] at this
      exact this
    · refine Exists.intro (some (V.str (S l))) ?_
      rw [e1, fl_app, List.length_append, show (fl [l]).length = l.length + 7 by rw [fl_cons, List.length_append, frL_len (by omega)]; rfl, show (((fl (ls.take i)).length + (l.length + 7) : Nat) : Int) = (((fl (ls.take i)).length : Nat) : Int) + ((l.length : Nat) : Int) + 7 by omega]
      rfl
  · rintro σ H' ⟨s4, ht, w, rfl⟩
    rw [strsV_len, List.take_length] at ht
    exact q _ _ s4 n2.fresh ht

/-! ### _law_cuts(_law_box_here, _law_ends_here), level 2 -/
abbrev s__law_cuts : Stmt := top 29
abbrev N__law_cuts : List Str := ["_law_box_here", "_law_ends_here", "_law_total", "_law_found", "_law_end", "_law_turn"]
theorem sc__law_cuts : FnScope N__law_cuts ["_law_box_here", "_law_ends_here"] (defScope s__law_cuts) := ⟨rfl, rfl, rfl, by decide +kernel, rfl, by decide +kernel, by decide +kernel⟩
theorem ok__law_cuts (T : Txt K mg) (C__law_take : Ct P w K mg base CX0 1 "_law_take" ["_law_box_here", "_law_many"] (sp__law_take K)) (D : Df K mg "_law_cuts" s__law_cuts ["_law_box_here", "_law_ends_here"]) : Ct P w K mg base CX0 2 "_law_cuts" ["_law_box_here", "_law_ends_here"] (sp__law_cuts K) := by
  refine ct2 D sc__law_cuts fun f cdv A outer s H a_box_here a_ends_here Q E hr h => ⟨_, (pss_cons (ps_set (i := 2) sc__law_cuts.nd rfl (Or.inr rfl) (pe_ifExp (pt_cmpZ (k_ne K hr.units) (pz 1) (pe_lz pa_nil) (nomark _)) (pe_ix (k_ix K) (pz 1) (pe_un un_negZ pe_int) (fun _ _ => rfl)) pe_int))
    (pss_cons (ps_if (pt_cmpZ o_le (pz 2) pe_int (nomark _)) 
      (pss_one (ps_ret (pe_listRg rfl (by rfl) T.n_list (prg_1 (by rfl) T.n_range (pe_op (k_add K) (pz 2) pe_int))))) pss_nil)
    (pss_cons (ps_setLcz (i := 3) (own := [("_law_turn", 5)]) (by rfl) sc__law_cuts.nd rfl rfl (sw_true rfl rfl rfl (by decide +kernel)) (pi_rngZ (by rfl) T.n_range (pa_cons pe_int pa_nil)) (blkOk_by (own := [("_law_turn", 5)]) (N := N__law_cuts) (sc := defScope s__law_cuts) (by decide +kernel)) (fun _ _ _ _ _ => (pg_name (i := 5) sc__law_cuts.nd rfl (Or.inl rfl))) (fun _ _ _ _ _ => pts_nil) (fun _ _ _ _ _ => (pe_cl C__law_take (hr.mono (by decide)) pass0 (pa_cons (pz 0) (pa_cons (pe_op (k_add K) (pz 2) pe_int) pa_nil)))))
    (pss_cons (ps_for PassesOwn.never rfl (pi_lzK K (pz 1)) (pg_name (i := 4) sc__law_cuts.nd rfl (Or.inl rfl)) 
      (pss_one (ps_set (i := 3) sc__law_cuts.nd rfl (Or.inl rfl) (pe_op (k_add K) (pz 3) (pe_lz (pa_cons (pe_op o_sub (pz 4) pe_int) (pa_cons (pz 4) (pa_cons (pe_op (k_add K) (pz 4) pe_int) pa_nil))))))))
    (pss_one (ps_ret (pe_op (k_add K) (pz 3) (pe_lz (pa_cons pe_int (pa_cons (pe_op (k_add K) (pz 2) pe_int) (pa_cons (pe_op o_pow pe_int pe_int) pa_nil))))))))))), ?_⟩
  obtain ⟨b, a, n, es, rfl, rfl, hB, hn, hx, hl, he, q⟩ := h
  refine ⟨Nat.zero_le _, fun p H2 n2 => ?_⟩
  refine ⟨_, _, dp_ints (SqL.of (n2.keep hx)), .lst (SqL.of n2.here) .nil, shaped_ints es, by decide, ?_⟩
  obtain ⟨bb, hbb⟩ : ∃ bb, es.isEmpty = bb := ⟨_, rfl⟩
  rw [ints_nil, hbb]
  have h2 : H2 a = some (.lst (intsV es)) := n2.keep hx
  have nab : a ≠ b := fun e => by
    obtain ⟨_, _, _, _, hb, _⟩ := hB
    rw [← e, hx] at hb
    cases es with
    | nil => cases hb
    | cons x r =>
      cases r with
      | nil => cases hb
      | cons y r => cases hb
  have B2 := hB.same n2.same
  rcases List.eq_nil_or_concat es with rfl | ⟨init, last, rfl⟩
  case' inl =>
    refine iteN (c := true ^^ bb) (by rw [← hbb]; rfl) ?_
    obtain ⟨z, hz, hzl⟩ : ∃ z : Nat, (0 : Int) = (z : Int) ∧ z ≤ 10000 := ⟨0, rfl, by decide⟩
  case' inr =>
    rw [List.concat_eq_append] at he h2 hx hl hbb
    refine iteY (c := true ^^ bb) (by rw [← hbb]; cases init <;> rfl) ?_
    refine ⟨_, .int (last : Nat), .inl (SqL.of h2), by rw [intsV_app]; exact atI_last _ _, ?_⟩
    obtain ⟨z, hz, hzl⟩ : ∃ z : Nat, ((last : Nat) : Int) = (z : Int) ∧ z ≤ 10000 := ⟨last, rfl, (he last (List.mem_append_right _ List.mem_cons_self)).2⟩
  all_goals
    rw [hz]
    refine ite2 (fun hs => ?_) (fun hs => ?_)
    · have hs' := dT hs
      refine ⟨_, rfl, RgOk.of_le (by omega) (by omega) (by omega) (by omega), fun r hr => ?_⟩
      have n3 := nw (o := .lst (rgV 0 ((z : Int) + 3))) hr
      have h3 := n3.here
      have e3 : rgV 0 ((z : Int) + 3) = intsV (List.range (z + 3)) := by
        unfold rgV intsV
        rw [List.map_map, show (((z : Int) + 3) - 0).toNat = z + 3 by omega]
        exact List.map_congr_left fun i _ => by simp
      refine q r (List.range (z + 3)) _ (n2.same.free hr) (But.of (n2.same.trans n3.same)) ((B2.same n3.same).mono (by omega)) ?_ (by rw [List.length_range]; omega)
      rw [← e3]
      exact h3
    · refine ⟨by omega, by omega, fun D hD => lc_w (wk_rng 0 60) (by rw [rngV_len]; omega)
        (fun i acc H' => ∃ ns : List Nat, acc = intsV ns ∧ ns.length = i ∧ But b H2 H' ∧ BoxAt (n + i) H' b)
        (fun H4 n4 => ⟨[], rfl, rfl, n4.but, B2.same n4.same⟩) (fun _ _ _ _ => trivial) (fun i acc H' ⟨ls, e, l, _⟩ => by rw [e, intsV_len]; omega) ?_ ?_⟩
      · rintro i x acc H4 hx hD4 ⟨ns, rfl, hl, t4, B4⟩
        obtain ⟨hi, rfl⟩ := rngV_at hx
        have nD : D ≠ b := (B2.ne hD).symm
        refine ⟨rfl, ?_⟩
        refine ⟨b, _, n + i, rfl, rfl, by omega, by omega, B4, by omega, fun r H5 t5 B5 r0 r1 => ⟨t5.at nD hD4, fun H6 w6 => ?_⟩⟩
        obtain ⟨j, rfl⟩ : ∃ j : Nat, r = (j : Int) := ⟨r.toNat, by omega⟩
        exact ⟨ns ++ [j], (intsV_app ns j).symm, by rw [List.length_append, hl]; rfl, (t4.trans t5).wr hD w6, B5.wr nD.symm w6⟩
      · rintro acc H4 _ hD4 ⟨ns, rfl, hln, t4, B4⟩
        rw [rngV_len] at hln B4
        have nD : D ≠ b := (B2.ne hD).symm
        have h4 := t4.at nab h2
        refine ⟨⟨_, SqL.of h4⟩, for_w (wk_list (intsV _)) (fun i σ H' => ∃ (c : Addr) (ns : List Nat) (w : Option V), σ = [some (.ref b), some (.ref a), some (.int (z : Nat)), some (.ref c), w, none] ∧ H' c = some (.lst (intsV ns)) ∧ ns.length = 60 + 3 * i ∧ c ≠ b ∧ H2 c = none ∧ Same H4 H') ⟨D, ns, none, rfl, hD4, hln, nD, hD, Same.refl _⟩ (fun i σ H' p => by obtain ⟨_, _, _, _, _, _, _, _, s⟩ := p; exact sqL_same s (SqL.of h4)) ?_ ?_⟩
        · rintro i x σ H' hx' ⟨c, ms, w, rfl, hc, hlm, ncb, hfc, s5⟩
          obtain ⟨e, h1, rfl, hm⟩ := intsV_at hx'
          have hi := (List.getElem?_eq_some_iff.mp h1).1
          have he' := he e hm
          refine ⟨by show 3 ≤ sizeLine; decide, fun u H6 n6 => ?_⟩
          refine .inl ⟨_, _, n6.keep hc, n6.here, sz (by rw [intsV_len]; show _ + 3 ≤ _; omega), fun u2 H7 n7 => ?_⟩
          have s7 := (s5.trans n6.same).trans n7.same
          have h7 := n7.here
          rw [show intsV ms ++ [V.int (((e : Nat) : Int) - 1), .int (e : Nat), .int (((e : Nat) : Int) + 1)] = intsV (ms ++ [e - 1, e, e + 1]) by
            simp [intsV]
            omega] at h7
          refine ⟨u2, _, _, rfl, h7, by rw [List.length_append, hlm]; show _ + 3 = _; omega, ((B4.same s5).same n6.same).ne n7.fresh |>.symm, ?_, s7⟩
          exact t4.free ((((B4.same s5).same n6.same).ne n7.fresh).symm) ((s5.trans n6.same).free n7.fresh)
        · rintro σ H' ⟨c, ms, w, rfl, hc, hlm, ncb, hfc, s5⟩
          rw [intsV_len] at hlm
          refine ⟨⟨by decide, by decide, by decide⟩, by show 3 ≤ sizeLine; decide, fun u H6 n6 => ?_⟩
          refine .inl ⟨_, _, n6.keep hc, n6.here, sz (by rw [intsV_len]; show _ + 3 ≤ _; omega), fun u2 H7 n7 => ?_⟩
          have h7 : H7 u2 = some (.lst (intsV (ms ++ [0, z + 100, 100000000000000]))) := by
            refine n7.here.trans (congrArg (fun l => some (HO.lst l)) ?_)
            simp [intsV]
            try omega
          have s7 := (s5.trans n6.same).trans n7.same
          have nu : u2 ≠ b := (((B4.same s5).same n6.same).ne n7.fresh).symm
          exact q u2 _ H7 (n2.same.free (t4.free nu ((s5.trans n6.same).free n7.fresh))) ((n2.but.trans t4).trans (But.of s7)) ((B4.same s7).mono (by omega)) h7 (by rw [List.length_append]; show _ + 3 ≤ _; omega)

/-! ### is_whole(value), level 3 -/
abbrev s_is_whole : Stmt := top 18
abbrev N_is_whole : List Str := ["value"]
theorem sc_is_whole : FnScope N_is_whole ["value"] (defScope s_is_whole) := ⟨rfl, rfl, rfl, by decide +kernel, rfl, by decide +kernel, by decide +kernel⟩
theorem ok_is_whole (T : Txt K mg) (C_frames_in : Ct P w K mg base CX0 2 "frames_in" ["text"] (sp_frames_in K)) (C_is_signs : Ct P w K mg base CX0 1 "is_signs" ["value"] (sp_is_signs K)) (D : Df K mg "is_whole" s_is_whole ["value"]) : Ct P w K mg base CX0 3 "is_whole" ["value"] (sp_is_whole K) := by
  refine ct1 D sc_is_whole fun f cdv A outer s H a_value Q E hr h => ⟨_, (pss_one (ps_ret (pe_andZ (pe_cl C_is_signs (hr.mono (by decide)) pass0 (pa_cons (pz 0) pa_nil)) (pe_one (pe_cmpR (k_eq K hr.units) (pe_ix (k_ix K) (pe_cl C_frames_in (hr.mono (by decide)) pass0 (pa_cons (pz 0) pa_nil)) pe_int (fun _ _ => rfl)) (pe_callB (k_len K) (by rfl) T.n_len bt_len (pa_cons (pz 0) pa_nil)) (nomark _)))))), ?_⟩
  obtain ⟨l, rfl, hp, hl, k⟩ := h
  refine ⟨l, rfl, hp, ?_⟩
  refine ⟨l, rfl, hp, hl, fun p q H2 s2 fp fq h2 h2p => ?_⟩
  refine ⟨_, _, .inr (SqT.of h2p), rfl, ?_⟩
  refine ⟨sz (by rw [length_S]; omega), ?_⟩
  rw [length_S]
  have e : (false ^^ decide (V.int ((sc l 0).2 : Nat) = V.int (l.length : Nat))) = decide ((sc l 0).2 = l.length) := by
    by_cases z : (sc l 0).2 = l.length
    · rw [z, decide_eq_true rfl, decide_eq_true rfl]
      rfl
    · rw [decide_eq_false z, decide_eq_false fun w => z (by have := V.int.inj w; omega)]
      rfl
  show Q (.bl (false ^^ decide (V.int ((sc l 0).2 : Nat) = V.int (l.length : Nat)))) H2
  rw [e]
  exact k H2 s2

/-! ### _law_cut_right(_law_texts_here, _law_ends_here, _law_whole, _law_signs), level 5 -/
abbrev s__law_cut_right : Stmt := top 30
abbrev N__law_cut_right : List Str := ["_law_texts_here", "_law_ends_here", "_law_whole", "_law_signs", "_law_many", "_law_told", "_law_end", "_law_left", "_law_found"]
theorem sc__law_cut_right : FnScope N__law_cut_right ["_law_texts_here", "_law_ends_here", "_law_whole", "_law_signs"] (defScope s__law_cut_right) := ⟨rfl, rfl, rfl, by decide +kernel, rfl, by decide +kernel, by decide +kernel⟩
theorem ok__law_cut_right (T : Txt K mg) (C_cut_at : Ct P w K mg base CX0 4 "cut_at" ["texts", "signs"] (sp_cut_at K)) (C_frames_in : Ct P w K mg base CX0 2 "frames_in" ["text"] (sp_frames_in K)) (C_all_framed : Ct P w K mg base CX0 4 "all_framed" ["texts"] (sp_all_framed K)) (C_is_whole : Ct P w K mg base CX0 3 "is_whole" ["value"] (sp_is_whole K)) (K_cut_at_signs_texts : CtK P w K mg base CX0 4 "cut_at" ["texts", "signs"] ["signs", "texts"] perm_1_0 (sp_cut_at K)) (D : Df K mg "_law_cut_right" s__law_cut_right ["_law_texts_here", "_law_ends_here", "_law_whole", "_law_signs"]) : Ct P w K mg base CX0 5 "_law_cut_right" ["_law_texts_here", "_law_ends_here", "_law_whole", "_law_signs"] (sp__law_cut_right K) := by
  refine ct4 D sc__law_cut_right fun f cdv A outer s H a_texts_here a_ends_here a_whole a_signs Q E hr h => ⟨_, (pss_cons (ps_set (i := 4) sc__law_cut_right.nd rfl (Or.inl rfl) (pe_callB (k_len K) (by rfl) T.n_len bt_len (pa_cons (pe_lcz (own := [("_law_end", 6)]) (by rfl) sc__law_cut_right.nd (pi_lzK K (pz 1)) (blkOk_by (own := [("_law_end", 6)]) (N := N__law_cut_right) (sc := defScope s__law_cut_right) (by decide +kernel)) (fun _ _ _ _ _ => (pg_name (i := 6) sc__law_cut_right.nd rfl (Or.inl rfl))) (fun _ _ _ _ _ => (pts_one (pt_cmpZ o_le (pz 6) (pz 3) (nomark _)))) (fun _ _ _ _ _ => (pz 6))) pa_nil)))
    (pss_cons (ps_set (i := 5) sc__law_cut_right.nd rfl (Or.inl rfl) (pe_cl C_cut_at (hr.mono (by decide)) pass0 (pa_cons (pe_callTy (k_list K) (by rfl) T.n_list bt_list (pa_cons (pz 0) pa_nil)) (pa_cons (pz 3) pa_nil))))
    (pss_cons (ps_if (PW.pt (pw_or (pt_not (pt_trK K (pe_callB (k_isi K) (by rfl) T.n_isinstance bt_isinstance (pa_cons (pz 5) (pa_cons (pe_bltn (v := .ty "int") (by rfl) T.n_int bt_int rfl) pa_nil))))) (pw_or (pt_trK K (pe_callB (k_isi K) (by rfl) T.n_isinstance bt_isinstance (pa_cons (pz 5) (pa_cons (pe_bltn (v := .ty "bool") (by rfl) T.n_bool bt_bool rfl) pa_nil)))) (pw_or (pt_cmpZ (k_ne K hr.units) (pz 5) (pz 4) (nomark _)) (pw_or1 (pt_cmpZ (k_ne K hr.units) (pe_clK K_cut_at_signs_texts (hr.mono (by decide)) pass0 (pk_cons (pz 3) (pk_cons (pe_callTy (k_tuple K) (by rfl) T.n_tuple bt_tuple (pa_cons (pz 0) pa_nil)) pk_nil))) (pz 4) (nomark _))))))) 
      (pss_one (ps_ret pe_bl)) pss_nil)
    (pss_cons (ps_set (i := 6) sc__law_cut_right.nd rfl (Or.inl rfl) (pe_ifExp (pt_cmpZ o_gtS (pz 4) pe_int (nomark _)) (pe_ix (k_ix K) (pz 1) (pe_op o_sub (pz 4) pe_int) (fun _ _ => rfl)) pe_int))
    (pss_cons (ps_set (i := 7) sc__law_cut_right.nd rfl (Or.inl rfl) (pe_slice (k_sl K) (pz 2) po_none (po_z (pz 3))))
    (pss_cons (ps_set (i := 8) sc__law_cut_right.nd rfl (Or.inl rfl) (pe_cl C_frames_in (hr.mono (by decide)) pass0 (pa_cons (pz 7) pa_nil)))
    (pss_cons (ps_if (PW.pt (pw_or (pt_cmpZ (k_ne K hr.units) (pz 8) (pe_tz (pa_cons (pe_slice (k_sl K) (pz 0) po_none (po_z (pz 4))) (pa_cons (pz 6) pa_nil))) (nomark _)) (pw_or1 (pt_cmpZ (k_ne K hr.units) (pe_cl C_all_framed (hr.mono (by decide)) pass0 (pa_cons (pe_ix (k_ix K) (pz 8) pe_int (fun _ _ => rfl)) pa_nil)) (pe_slice (k_sl K) (pz 7) po_none (po_z (pz 6))) (nomark _))))) 
      (pss_one (ps_ret pe_bl)) pss_nil)
    (pss_one (ps_ret (pe_cmpR (k_eq K hr.units) (pe_cl C_is_whole (hr.mono (by decide)) pass0 (pa_cons (pz 7) pa_nil)) (pe_cmpR (k_eq K hr.units) (pz 6) (pe_callB (k_len K) (by rfl) T.n_len bt_len (pa_cons (pz 7) pa_nil)) (nomark _)) (nomark _))))))))))), ?_⟩
  obtain ⟨a, e, ls, k, rfl, rfl, rfl, rfl, ha, he, hl, tl, q⟩ := h
  have zl : ∀ l ∈ ls, l.length ≤ 80000 := fun l hl => Nat.le_trans (tl l hl).2 (by decide : 101 ≤ 80000)
  have okl : ∀ l ∈ ls, Pr l ∧ l.length ≤ 80000 := fun l hl => ⟨(tl l hl).1, zl l hl⟩
  have flen : (fl ls).length ≤ 756 := Nat.le_trans (frs_len (by decide) tl) (by omega)
  have pfl : Pr (fl ls) := frs_pr fun l hl => (tl l hl).1
  have hel := endsL_len 0 ls
  refine ⟨⟨_, SqL.of he⟩, fun D hD => lc_w (wk_list (intsV (endsL 0 ls))) (by rw [intsV_len]; omega) (fun i acc H3 => Same H H3 ∧ acc = intsV (((endsL 0 ls).take i).filter fun e => decide (e ≤ 0 + k))) (fun H3 n3 => ⟨n3.same, rfl⟩) (fun i acc H3 p => sqL_same p.1 (SqL.of he))
    (fun i acc H3 p => by rw [p.2, intsV_len]; exact Nat.le_trans (List.length_filter_le _ _) (by rw [List.length_take]; omega)) ?_ ?_⟩
  · rintro i x acc H3 hx' hD3 ⟨s3, rfl⟩
    obtain ⟨y, h1, rfl, hm⟩ := intsV_at hx'
    refine ⟨rfl, ?_⟩
    have e1 : (endsL 0 ls).take (i + 1) = (endsL 0 ls).take i ++ [y] := by rw [List.take_add_one, h1]; rfl
    refine ite2 (fun hk => ?_) (fun hk => ?_)
    · have hk' := dT hk
      refine ⟨hD3, fun H5 w5 => ⟨s3.wr hD w5, ?_⟩⟩
      rw [e1, List.filter_append, List.filter_cons, if_pos (decide_eq_true (by omega))]
      exact (intsV_app _ _).symm
    · have hk' := dF hk
      refine ⟨hD3, s3, ?_⟩
      rw [e1, List.filter_append, List.filter_cons, if_neg (by simpa using (by omega : ¬ y ≤ 0 + k)), List.filter_nil, List.append_nil]
  rintro acc H2 _ hD2 ⟨s2, rfl⟩
  rw [intsV_len, List.take_length] at hD2
  refine .inl ⟨_, .inl (SqL.of hD2), ?_⟩
  rw [intsV_len, endsL_cnt]
  refine ⟨strsV ls, .inl (SqL.of (s2 _ _ ha)), fun d H3 n3 => ?_⟩
  refine ⟨d, ls, k, rfl, rfl, .inl (SqL.of n3.here), okl, fun H4 s4 => ?_⟩
  refine ⟨by decide, "int", rfl, ?_⟩
  refine ⟨by decide, "int", rfl, ?_⟩
  refine iteN (nself _) ?_
  have s24 := (s2.trans n3.same).trans s4
  refine ⟨strsV ls, .inl ⟨SqL.of (s24 _ _ ha), fun u H5 n5 => ?_⟩⟩
  refine ⟨u, ls, k, rfl, rfl, .inr (SqT.of n5.here), okl, fun H6 s6 => ?_⟩
  refine iteN (nself _) ?_
  have s26 := (s24.trans n5.same).trans s6
  have hsc := sc_cut ls ((fl ls).take k) 0 k zl (by rw [List.drop_zero])
  have hb := sc_bounds (l := (fl ls).take k) (i := 0) (Nat.zero_le _)
  have lk : ((fl ls).take k).length ≤ k := by rw [List.length_take]; omega
  obtain ⟨c, hc⟩ : ∃ c, M9.cnt ls k = c := ⟨_, rfl⟩
  have hcl : c ≤ ls.length := by rw [← hc]; exact cnt_le ls k
  rw [hc] at hsc
  rw [hc]
  have h1 : (sc ((fl ls).take k) 0).1 = ls.take c := by rw [hsc]
  have h2 : (sc ((fl ls).take k) 0).2 = (fl (ls.take c)).length := by rw [hsc]; show 0 + _ = _; omega
  have le1 : (fl (ls.take c)).length ≤ k := by rw [← h2]; omega
  have le2 : (fl (ls.take c)).length ≤ 1000000 := by rw [← h2]; rw [List.length_take] at hb; omega
  have cut1 : cutS (S ((fl ls).take k)) none (some (((sc ((fl ls).take k) 0).2 : Nat) : Int)) = S ((ls.take c).map frL).flatten := by
    rw [h2, cut_n, List.take_take, Nat.min_eq_left le1, fl_take]
    rfl
  have ew : (false ^^ decide (V.int (((sc ((fl ls).take k) 0).2 : Nat) : Int) = V.int (((fl ls).take k).length : Nat))) = decide ((sc ((fl ls).take k) 0).2 = ((fl ls).take k).length) := by
    by_cases z : (sc ((fl ls).take k) 0).2 = ((fl ls).take k).length
    · rw [z, decide_eq_true rfl, decide_eq_true rfl]
      rfl
    · rw [decide_eq_false z, decide_eq_false fun w => z (by have := V.int.inj w; omega)]
      rfl
  have memk : ∀ m ∈ ls.take c, m ∈ ls := fun m hm => List.mem_of_mem_take hm
  have hnil : c = 0 → ls.take c = [] := fun e => by rw [e, List.take_zero]
  obtain ⟨tk, hk⟩ : ∃ tk, ls.take c = tk := ⟨_, rfl⟩
  rw [hk] at h1 h2 le1 le2 cut1 memk hnil
  rcases c with _ | c
  case' zero =>
    have hE : (((sc ((fl ls).take k) 0).2 : Nat) : Int) = 0 := by rw [h2, hnil rfl]; rfl
  case' succ =>
    have hE : (((sc ((fl ls).take k) 0).2 : Nat) : Int) = ((0 + (fl (ls.take (c + 1))).length : Nat) : Int) := by rw [h2, hk, Nat.zero_add]
    refine iteY (decide_eq_true (by omega)) ?_
    refine ⟨_, _, .inl (SqL.of (s26 _ _ he)), by rw [show (((c + 1 : Nat) : Int) - 1) = ((c : Nat) : Int) by omega]; exact atI_nat (intsV_get (endsL_at ls 0 c zl (by omega))), ?_⟩
  all_goals
    refine ⟨sz (by rw [length_S]; omega), ?_⟩
    rw [cut_n]
    refine ⟨_, rfl, pr_take _ pfl, by rw [List.length_take]; omega, fun p r H7 s7 fp fr hr hp => ?_⟩
    rw [hE] at hp
    rw [h1] at hr
    have dp : ∀ (H' : Hp) (p r : Addr) (xs : List (List Nat)) (v : Int), H' r = some (.lst (strsV xs)) → H' p = some (.tup [.ref r, .int v]) → Dp K H' (.ref p) (.tuple [strsD xs, .int v]) := fun H' p r xs v h1 h2 => .tup (SqT.of h2) (.cons (dp_strs (SqL.of h1)) (.cons (.int _) .nil))
    have sh : ∀ (v : Int), SeqAt.shaped (.tuple [strsD tk, .int v]) = true := fun v => shaped_pair (shaped_strs fun m hm => (tl m (memk m hm)).1) (by rw [depth_strsD]; decide)
    refine .inl ⟨_, SqL.of (s7 _ _ (s26 _ _ ha)), fun x H8 n8 => ?_⟩
    have h8 := n8.here
    rw [cutV_strs, hk] at h8
    refine ⟨by show 2 ≤ sizeLine; decide, fun y H9 n9 => ?_⟩
    refine ⟨_, _, dp H9 p r _ _ (n9.keep (n8.keep hr)) (n9.keep (n8.keep hp)), dp H9 y x _ _ (n9.keep h8) n9.here, sh _, sh _, ?_⟩
    rw [eqv_self (sh _)]
    have s79 := (s7.trans n8.same).trans n9.same
    have s69 := n8.same.trans n9.same
    refine ⟨_, _, .inr (SqT.of (s69 _ _ hp)), rfl, ?_⟩
    refine ⟨r, _, rfl, .inl (SqL.of (s69 _ _ hr)), fun m hm => okl m (memk m hm), le2, fun H10 s10 => ?_⟩
    refine ⟨sz (by rw [length_S, List.length_take]; omega), ?_⟩
    rw [← hE, cut1]
    refine iteN (nself _) ?_
    refine ⟨_, rfl, pr_take _ pfl, by rw [List.length_take]; omega, fun H11 s11 => ?_⟩
    refine ⟨sz (by rw [length_S, List.length_take]; omega), ?_⟩
    rw [length_S, ← ew]
    show Q (.bl (false ^^ decide (V.bl _ = V.bl _))) H11
    rw [decide_eq_true rfl]
    exact q H11 (((s26.trans s79).trans s10).trans s11)

/-! ### law(_law_script), level 6 -/
abbrev s_law : Stmt := top 32
abbrev N_law : List Str := ["_law_script", "_law_k", "_law_box_here", "_law_texts_here", "_law_others", "_law_ends_here", "_law_handed", "_law_whole", "_law_told", "_law_signs", "_law_turn", "_law_many", "_law_end", "_law_row"]
theorem sc_law : FnScope N_law ["_law_script"] (defScope s_law) := ⟨rfl, rfl, rfl, by decide +kernel, rfl, by decide +kernel, by decide +kernel⟩
theorem ok_law (T : Txt K mg) (C__law_many_right : Ct P w K mg base CX0 5 "_law_many_right" ["_law_box_here"] (sp__law_many_right K)) (C__law_box : Ct P w K mg base CX0 1 "_law_box" ["_law_great"] (sp__law_box K)) (C__law_cell : Ct P w K mg base CX0 1 "_law_cell" ["_law_script", "_law_k"] (sp__law_cell K)) (C__law_texts : Ct P w K mg base CX0 4 "_law_texts" ["_law_box_here"] (sp__law_texts K)) (C__law_ends : Ct P w K mg base CX0 1 "_law_ends" ["_law_texts_here"] (sp__law_ends K)) (C_all_framed : Ct P w K mg base CX0 4 "all_framed" ["texts"] (sp_all_framed K)) (C__law_frame : Ct P w K mg base CX0 1 "_law_frame" ["_law_row"] (sp__law_frame K)) (C_cut_at : Ct P w K mg base CX0 4 "cut_at" ["texts", "signs"] (sp_cut_at K)) (C__law_cuts : Ct P w K mg base CX0 2 "_law_cuts" ["_law_box_here", "_law_ends_here"] (sp__law_cuts K)) (C__law_cut_right : Ct P w K mg base CX0 5 "_law_cut_right" ["_law_texts_here", "_law_ends_here", "_law_whole", "_law_signs"] (sp__law_cut_right K)) (C__law_take : Ct P w K mg base CX0 1 "_law_take" ["_law_box_here", "_law_many"] (sp__law_take K)) (C_frames_in : Ct P w K mg base CX0 2 "frames_in" ["text"] (sp_frames_in K)) (D : Df K mg "law" s_law ["_law_script"]) : Ct P w K mg base CX0 6 "law" ["_law_script"] (sp_law K) := by
  refine ct1 D sc_law fun f cdv A outer s H a_script Q E hr h => ⟨_, (pss_cons (ps_if (PW.pt (pw_and (pt_cmpZ (k_eq K hr.units) (pe_op o_mod (pe_callTy c_int (by rfl) T.n_int bt_int (pa_cons (pe_cl C__law_cell (hr.mono (by decide)) pass0 (pa_cons (pz 0) (pa_cons pe_int pa_nil))) pa_nil)) pe_int) pe_int (nomark _)) (pw_and1 (pt_not (pt_trK K (pe_cl C__law_many_right (hr.mono (by decide)) pass0 (pa_cons (pe_cl C__law_box (hr.mono (by decide)) pass0 (pa_cons (pe_cl C__law_cell (hr.mono (by decide)) pass0 (pa_cons (pz 0) (pa_cons pe_int pa_nil))) pa_nil)) pa_nil))))))) 
      (pss_one (ps_ret pe_bl)) pss_nil)
    (pss_cons (ps_for PassesOwn.never rfl (pi_rngZ (by rfl) T.n_range (pa_cons (pe_callB (c_max rfl) (by rfl) T.n_max bt_max (pa_cons pe_int (pa_cons (pe_callB (c_min rfl) (by rfl) T.n_min bt_min (pa_cons pe_int (pa_cons (pe_callB (k_len K) (by rfl) T.n_len bt_len (pa_cons (pz 0) pa_nil)) pa_nil))) pa_nil))) pa_nil)) (pg_name (i := 1) sc_law.nd rfl (Or.inl rfl)) 
      (pss_cons (ps_set (i := 2) sc_law.nd rfl (Or.inl rfl) (pe_cl C__law_box (hr.mono (by decide)) pass0 (pa_cons (pe_cl C__law_cell (hr.mono (by decide)) pass0 (pa_cons (pz 0) (pa_cons (pz 1) pa_nil))) pa_nil)))
      (pss_cons (ps_parZ (i := 3) (j := 4) (by rfl) sc_law.nd rfl rfl (by decide) rfl rfl (pa_cons (pe_cl C__law_texts (hr.mono (by decide)) pass0 (pa_cons (pz 2) pa_nil)) (pa_cons (pe_cl C__law_texts (hr.mono (by decide)) pass0 (pa_cons (pz 2) pa_nil)) pa_nil)) (by rfl))
      (pss_cons (ps_parZ (i := 5) (j := 6) (by rfl) sc_law.nd rfl rfl (by decide) rfl rfl (pa_cons (pe_cl C__law_ends (hr.mono (by decide)) pass0 (pa_cons (pz 3) pa_nil)) (pa_cons (pe_callTy (k_list K) (by rfl) T.n_list bt_list (pa_cons (pz 3) pa_nil)) pa_nil)) (by rfl))
      (pss_cons (ps_set (i := 7) sc_law.nd rfl (Or.inl rfl) (pe_cl C_all_framed (hr.mono (by decide)) pass0 (pa_cons (pz 6) pa_nil)))
      (pss_cons (ps_if (PW.pt (pw_or (pt_cmpZ (k_ne K hr.units) (pz 7) (pe_ms PySem.F.slot_str_join PySem.F.type_str_join (mk_join K) pe_str (pa_cons (pe_lcz (own := [("_law_row", 13)]) (by rfl) sc_law.nd (pi_lzK K (pz 3)) (blkOk_by (own := [("_law_row", 13)]) (N := N_law) (sc := defScope s_law) (by decide +kernel)) (fun _ _ _ _ _ => (pg_name (i := 13) sc_law.nd rfl (Or.inl rfl))) (fun _ _ _ _ _ => pts_nil) (fun _ _ _ _ _ => (pe_cl C__law_frame (hr.mono (by decide)) pass0 (pa_cons (pz 13) pa_nil)))) pa_nil)) (nomark _)) (pw_or1 (pt_cmpZ (k_ne K hr.units) (pz 6) (pz 3) (nomark _))))) 
        (pss_one (ps_ret pe_bl)) pss_nil)
      (pss_cons (ps_set (i := 8) sc_law.nd rfl (Or.inl rfl) (pe_lz (pa_cons (pe_cl C_cut_at (hr.mono (by decide)) pass0 (pa_cons (pz 6) (pa_cons (pe_op o_pow pe_int pe_int) pa_nil))) pa_nil)))
      (pss_cons (ps_expr (pe_mlK K PySem.F.slot_list_append PySem.F.type_list_append m_append (pz 6) (pa_cons pe_str pa_nil)))
      (pss_cons (ps_if (pt_cmpZ (k_ne K hr.units) (pe_op (k_add K) (pz 8) (pe_lz (pa_cons (pe_cl C_cut_at (hr.mono (by decide)) pass0 (pa_cons (pz 6) (pa_cons (pe_op o_pow pe_int pe_int) pa_nil))) pa_nil))) (pe_lz (pa_cons (pe_callB (k_len K) (by rfl) T.n_len bt_len (pa_cons (pz 3) pa_nil)) (pa_cons (pe_op (k_add K) (pe_callB (k_len K) (by rfl) T.n_len bt_len (pa_cons (pz 3) pa_nil)) pe_int) pa_nil))) (nomark _)) 
        (pss_one (ps_ret pe_bl)) pss_nil)
      (pss_cons (ps_for PassesOwn.never rfl (pi_lzK K (pe_cl C__law_cuts (hr.mono (by decide)) pass0 (pa_cons (pz 2) (pa_cons (pz 5) pa_nil)))) (pg_name (i := 9) sc_law.nd rfl (Or.inl rfl)) 
        (pss_one (ps_if (pt_not (pt_trK K (pe_cl C__law_cut_right (hr.mono (by decide)) pass0 (pa_cons (pz 3) (pa_cons (pz 5) (pa_cons (pz 7) (pa_cons (pz 9) pa_nil))))))) 
          (pss_one (ps_ret pe_bl)) pss_nil)))
      (pss_one (ps_for PassesOwn.never rfl (pi_rngZ (by rfl) T.n_range (pa_cons pe_int pa_nil)) (pg_name (i := 10) sc_law.nd rfl (Or.inl rfl)) 
        (pss_cons (ps_set (i := 11) sc_law.nd rfl (Or.inl rfl) (pe_cl C__law_take (hr.mono (by decide)) pass0 (pa_cons (pz 2) (pa_cons (pe_op (k_add K) (pe_callB (k_len K) (by rfl) T.n_len bt_len (pa_cons (pz 3) pa_nil)) pe_int) pa_nil))))
        (pss_cons (ps_set (i := 12) sc_law.nd rfl (Or.inl rfl) (pe_ifExp (pt_cmpZ o_gtS (pz 11) pe_int (nomark _)) (pe_ix (k_ix K) (pz 5) (pe_op o_sub (pz 11) pe_int) (fun _ _ => rfl)) pe_int))
        (pss_cons (ps_set (i := 13) sc_law.nd rfl (Or.inl rfl) (pe_op (k_add K) (pe_slice (k_sl K) (pz 7) po_none (po_z (pz 12))) (pe_cl C_all_framed (hr.mono (by decide)) pass0 (pa_cons (pz 4) pa_nil))))
        (pss_one (ps_if (PW.pt (pw_or (pt_cmpZ (k_ne K hr.units) (pe_cl C_frames_in (hr.mono (by decide)) pass0 (pa_cons (pz 13) pa_nil)) (pe_tz (pa_cons (pe_op (k_add K) (pe_slice (k_sl K) (pz 3) po_none (po_z (pz 11))) (pz 4)) (pa_cons (pe_callB (k_len K) (by rfl) T.n_len bt_len (pa_cons (pz 13) pa_nil)) pa_nil))) (nomark _)) (pw_or1 (pt_cmpZ (k_ne K hr.units) (pe_ix (k_ix K) (pe_cl C_frames_in (hr.mono (by decide)) pass0 (pa_cons (pe_slice (k_sl K) (pz 13) po_none (po_z (pe_un un_negZ pe_int))) pa_nil)) pe_int (fun _ _ => rfl)) (pe_slice (k_sl K) (pe_op (k_add K) (pe_slice (k_sl K) (pz 3) po_none (po_z (pz 11))) (pz 4)) po_none (po_z (pe_un un_negZ pe_int))) (nomark _))))) 
          (pss_one (ps_ret pe_bl)) pss_nil)))))))))))))))))
    (pss_one (ps_ret pe_bl)))), ?_⟩
  obtain ⟨a, ns, rfl, hS, hl, k⟩ := h
  have rb : ∀ z : Int, (if (if (ns.length : Int) < 3 then (ns.length : Int) else 3) > 1 then (if (ns.length : Int) < 3 then (ns.length : Int) else 3) else 1) = z → 1 ≤ z ∧ z ≤ 3 := fun z e => by
    subst e
    split <;> split <;> omega
  refine ⟨a, _, ns, rfl, rfl, by decide, by decide, hS, hl, fun g0 H1 s1 => ?_⟩
  refine ⟨by show (0 : Int) < _; decide, ?_⟩
  refine ite2 (fun hg => ?yes) (fun hg => ?no)
  case' yes =>
    refine ⟨a, _, ns, rfl, rfl, by decide, by decide, sqL_same s1 hS, hl, fun g1 H2 s2 => ?_⟩
    refine ⟨g1, rfl, fun b H3 fb s3 B3 => ?_⟩
    refine ⟨b, rfl, B3, fun H4 t4 => ?_⟩
    have sS : Same H H4 := ((s1.trans s2)).trans (s3.but fb t4)
  case' no =>
    have sS : Same H H1 := s1
  all_goals
    refine .inl ⟨_, .inl (sqL_same sS hS), ?_⟩
    rw [List.length_map]
    generalize hz : (if (if (ns.length : Int) < 3 then (ns.length : Int) else 3) > 1 then (if (ns.length : Int) < 3 then (ns.length : Int) else 3) else 1) = z
    obtain ⟨z2, z4⟩ := rb z hz
    refine ⟨by omega, by omega, for_w (wk_rng 0 _) (fun i σ H' => Same H H' ∧ ∃ v1 v2 v3 v4 v5 v6 v7 v8 v9 v10 v11 v12 v13 : Option V, σ = [some (.ref a), v1, v2, v3, v4, v5, v6, v7, v8, v9, v10, v11, v12, v13]) ⟨sS, _, _, _, _, _, _, _, _, _, _, _, _, _, rfl⟩ (fun _ _ _ _ => trivial) ?_ (fun σ H' p => k H')⟩
    clear sS
    rintro i x σ H0 hx ⟨s0, v1, v2, v3, v4, v5, v6, v7, v8, v9, v10, v11, v12, v13, rfl⟩
    obtain ⟨hi, rfl⟩ := rngV_at hx
    refine ⟨a, _, ns, rfl, rfl, by omega, by omega, sqL_same s0 hS, hl, fun g H1 s1 => ?_⟩
    refine ⟨g, rfl, fun b H2 fb s2 B2 => ?_⟩
    refine ⟨b, 0, rfl, B2, by omega, fun p ls H3 fp t3 B3 hp3 lls tls => ?_⟩
    have nbp : p ≠ b := (B2.ne fp).symm
    refine ⟨b, _, rfl, B3, by omega, fun q ms H4 fq t4 B4 hq4 lms tms => ?_⟩
    have nbq : q ≠ b := (B3.ne fq).symm
    have hp4 := t4.at nbp hp3
    have s04 : Same H H4 := (s0.trans s1).trans (s2.but fb (t3.trans t4))
    have zls := fun l hl => Nat.le_trans (tls l hl).2 (by decide : 101 ≤ 80000)
    have zms := fun l hl => Nat.le_trans (tms l hl).2 (by decide : 101 ≤ 80000)
    have okl : ∀ l ∈ ls, Pr l ∧ l.length ≤ 80000 := fun l hl => ⟨(tls l hl).1, zls l hl⟩
    have okm : ∀ l ∈ ms, Pr l ∧ l.length ≤ 80000 := fun l hl => ⟨(tms l hl).1, zms l hl⟩
    have fls := frs_len (by decide) tls
    have fms := frs_len (by decide) tms
    refine ⟨p, ls, rfl, SqL.of hp4, tls, lls, fun e H5 s5 fe he => ?_⟩
    have hp5 := s5 _ _ hp4
    refine ⟨strsV ls, .inl (SqL.of hp5), fun hh H6 n6 => ?_⟩
    refine ⟨hh, ls, rfl, .inl (SqL.of n6.here), okl, by omega, fun H7 s7 => ?_⟩
    have s57 := n6.same.trans s7
    have hp7 := s57 _ _ hp5
    have hh7 := s7 _ _ n6.here
    refine ⟨⟨_, SqL.of hp7⟩, fun D hD => frs_lc (by omega) zls (SqL.of hp7) hD (fun _ => rfl) (fun _ => rfl) fun H8 h8 s8 => ?_⟩
    refine ⟨(ls.map frL).map S, .inl (SqL.of h8), joinSz _ (by omega), ?_⟩
    rw [join_flat lit_nil]
    refine iteN (nself _) ?_
    have shl := shaped_strs fun l hl => (okl l hl).1
    refine ⟨_, _, dp_strs (SqL.of (s8 _ _ hh7)), dp_strs (SqL.of (s8 _ _ hp7)), shl, shl, ?_⟩
    rw [eqv_self shl]
    have hh8 := s8 _ _ hh7
    refine ⟨⟨by decide, by decide, by decide⟩, ?_⟩
    refine ⟨hh, ls, 1000000000, rfl, rfl, .inl (SqL.of hh8), okl, fun H9 s9 => ?_⟩
    have big : M9.cnt ls 1000000000 = ls.length := cnt_full ls _ zls (by show (ls.map frL).flatten.length ≤ _; omega)
    refine ⟨by show 1 ≤ sizeLine; decide, fun T H10 n10 => ?_⟩
    have hh10 := n10.keep (s9 _ _ hh8)
    have hT10 := n10.here
    rw [big] at hT10
    have lx : ("x" : Str) = S [120] := by decide +kernel
    refine ⟨⟨_, SqL.of hh10⟩, _, hh10, szlt (by rw [strsV_len]; omega), fun H11 w11 => ?_⟩
    have h11 := w11.here
    rw [lx, ← strsV_app] at h11
    have okx : ∀ l ∈ ls ++ [[120]], Pr l ∧ l.length ≤ 80000 := fun l hl => by
      rcases List.mem_append.mp hl with q | q
      · exact okl l q
      · rw [List.mem_singleton.mp q]
        exact ⟨pr_of (by decide), by decide⟩
    have ex : (fl (ls ++ [[120]])).length = (ls.map frL).flatten.length + 8 := by
      rw [fl_app, List.length_append]
      have : (fl [[120]]).length = 8 := by decide
      rw [this]
      rfl
    have big2 : M9.cnt (ls ++ [[120]]) 1000000000 = ls.length + 1 := by
      rw [cnt_full _ _ (fun l hl => (okx l hl).2) (by rw [ex]; omega), List.length_append]
      rfl
    have nhT : T ≠ hh := (ne_of_none (s9 _ _ hh8) n10.fresh).symm
    refine ⟨⟨by decide, by decide, by decide⟩, ?_⟩
    refine ⟨hh, ls ++ [[120]], 1000000000, rfl, rfl, .inl (SqL.of h11), okx, fun H12 s12 => ?_⟩
    rw [big2]
    refine ⟨by show 1 ≤ sizeLine; decide, fun T2 H13 n13 => ?_⟩
    have hT13 := n13.keep (s12 _ _ (w11.keep nhT hT10))
    refine .inl ⟨_, _, hT13, n13.here, by show 2 ≤ sizeLine; decide, fun T3 H14 n14 => ?_⟩
    have h14 := n14.here
    rw [show [V.int (ls.length : Nat)] ++ [V.int ((ls.length + 1 : Nat) : Int)] = intsV [ls.length, ls.length + 1] from rfl] at h14
    have fh : H4 hh = none := s5.free n6.fresh
    have s410 : Same H4 H10 := (((s5.trans s57).trans s8).trans s9).trans n10.same
    have s414 : Same H4 H14 := ((s410.wr fh w11).trans s12).trans (n13.same.trans n14.same)
    have hp14 := s414 _ _ hp4
    refine .inl ⟨_, .inl (SqL.of hp14), ?_⟩
    rw [strsV_len]
    refine .inl ⟨_, .inl (SqL.of hp14), ?_⟩
    rw [strsV_len]
    refine ⟨by show 2 ≤ sizeLine; decide, fun T4 H15 n15 => ?_⟩
    have h15 := n15.here
    rw [show [V.int (ls.length : Nat), V.int ((ls.length : Nat) + 1 : Int)] = intsV [ls.length, ls.length + 1] from rfl] at h15
    refine ⟨_, _, dp_ints (SqL.of (n15.keep h14)), dp_ints (SqL.of h15), shaped_ints _, shaped_ints _, ?_⟩
    rw [eqv_self (shaped_ints _)]
    have s415 := s414.trans n15.same
    have nbe : e ≠ b := (B4.ne fe).symm
    have he15 : H15 e = some (.lst (intsV (endsL 0 ls))) := by
      have neh : e ≠ hh := ne_of_none he n6.fresh
      have q := (n10.keep (s9 _ _ (s8 _ _ (s57 _ _ he))))
      exact (n15.keep (n14.keep (n13.keep (s12 _ _ (w11.keep neh q)))))
    have hp15 := s415 _ _ hp4
    have hq15 := s415 _ _ hq4
    refine ⟨b, e, _, endsL 0 ls, rfl, rfl, B4.same s415, by omega, he15, by rw [endsL_len]; exact lls, fun y hy => ⟨by have := endsL_ge 0 ls y hy; omega, Nat.le_trans (endsL_le zls y hy) (by show (ls.map frL).flatten.length ≤ _; omega)⟩, fun c cs H16 fc t16 B16 hc lc => ?_⟩
    have hp16 := t16.at nbp hp15
    have hq16 := t16.at nbq hq15
    have he16 := t16.at nbe he15
    refine ⟨⟨_, SqL.of hc⟩, for_w (wk_list (intsV cs)) (fun i' σ H' => Same H16 H' ∧ ∃ w : Option V, σ = [some (.ref a), some (.int (0 + (i : Nat))), some (.ref b), some (.ref p), some (.ref q), some (.ref e), some (.ref hh), some (.str (S (fl ls))), some (.ref T), w, v10, v11, v12, v13]) ⟨Same.refl _, _, rfl⟩ (fun _ _ _ p => sqL_same p.1 (SqL.of hc)) ?_ ?_⟩
    · rintro i' x σ H17 hx' ⟨s17, w, rfl⟩
      obtain ⟨y, h1, rfl, hm⟩ := intsV_at hx'
      refine ⟨p, e, ls, y, rfl, rfl, rfl, rfl, s17 _ _ hp16, s17 _ _ he16, lls, tls, fun H18 s18 => ?_⟩
      exact ⟨s17.trans s18, _, rfl⟩
    rintro σ H17 ⟨s17, w, rfl⟩
    have B17 := B16.same s17
    refine ⟨by omega, by omega, for_w (wk_rng 0 _) (fun i' σ H' => But b H17 H' ∧ BoxAt (1000 + i') H' b ∧ ∃ w10 w11 w12 w13 : Option V, σ = [some (.ref a), some (.int (0 + (i : Nat))), some (.ref b), some (.ref p), some (.ref q), some (.ref e), some (.ref hh), some (.str (S (fl ls))), some (.ref T), w, w10, w11, w12, w13]) ⟨But.of (Same.refl _), B17.mono (by omega), _, _, _, _, rfl⟩ (fun _ _ _ _ => trivial) ?_ ?_⟩
    · rintro i' x σ H18 hx' ⟨t18, B18, w10, w11, w12, w13, rfl⟩
      obtain ⟨hi', rfl⟩ := rngV_at hx'
      have hp18 := t18.at nbp (s17 _ _ hp16)
      refine .inl ⟨_, .inl (SqL.of hp18), ?_⟩
      rw [strsV_len]
      have hi3 : i' < 3 := hi'
      refine ⟨b, _, _, rfl, rfl, by omega, by omega, B18, by omega, fun r H19 t19 B19 r0 r1 => ?_⟩
      obtain ⟨j, rfl⟩ : ∃ j : Nat, r = (j : Int) := ⟨r.toNat, by omega⟩
      have hp19 := t19.at nbp hp18
      have hq19 := t19.at nbq (t18.at nbq (s17 _ _ hq16))
      have he19 := t19.at nbe (t18.at nbe (s17 _ _ he16))
      have hjl : j ≤ ls.length := by omega
      have flt := fl_take_len ls j
      have flt2 : (fl ls).length ≤ 756 := by show (ls.map frL).flatten.length ≤ _; omega
      have memk : ∀ m ∈ ls.take j, m ∈ ls := fun m hm => List.mem_of_mem_take hm
      have hnil : j = 0 → ls.take j = [] := fun e => by rw [e, List.take_zero]
      have cut1 : cutS (S (fl ls)) none (some (((fl (ls.take j)).length : Nat) : Int)) = S (fl (ls.take j)) := by
        rw [cut_n, fl_take]
      obtain ⟨tk, hk⟩ : ∃ tk, ls.take j = tk := ⟨_, rfl⟩
      rw [hk] at memk hnil cut1 flt
      have okL : ∀ l ∈ tk ++ ms, Pr l ∧ l.length ≤ 80000 := fun l hl => (List.mem_append.mp hl).elim (fun h => okl l (memk l h)) (okm l)
      have pL : Pr (fl (tk ++ ms)) := frs_pr fun l hl => (okL l hl).1
      have lL : (fl (tk ++ ms)).length ≤ 2000 := by
        rw [fl_app, List.length_append]
        have : (fl ms).length ≤ 756 := by show (ms.map frL).flatten.length ≤ _; omega
        omega
      have zL := fun l hl => (okL l hl).2
      have lenL : (tk ++ ms).length ≤ 14 := by rw [List.length_append, ← hk, List.length_take]; omega
      have hsc1 := sc_cut (tk ++ ms) (fl (tk ++ ms)) 0 _ zL (by rw [List.drop_zero, List.take_of_length_le (Nat.le_refl _)])
      rw [cnt_full _ _ zL (Nat.le_refl _), List.take_of_length_le (Nat.le_refl _), Nat.zero_add] at hsc1
      have hsc2 := sc_cut (tk ++ ms) ((fl (tk ++ ms)).take ((fl (tk ++ ms)).length - 1)) 0 _ zL (by rw [List.drop_zero])
      rw [cnt_last _ zL] at hsc2
      rcases j with _ | j
      case' zero =>
        have hE : (((fl tk).length : Nat) : Int) = 0 := by rw [hnil rfl]; rfl
        have cut2 : cutS (S (fl ls)) none (some 0) = S (fl tk) := by rw [← hE]; exact cut1
      case' succ =>
        have hE : (((fl tk).length : Nat) : Int) = ((0 + (fl (ls.take (j + 1))).length : Nat) : Int) := by rw [hk, Nat.zero_add]
        have cut2 : cutS (S (fl ls)) none (some ((0 + (fl (ls.take (j + 1))).length : Nat) : Int)) = S (fl tk) := by rw [← hE]; exact cut1
        refine iteY (decide_eq_true (by omega)) ?_
        refine ⟨_, _, .inl (SqL.of he19), by rw [show (((j + 1 : Nat) : Int) - 1) = ((j : Nat) : Int) by omega]; exact atI_nat (intsV_get (endsL_at ls 0 j zls (by omega))), ?_⟩
      all_goals
        refine ⟨sz (by rw [length_S]; omega), ?_⟩
        rw [cut2]
        refine ⟨q, ms, rfl, .inl (SqL.of hq19), okm, by omega, fun H20 s20 => ?_⟩
        have e20 : S (ms.map frL).flatten = S (fl ms) := rfl
        rw [e20]
        refine ⟨sz (by rw [length_S, length_S, ← List.length_append, ← fl_app]; omega), ?_⟩
        rw [S_cat, ← fl_app]
        refine ⟨_, rfl, pL, by omega, fun P1 Q1 H21 s21 fP1 fQ1 hQ1 hP1 => ?_⟩
        rw [hsc1] at hQ1 hP1
        have s921 := s20.trans s21
        refine .inl ⟨_, SqL.of (s921 _ _ hp19), fun x1 H22 n22 => ?_⟩
        have h22 := n22.here
        rw [cutV_strs, hk] at h22
        refine .inl ⟨_, _, h22, n22.keep (s921 _ _ hq19), sz (by rw [strsV_len, strsV_len, ← List.length_append]; omega), fun x2 H23 n23 => ?_⟩
        have h23 := n23.here
        rw [strsV_cat] at h23
        refine ⟨sz (by rw [length_S]; omega), ?_⟩
        rw [length_S]
        refine ⟨by show 2 ≤ sizeLine; decide, fun x3 H24 n24 => ?_⟩
        have dp : ∀ (H' : Hp) (p r : Addr) (xs : List (List Nat)) (v : Int), H' r = some (.lst (strsV xs)) → H' p = some (.tup [.ref r, .int v]) → Dp K H' (.ref p) (.tuple [strsD xs, .int v]) := fun H' p r xs v h1 h2 => .tup (SqT.of h2) (.cons (dp_strs (SqL.of h1)) (.cons (.int _) .nil))
        have shL : SeqAt.shaped (strsD (tk ++ ms)) = true := shaped_strs fun m hm => (okL m hm).1
        have sh : ∀ (v : Int), SeqAt.shaped (.tuple [strsD (tk ++ ms), .int v]) = true := fun v => shaped_pair shL (by rw [depth_strsD]; decide)
        have s2124 := (n22.same.trans n23.same).trans n24.same
        refine ⟨_, _, dp H24 P1 Q1 _ _ (s2124 _ _ hQ1) (s2124 _ _ hP1), dp H24 x3 x2 _ _ (n24.keep h23) n24.here, sh _, sh _, ?_⟩
        rw [eqv_self (sh _)]
        refine ⟨sz (by rw [length_S]; omega), ?_⟩
        rw [cut_neg1]
        refine ⟨_, rfl, pr_take _ pL, by rw [List.length_take]; omega, fun P2 Q2 H25 s25 fP2 fQ2 hQ2 hP2 => ?_⟩
        rw [hsc2] at hQ2 hP2
        refine ⟨_, _, .inr (SqT.of hP2), rfl, ?_⟩
        have s925 := (s921.trans s2124).trans s25
        refine .inl ⟨_, SqL.of (s925 _ _ hp19), fun y1 H26 n26 => ?_⟩
        have h26 := n26.here
        rw [cutV_strs, hk] at h26
        refine .inl ⟨_, _, h26, n26.keep (s925 _ _ hq19), sz (by rw [strsV_len, strsV_len, ← List.length_append]; omega), fun y2 H27 n27 => ?_⟩
        have h27 := n27.here
        rw [strsV_cat] at h27
        refine .inl ⟨_, SqL.of h27, fun y3 H28 n28 => ?_⟩
        have h28 := n28.here
        rw [cutV_neg1] at h28
        have s2528 := (n26.same.trans n27.same).trans n28.same
        have shT : SeqAt.shaped (strsD ((tk ++ ms).take ((tk ++ ms).length - 1))) = true := shaped_strs fun m hm => (okL m (List.mem_of_mem_take hm)).1
        refine ⟨_, _, dp_strs (SqL.of (s2528 _ _ hQ2)), dp_strs (SqL.of h28), shT, shT, ?_⟩
        rw [eqv_self shT]
        have s1928 := s925.trans s2528
        exact ⟨(t18.trans t19).trans (But.of s1928), (B19.same s1928).mono (by omega), _, _, _, _, rfl⟩
    · rintro σ H18 ⟨t18, B18, w10, w11, w12, w13, rfl⟩
      have fb4 : H b = none := (s0.trans s1).free fb
      exact ⟨s04.trans s415 |>.but fb4 ((t16.trans (But.of s17)).trans t18), _, _, _, _, _, _, _, _, _, _, _, _, _, rfl⟩


end
theorem law_asks {K : PySem.W.Frag} {H : Hp} {E : XK} (a : Addr) (ns : List Int) (hl : ns.length ≤ 63) (hS : SqL K H a (ns.map V.int)) : sp_law K [.ref a] H (fun v _ => v = .bl true) E := ⟨a, ns, rfl, hS, hl, fun _ => rfl⟩
theorem all_mk {l : PySem.W.OpenLaw} {w : World} {K : PySem.W.Frag} {h : Heap} {mg : Str → Option Value} {fa : Addr} (X : K.In h) (G : h.Ns mainGlobals mg) (hfa : mg "law" = some (.ref fa))
    {f23 : Addr} {od23 an23 : Option Addr} {sl23 : Array (Option Value)} {oc23 kV23 dc23 pm23 cd23 ct23 : Value}
    (a23 : PySem.W.nsIn K mainGlobals "_law_take" = some (some (.ref f23))) (l23 : K.lookup f23 = some ⟨oc23, od23, .func (PySem.W.fnOf "_law_take" "_law_take" (defArgs s__law_take) (defBody s__law_take) (defScope s__law_take) .none kV23 dc23 pm23 an23 cd23 ct23), sl23⟩) (c23 : PySem.W.codeIn K cd23 "_law_take" = true) (k23 : PySem.W.keepIn K (.ref f23) = true)
    {f25 : Addr} {od25 an25 : Option Addr} {sl25 : Array (Option Value)} {oc25 kV25 dc25 pm25 cd25 ct25 : Value}
    (a25 : PySem.W.nsIn K mainGlobals "_law_frame" = some (some (.ref f25))) (l25 : K.lookup f25 = some ⟨oc25, od25, .func (PySem.W.fnOf "_law_frame" "_law_frame" (defArgs s__law_frame) (defBody s__law_frame) (defScope s__law_frame) .none kV25 dc25 pm25 an25 cd25 ct25), sl25⟩) (c25 : PySem.W.codeIn K cd25 "_law_frame" = true) (k25 : PySem.W.keepIn K (.ref f25) = true)
    {f5 : Addr} {od5 an5 : Option Addr} {sl5 : Array (Option Value)} {oc5 kV5 dc5 pm5 cd5 ct5 : Value}
    (a5 : PySem.W.nsIn K mainGlobals "is_list" = some (some (.ref f5))) (l5 : K.lookup f5 = some ⟨oc5, od5, .func (PySem.W.fnOf "is_list" "is_list" (defArgs s_is_list) (defBody s_is_list) (defScope s_is_list) .none kV5 dc5 pm5 an5 cd5 ct5), sl5⟩) (c5 : PySem.W.codeIn K cd5 "is_list" = true) (k5 : PySem.W.keepIn K (.ref f5) = true)
    {f8 : Addr} {od8 an8 : Option Addr} {sl8 : Array (Option Value)} {oc8 kV8 dc8 pm8 cd8 ct8 : Value}
    (a8 : PySem.W.nsIn K mainGlobals "is_signs" = some (some (.ref f8))) (l8 : K.lookup f8 = some ⟨oc8, od8, .func (PySem.W.fnOf "is_signs" "is_signs" (defArgs s_is_signs) (defBody s_is_signs) (defScope s_is_signs) .none kV8 dc8 pm8 an8 cd8 ct8), sl8⟩) (c8 : PySem.W.codeIn K cd8 "is_signs" = true) (k8 : PySem.W.keepIn K (.ref f8) = true)
    {f12 : Addr} {od12 an12 : Option Addr} {sl12 : Array (Option Value)} {oc12 kV12 dc12 pm12 cd12 ct12 : Value}
    (a12 : PySem.W.nsIn K mainGlobals "has_frame" = some (some (.ref f12))) (l12 : K.lookup f12 = some ⟨oc12, od12, .func (PySem.W.fnOf "has_frame" "has_frame" (defArgs s_has_frame) (defBody s_has_frame) (defScope s_has_frame) .none kV12 dc12 pm12 an12 cd12 ct12), sl12⟩) (c12 : PySem.W.codeIn K cd12 "has_frame" = true) (k12 : PySem.W.keepIn K (.ref f12) = true)
    {f13 : Addr} {od13 an13 : Option Addr} {sl13 : Array (Option Value)} {oc13 kV13 dc13 pm13 cd13 ct13 : Value}
    (a13 : PySem.W.nsIn K mainGlobals "check_texts" = some (some (.ref f13))) (l13 : K.lookup f13 = some ⟨oc13, od13, .func (PySem.W.fnOf "check_texts" "check_texts" (defArgs s_check_texts) (defBody s_check_texts) (defScope s_check_texts) .none kV13 dc13 pm13 an13 cd13 ct13), sl13⟩) (c13 : PySem.W.codeIn K cd13 "check_texts" = true) (k13 : PySem.W.keepIn K (.ref f13) = true)
    {f14 : Addr} {od14 an14 : Option Addr} {sl14 : Array (Option Value)} {oc14 kV14 dc14 pm14 cd14 ct14 : Value}
    (a14 : PySem.W.nsIn K mainGlobals "framed" = some (some (.ref f14))) (l14 : K.lookup f14 = some ⟨oc14, od14, .func (PySem.W.fnOf "framed" "framed" (defArgs s_framed) (defBody s_framed) (defScope s_framed) .none kV14 dc14 pm14 an14 cd14 ct14), sl14⟩) (c14 : PySem.W.codeIn K cd14 "framed" = true) (k14 : PySem.W.keepIn K (.ref f14) = true)
    {f15 : Addr} {od15 an15 : Option Addr} {sl15 : Array (Option Value)} {oc15 kV15 dc15 pm15 cd15 ct15 : Value}
    (a15 : PySem.W.nsIn K mainGlobals "all_framed" = some (some (.ref f15))) (l15 : K.lookup f15 = some ⟨oc15, od15, .func (PySem.W.fnOf "all_framed" "all_framed" (defArgs s_all_framed) (defBody s_all_framed) (defScope s_all_framed) .none kV15 dc15 pm15 an15 cd15 ct15), sl15⟩) (c15 : PySem.W.codeIn K cd15 "all_framed" = true) (k15 : PySem.W.keepIn K (.ref f15) = true)
    {f16 : Addr} {od16 an16 : Option Addr} {sl16 : Array (Option Value)} {oc16 kV16 dc16 pm16 cd16 ct16 : Value}
    (a16 : PySem.W.nsIn K mainGlobals "frame_end" = some (some (.ref f16))) (l16 : K.lookup f16 = some ⟨oc16, od16, .func (PySem.W.fnOf "frame_end" "frame_end" (defArgs s_frame_end) (defBody s_frame_end) (defScope s_frame_end) .none kV16 dc16 pm16 an16 cd16 ct16), sl16⟩) (c16 : PySem.W.codeIn K cd16 "frame_end" = true) (k16 : PySem.W.keepIn K (.ref f16) = true)
    {f17 : Addr} {od17 an17 : Option Addr} {sl17 : Array (Option Value)} {oc17 kV17 dc17 pm17 cd17 ct17 : Value}
    (a17 : PySem.W.nsIn K mainGlobals "frames_in" = some (some (.ref f17))) (l17 : K.lookup f17 = some ⟨oc17, od17, .func (PySem.W.fnOf "frames_in" "frames_in" (defArgs s_frames_in) (defBody s_frames_in) (defScope s_frames_in) .none kV17 dc17 pm17 an17 cd17 ct17), sl17⟩) (c17 : PySem.W.codeIn K cd17 "frames_in" = true) (k17 : PySem.W.keepIn K (.ref f17) = true)
    {f6 : Addr} {od6 an6 : Option Addr} {sl6 : Array (Option Value)} {oc6 kV6 dc6 pm6 cd6 ct6 : Value}
    (a6 : PySem.W.nsIn K mainGlobals "is_integer" = some (some (.ref f6))) (l6 : K.lookup f6 = some ⟨oc6, od6, .func (PySem.W.fnOf "is_integer" "is_integer" (defArgs s_is_integer) (defBody s_is_integer) (defScope s_is_integer) .none kV6 dc6 pm6 an6 cd6 ct6), sl6⟩) (c6 : PySem.W.codeIn K cd6 "is_integer" = true) (k6 : PySem.W.keepIn K (.ref f6) = true)
    {f7 : Addr} {od7 an7 : Option Addr} {sl7 : Array (Option Value)} {oc7 kV7 dc7 pm7 cd7 ct7 : Value}
    (a7 : PySem.W.nsIn K mainGlobals "is_count" = some (some (.ref f7))) (l7 : K.lookup f7 = some ⟨oc7, od7, .func (PySem.W.fnOf "is_count" "is_count" (defArgs s_is_count) (defBody s_is_count) (defScope s_is_count) .none kV7 dc7 pm7 an7 cd7 ct7), sl7⟩) (c7 : PySem.W.codeIn K cd7 "is_count" = true) (k7 : PySem.W.keepIn K (.ref f7) = true)
    {f19 : Addr} {od19 an19 : Option Addr} {sl19 : Array (Option Value)} {oc19 kV19 dc19 pm19 cd19 ct19 : Value}
    (a19 : PySem.W.nsIn K mainGlobals "cut_at" = some (some (.ref f19))) (l19 : K.lookup f19 = some ⟨oc19, od19, .func (PySem.W.fnOf "cut_at" "cut_at" (defArgs s_cut_at) (defBody s_cut_at) (defScope s_cut_at) .none kV19 dc19 pm19 an19 cd19 ct19), sl19⟩) (c19 : PySem.W.codeIn K cd19 "cut_at" = true) (k19 : PySem.W.keepIn K (.ref f19) = true)
    {f31 : Addr} {od31 an31 : Option Addr} {sl31 : Array (Option Value)} {oc31 kV31 dc31 pm31 cd31 ct31 : Value}
    (a31 : PySem.W.nsIn K mainGlobals "_law_many_right" = some (some (.ref f31))) (l31 : K.lookup f31 = some ⟨oc31, od31, .func (PySem.W.fnOf "_law_many_right" "_law_many_right" (defArgs s__law_many_right) (defBody s__law_many_right) (defScope s__law_many_right) .none kV31 dc31 pm31 an31 cd31 ct31), sl31⟩) (c31 : PySem.W.codeIn K cd31 "_law_many_right" = true) (k31 : PySem.W.keepIn K (.ref f31) = true)
    {f22 : Addr} {od22 an22 : Option Addr} {sl22 : Array (Option Value)} {oc22 kV22 dc22 pm22 cd22 ct22 : Value}
    (a22 : PySem.W.nsIn K mainGlobals "_law_box" = some (some (.ref f22))) (l22 : K.lookup f22 = some ⟨oc22, od22, .func (PySem.W.fnOf "_law_box" "_law_box" (defArgs s__law_box) (defBody s__law_box) (defScope s__law_box) .none kV22 dc22 pm22 an22 cd22 ct22), sl22⟩) (c22 : PySem.W.codeIn K cd22 "_law_box" = true) (k22 : PySem.W.keepIn K (.ref f22) = true)
    {f21 : Addr} {od21 an21 : Option Addr} {sl21 : Array (Option Value)} {oc21 kV21 dc21 pm21 cd21 ct21 : Value}
    (a21 : PySem.W.nsIn K mainGlobals "_law_cell" = some (some (.ref f21))) (l21 : K.lookup f21 = some ⟨oc21, od21, .func (PySem.W.fnOf "_law_cell" "_law_cell" (defArgs s__law_cell) (defBody s__law_cell) (defScope s__law_cell) .none kV21 dc21 pm21 an21 cd21 ct21), sl21⟩) (c21 : PySem.W.codeIn K cd21 "_law_cell" = true) (k21 : PySem.W.keepIn K (.ref f21) = true)
    {f24 : Addr} {od24 an24 : Option Addr} {sl24 : Array (Option Value)} {oc24 kV24 dc24 pm24 cd24 ct24 : Value}
    (a24 : PySem.W.nsIn K mainGlobals "_law_sign" = some (some (.ref f24))) (l24 : K.lookup f24 = some ⟨oc24, od24, .func (PySem.W.fnOf "_law_sign" "_law_sign" (defArgs s__law_sign) (defBody s__law_sign) (defScope s__law_sign) .none kV24 dc24 pm24 an24 cd24 ct24), sl24⟩) (c24 : PySem.W.codeIn K cd24 "_law_sign" = true) (k24 : PySem.W.keepIn K (.ref f24) = true)
    {f26 : Addr} {od26 an26 : Option Addr} {sl26 : Array (Option Value)} {oc26 kV26 dc26 pm26 cd26 ct26 : Value}
    (a26 : PySem.W.nsIn K mainGlobals "_law_text" = some (some (.ref f26))) (l26 : K.lookup f26 = some ⟨oc26, od26, .func (PySem.W.fnOf "_law_text" "_law_text" (defArgs s__law_text) (defBody s__law_text) (defScope s__law_text) .none kV26 dc26 pm26 an26 cd26 ct26), sl26⟩) (c26 : PySem.W.codeIn K cd26 "_law_text" = true) (k26 : PySem.W.keepIn K (.ref f26) = true)
    {f27 : Addr} {od27 an27 : Option Addr} {sl27 : Array (Option Value)} {oc27 kV27 dc27 pm27 cd27 ct27 : Value}
    (a27 : PySem.W.nsIn K mainGlobals "_law_texts" = some (some (.ref f27))) (l27 : K.lookup f27 = some ⟨oc27, od27, .func (PySem.W.fnOf "_law_texts" "_law_texts" (defArgs s__law_texts) (defBody s__law_texts) (defScope s__law_texts) .none kV27 dc27 pm27 an27 cd27 ct27), sl27⟩) (c27 : PySem.W.codeIn K cd27 "_law_texts" = true) (k27 : PySem.W.keepIn K (.ref f27) = true)
    {f28 : Addr} {od28 an28 : Option Addr} {sl28 : Array (Option Value)} {oc28 kV28 dc28 pm28 cd28 ct28 : Value}
    (a28 : PySem.W.nsIn K mainGlobals "_law_ends" = some (some (.ref f28))) (l28 : K.lookup f28 = some ⟨oc28, od28, .func (PySem.W.fnOf "_law_ends" "_law_ends" (defArgs s__law_ends) (defBody s__law_ends) (defScope s__law_ends) .none kV28 dc28 pm28 an28 cd28 ct28), sl28⟩) (c28 : PySem.W.codeIn K cd28 "_law_ends" = true) (k28 : PySem.W.keepIn K (.ref f28) = true)
    {f29 : Addr} {od29 an29 : Option Addr} {sl29 : Array (Option Value)} {oc29 kV29 dc29 pm29 cd29 ct29 : Value}
    (a29 : PySem.W.nsIn K mainGlobals "_law_cuts" = some (some (.ref f29))) (l29 : K.lookup f29 = some ⟨oc29, od29, .func (PySem.W.fnOf "_law_cuts" "_law_cuts" (defArgs s__law_cuts) (defBody s__law_cuts) (defScope s__law_cuts) .none kV29 dc29 pm29 an29 cd29 ct29), sl29⟩) (c29 : PySem.W.codeIn K cd29 "_law_cuts" = true) (k29 : PySem.W.keepIn K (.ref f29) = true)
    {f18 : Addr} {od18 an18 : Option Addr} {sl18 : Array (Option Value)} {oc18 kV18 dc18 pm18 cd18 ct18 : Value}
    (a18 : PySem.W.nsIn K mainGlobals "is_whole" = some (some (.ref f18))) (l18 : K.lookup f18 = some ⟨oc18, od18, .func (PySem.W.fnOf "is_whole" "is_whole" (defArgs s_is_whole) (defBody s_is_whole) (defScope s_is_whole) .none kV18 dc18 pm18 an18 cd18 ct18), sl18⟩) (c18 : PySem.W.codeIn K cd18 "is_whole" = true) (k18 : PySem.W.keepIn K (.ref f18) = true)
    {f30 : Addr} {od30 an30 : Option Addr} {sl30 : Array (Option Value)} {oc30 kV30 dc30 pm30 cd30 ct30 : Value}
    (a30 : PySem.W.nsIn K mainGlobals "_law_cut_right" = some (some (.ref f30))) (l30 : K.lookup f30 = some ⟨oc30, od30, .func (PySem.W.fnOf "_law_cut_right" "_law_cut_right" (defArgs s__law_cut_right) (defBody s__law_cut_right) (defScope s__law_cut_right) .none kV30 dc30 pm30 an30 cd30 ct30), sl30⟩) (c30 : PySem.W.codeIn K cd30 "_law_cut_right" = true) (k30 : PySem.W.keepIn K (.ref f30) = true)
    {f32 : Addr} {od32 an32 : Option Addr} {sl32 : Array (Option Value)} {oc32 kV32 dc32 pm32 cd32 ct32 : Value}
    (a32 : PySem.W.nsIn K mainGlobals "law" = some (some (.ref f32))) (l32 : K.lookup f32 = some ⟨oc32, od32, .func (PySem.W.fnOf "law" "law" (defArgs s_law) (defBody s_law) (defScope s_law) .none kV32 dc32 pm32 an32 cd32 ct32), sl32⟩) (c32 : PySem.W.codeIn K cd32 "law" = true) (k32 : PySem.W.keepIn K (.ref f32) = true)
    (z_int : PySem.W.nsIn K mainGlobals "int" = some none)
    (z_str : PySem.W.nsIn K mainGlobals "str" = some none)
    (z_len : PySem.W.nsIn K mainGlobals "len" = some none)
    (z_isinstance : PySem.W.nsIn K mainGlobals "isinstance" = some none)
    (z_tuple : PySem.W.nsIn K mainGlobals "tuple" = some none)
    (z_list : PySem.W.nsIn K mainGlobals "list" = some none)
    (z_all : PySem.W.nsIn K mainGlobals "all" = some none)
    (z_bool : PySem.W.nsIn K mainGlobals "bool" = some none)
    (z_min : PySem.W.nsIn K mainGlobals "min" = some none)
    (z_abs : PySem.W.nsIn K mainGlobals "abs" = some none)
    (z_sum : PySem.W.nsIn K mainGlobals "sum" = some none)
    (z_range : PySem.W.nsIn K mainGlobals "range" = some none)
    (z_max : PySem.W.nsIn K mainGlobals "max" = some none)
    {t_MOST_SIGNS : Tok} (v_MOST_SIGNS : PySem.W.nsIn K mainGlobals "MOST_SIGNS" = some (some (.int (80000) t_MOST_SIGNS)))
    {t_FIGURES : Tok} (v_FIGURES : PySem.W.nsIn K mainGlobals "FIGURES" = some (some (.str "0123456789" t_FIGURES)))
    : ∃ fd : FuncData, (∀ (s : Shared) (v : Value), BindsTo s fd ⟨[v], []⟩ [("_law_script", v)]) ∧ ∀ base : Heap, K.In base → base.Ns mainGlobals mg → FnOk l.prog w K mg base CX0 6 fa fd ["_law_script"] (sp_law K) := by
  have hl : PySem.W.nsIn K mainGlobals "law" = some (some (.ref f32)) := a32
  have e := hfa.symm.trans (PySem.W.mg_of X G a32)
  cases e
  have T : Txt K mg := ⟨PySem.W.mg_none_of X G z_int, PySem.W.mg_none_of X G z_str, PySem.W.mg_none_of X G z_len, PySem.W.mg_none_of X G z_isinstance, PySem.W.mg_none_of X G z_tuple, PySem.W.mg_none_of X G z_list, PySem.W.mg_none_of X G z_all, PySem.W.mg_none_of X G z_bool, PySem.W.mg_none_of X G z_min, PySem.W.mg_none_of X G z_abs, PySem.W.mg_none_of X G z_sum, PySem.W.mg_none_of X G z_range, PySem.W.mg_none_of X G z_max, ⟨_, PySem.W.mg_of X G v_MOST_SIGNS, ⟨_, rfl⟩⟩, ⟨_, PySem.W.mg_of X G v_FIGURES, ⟨_, rfl⟩⟩⟩
  have D__law_take : Df K mg "_law_take" s__law_take ["_law_box_here", "_law_many"] := df_mk X G a23 l23 c23 k23 fun _ _ _ _ _ _ us hl => match us, hl with | [_, _], _ => rfl
  have D__law_frame : Df K mg "_law_frame" s__law_frame ["_law_row"] := df_mk X G a25 l25 c25 k25 fun _ _ _ _ _ _ us hl => match us, hl with | [_], _ => rfl
  have D_is_list : Df K mg "is_list" s_is_list ["value"] := df_mk X G a5 l5 c5 k5 fun _ _ _ _ _ _ us hl => match us, hl with | [_], _ => rfl
  have D_is_signs : Df K mg "is_signs" s_is_signs ["value"] := df_mk X G a8 l8 c8 k8 fun _ _ _ _ _ _ us hl => match us, hl with | [_], _ => rfl
  have D_has_frame : Df K mg "has_frame" s_has_frame ["value"] := df_mk X G a12 l12 c12 k12 fun _ _ _ _ _ _ us hl => match us, hl with | [_], _ => rfl
  have D_check_texts : Df K mg "check_texts" s_check_texts ["texts"] := df_mk X G a13 l13 c13 k13 fun _ _ _ _ _ _ us hl => match us, hl with | [_], _ => rfl
  have D_framed : Df K mg "framed" s_framed ["text"] := df_mk X G a14 l14 c14 k14 fun _ _ _ _ _ _ us hl => match us, hl with | [_], _ => rfl
  have D_all_framed : Df K mg "all_framed" s_all_framed ["texts"] := df_mk X G a15 l15 c15 k15 fun _ _ _ _ _ _ us hl => match us, hl with | [_], _ => rfl
  have D_frame_end : Df K mg "frame_end" s_frame_end ["text", "start"] := df_mk X G a16 l16 c16 k16 fun _ _ _ _ _ _ us hl => match us, hl with | [_, _], _ => rfl
  have D_frames_in : Df K mg "frames_in" s_frames_in ["text"] := df_mk X G a17 l17 c17 k17 fun _ _ _ _ _ _ us hl => match us, hl with | [_], _ => rfl
  have D_is_integer : Df K mg "is_integer" s_is_integer ["value"] := df_mk X G a6 l6 c6 k6 fun _ _ _ _ _ _ us hl => match us, hl with | [_], _ => rfl
  have D_is_count : Df K mg "is_count" s_is_count ["value"] := df_mk X G a7 l7 c7 k7 fun _ _ _ _ _ _ us hl => match us, hl with | [_], _ => rfl
  have D_cut_at : Df K mg "cut_at" s_cut_at ["texts", "signs"] := df_mk X G a19 l19 c19 k19 fun _ _ _ _ _ _ us hl => match us, hl with | [_, _], _ => rfl
  have D__law_many_right : Df K mg "_law_many_right" s__law_many_right ["_law_box_here"] := df_mk X G a31 l31 c31 k31 fun _ _ _ _ _ _ us hl => match us, hl with | [_], _ => rfl
  have D__law_box : Df K mg "_law_box" s__law_box ["_law_great"] := df_mk X G a22 l22 c22 k22 fun _ _ _ _ _ _ us hl => match us, hl with | [_], _ => rfl
  have D__law_cell : Df K mg "_law_cell" s__law_cell ["_law_script", "_law_k"] := df_mk X G a21 l21 c21 k21 fun _ _ _ _ _ _ us hl => match us, hl with | [_, _], _ => rfl
  have D__law_sign : Df K mg "_law_sign" s__law_sign ["_law_box_here", "_law_near"] := df_mk X G a24 l24 c24 k24 fun _ _ _ _ _ _ us hl => match us, hl with | [_, _], _ => rfl
  have D__law_text : Df K mg "_law_text" s__law_text ["_law_box_here"] := df_mk X G a26 l26 c26 k26 fun _ _ _ _ _ _ us hl => match us, hl with | [_], _ => rfl
  have D__law_texts : Df K mg "_law_texts" s__law_texts ["_law_box_here"] := df_mk X G a27 l27 c27 k27 fun _ _ _ _ _ _ us hl => match us, hl with | [_], _ => rfl
  have D__law_ends : Df K mg "_law_ends" s__law_ends ["_law_texts_here"] := df_mk X G a28 l28 c28 k28 fun _ _ _ _ _ _ us hl => match us, hl with | [_], _ => rfl
  have D__law_cuts : Df K mg "_law_cuts" s__law_cuts ["_law_box_here", "_law_ends_here"] := df_mk X G a29 l29 c29 k29 fun _ _ _ _ _ _ us hl => match us, hl with | [_, _], _ => rfl
  have D_is_whole : Df K mg "is_whole" s_is_whole ["value"] := df_mk X G a18 l18 c18 k18 fun _ _ _ _ _ _ us hl => match us, hl with | [_], _ => rfl
  have D__law_cut_right : Df K mg "_law_cut_right" s__law_cut_right ["_law_texts_here", "_law_ends_here", "_law_whole", "_law_signs"] := df_mk X G a30 l30 c30 k30 fun _ _ _ _ _ _ us hl => match us, hl with | [_, _, _, _], _ => rfl
  have D_law : Df K mg "law" s_law ["_law_script"] := df_mk X G a32 l32 c32 k32 fun _ _ _ _ _ _ us hl => match us, hl with | [_], _ => rfl
  refine ⟨PySem.W.fnOf "law" "law" (defArgs s_law) (defBody s_law) (defScope s_law) .none kV32 dc32 pm32 an32 cd32 ct32, fun s v => .of_eq rfl, fun base _ _ => ?_⟩
  have C__law_take : Ct l.prog w K mg base CX0 1 "_law_take" ["_law_box_here", "_law_many"] (sp__law_take K) := ok__law_take T D__law_take
  have C__law_frame : Ct l.prog w K mg base CX0 1 "_law_frame" ["_law_row"] (sp__law_frame K) := ok__law_frame T D__law_frame
  have C_is_list : Ct l.prog w K mg base CX0 1 "is_list" ["value"] (sp_is_list K) := ok_is_list T D_is_list
  have C_is_signs : Ct l.prog w K mg base CX0 1 "is_signs" ["value"] (sp_is_signs K) := ok_is_signs T D_is_signs
  have C_has_frame : Ct l.prog w K mg base CX0 2 "has_frame" ["value"] (sp_has_frame K) := ok_has_frame T C_is_signs D_has_frame
  have C_check_texts : Ct l.prog w K mg base CX0 3 "check_texts" ["texts"] (sp_check_texts K) := ok_check_texts C_is_list C_has_frame D_check_texts
  have C_framed : Ct l.prog w K mg base CX0 3 "framed" ["text"] (sp_framed K) := ok_framed T C_has_frame D_framed
  have C_all_framed : Ct l.prog w K mg base CX0 4 "all_framed" ["texts"] (sp_all_framed K) := ok_all_framed C_check_texts C_framed D_all_framed
  have C_frame_end : Ct l.prog w K mg base CX0 1 "frame_end" ["text", "start"] (sp_frame_end K) := ok_frame_end T D_frame_end
  have C_frames_in : Ct l.prog w K mg base CX0 2 "frames_in" ["text"] (sp_frames_in K) := ok_frames_in C_is_signs C_frame_end D_frames_in
  have C_is_integer : Ct l.prog w K mg base CX0 1 "is_integer" ["value"] (sp_is_integer K) := ok_is_integer T D_is_integer
  have C_is_count : Ct l.prog w K mg base CX0 2 "is_count" ["value"] (sp_is_count K) := ok_is_count C_is_integer D_is_count
  have C_cut_at : Ct l.prog w K mg base CX0 4 "cut_at" ["texts", "signs"] (sp_cut_at K) := ok_cut_at T C_check_texts C_is_count D_cut_at
  have C__law_many_right : Ct l.prog w K mg base CX0 5 "_law_many_right" ["_law_box_here"] (sp__law_many_right K) := ok__law_many_right T C__law_take C__law_frame C_all_framed C_frames_in C_cut_at D__law_many_right
  have C__law_box : Ct l.prog w K mg base CX0 1 "_law_box" ["_law_great"] (sp__law_box K) := ok__law_box T D__law_box
  have C__law_cell : Ct l.prog w K mg base CX0 1 "_law_cell" ["_law_script", "_law_k"] (sp__law_cell K) := ok__law_cell T D__law_cell
  have C__law_sign : Ct l.prog w K mg base CX0 2 "_law_sign" ["_law_box_here", "_law_near"] (sp__law_sign K) := ok__law_sign T C__law_take D__law_sign
  have C__law_text : Ct l.prog w K mg base CX0 3 "_law_text" ["_law_box_here"] (sp__law_text K) := ok__law_text T C__law_take C__law_sign C__law_frame D__law_text
  have C__law_texts : Ct l.prog w K mg base CX0 4 "_law_texts" ["_law_box_here"] (sp__law_texts K) := ok__law_texts T C__law_take C__law_text D__law_texts
  have C__law_ends : Ct l.prog w K mg base CX0 1 "_law_ends" ["_law_texts_here"] (sp__law_ends K) := ok__law_ends T D__law_ends
  have C__law_cuts : Ct l.prog w K mg base CX0 2 "_law_cuts" ["_law_box_here", "_law_ends_here"] (sp__law_cuts K) := ok__law_cuts T C__law_take D__law_cuts
  have C_is_whole : Ct l.prog w K mg base CX0 3 "is_whole" ["value"] (sp_is_whole K) := ok_is_whole T C_frames_in C_is_signs D_is_whole
  have K_cut_at_signs_texts : CtK l.prog w K mg base CX0 4 "cut_at" ["texts", "signs"] ["signs", "texts"] perm_1_0 (sp_cut_at K) := C_cut_at.kw D_cut_at (fun _ _ _ _ _ _ ws hl => match ws, hl with | [_, _], _ => rfl) perm_1_0_ok
  have C__law_cut_right : Ct l.prog w K mg base CX0 5 "_law_cut_right" ["_law_texts_here", "_law_ends_here", "_law_whole", "_law_signs"] (sp__law_cut_right K) := ok__law_cut_right T C_cut_at C_frames_in C_all_framed C_is_whole K_cut_at_signs_texts D__law_cut_right
  have C_law : Ct l.prog w K mg base CX0 6 "law" ["_law_script"] (sp_law K) := ok_law T C__law_many_right C__law_box C__law_cell C__law_texts C__law_ends C_all_framed C__law_frame C_cut_at C__law_cuts C__law_cut_right C__law_take C_frames_in D_law
  exact law_fn C_law hfa l32
theorem walk {l : PySem.W.OpenLaw} {q : Program} {loose : List Str} {XP : (Str → Option Value) → Heap → Prop} {YP : World → Heap → Prop} {d : DefRec} {K : Params → PySem.W.Frag} (hn : l.most = some 63) (hdf : d.params.defaults = [])
    (hY : ∀ (w : World) (h : Heap), YP w h → (K w.params).In h)
    (F : ∀ (w : World) (mg : Str → Option Value) (fa : Addr) (h : Heap), (K w.params).In h → h.Ns mainGlobals mg → mg d.name = some (.ref fa) →
      ∃ fd : FuncData, (∀ (s : Shared) (u : Value), BindsTo s fd ⟨[u], []⟩ [("_law_script", u)]) ∧ ∀ base : Heap, (K w.params).In base → base.Ns mainGlobals mg → FnOk l.prog w (K w.params) mg base CX0 6 fa fd ["_law_script"] (sp_law (K w.params))) :
    PySem.W.WalkO q loose XP YP l.row.toRowW d [] (fun f vs => PySem.call f vs) :=
  L2.walk_of (n := 63) (k := 6) (x := "_law_script") (CX := fun _ => CX0) (sp := fun w => sp_law (K w.params)) hn (by decide) hdf ⟨rfl, by decide, by decide⟩ hY F (fun _ _ a ns hl _ hS => law_asks a ns hl hS) fun _ _ _ _ _ z => z
end L11_

open PySem PySem.W PyProof.Rows in
set_option maxRecDepth 100000 in
set_option maxHeartbeats 0 in
theorem PySem.Challenge.cw_inorderonce_k11_frames_cut_anywhere_holds : PySem.Challenge.rw_inorderonce_k11_frames_cut_anywhere.Holds := by
  w_on; o_law; k_head; (case hw => w_witness2)
  k_fill
  refine L11_.walk (l := PySem.Challenge.rw_inorderonce_k11_frames_cut_anywhere) rfl rfl (fun w h Y => PySem.W.kIn_of Y) ?F
  case F =>
    intro w mg fa h KX G hmg
    refine' L11_.all_mk KX G hmg ?a23 ?l23 ?c23 ?k23 ?a25 ?l25 ?c25 ?k25 ?a5 ?l5 ?c5 ?k5 ?a8 ?l8 ?c8 ?k8 ?a12 ?l12 ?c12 ?k12 ?a13 ?l13 ?c13 ?k13 ?a14 ?l14 ?c14 ?k14 ?a15 ?l15 ?c15 ?k15 ?a16 ?l16 ?c16 ?k16 ?a17 ?l17 ?c17 ?k17 ?a6 ?l6 ?c6 ?k6 ?a7 ?l7 ?c7 ?k7 ?a19 ?l19 ?c19 ?k19 ?a31 ?l31 ?c31 ?k31 ?a22 ?l22 ?c22 ?k22 ?a21 ?l21 ?c21 ?k21 ?a24 ?l24 ?c24 ?k24 ?a26 ?l26 ?c26 ?k26 ?a27 ?l27 ?c27 ?k27 ?a28 ?l28 ?c28 ?k28 ?a29 ?l29 ?c29 ?k29 ?a18 ?l18 ?c18 ?k18 ?a30 ?l30 ?c30 ?k30 ?a32 ?l32 ?c32 ?k32 ?z_int ?z_str ?z_len ?z_isinstance ?z_tuple ?z_list ?z_all ?z_bool ?z_min ?z_abs ?z_sum ?z_range ?z_max ?v_MOST_SIGNS ?v_FIGURES
    (case a23 => k_is)
    (case l23 => k_is)
    (case c23 => k_is)
    (case k23 => k_is)
    (case a25 => k_is)
    (case l25 => k_is)
    (case c25 => k_is)
    (case k25 => k_is)
    (case a5 => k_is)
    (case l5 => k_is)
    (case c5 => k_is)
    (case k5 => k_is)
    (case a8 => k_is)
    (case l8 => k_is)
    (case c8 => k_is)
    (case k8 => k_is)
    (case a12 => k_is)
    (case l12 => k_is)
    (case c12 => k_is)
    (case k12 => k_is)
    (case a13 => k_is)
    (case l13 => k_is)
    (case c13 => k_is)
    (case k13 => k_is)
    (case a14 => k_is)
    (case l14 => k_is)
    (case c14 => k_is)
    (case k14 => k_is)
    (case a15 => k_is)
    (case l15 => k_is)
    (case c15 => k_is)
    (case k15 => k_is)
    (case a16 => k_is)
    (case l16 => k_is)
    (case c16 => k_is)
    (case k16 => k_is)
    (case a17 => k_is)
    (case l17 => k_is)
    (case c17 => k_is)
    (case k17 => k_is)
    (case a6 => k_is)
    (case l6 => k_is)
    (case c6 => k_is)
    (case k6 => k_is)
    (case a7 => k_is)
    (case l7 => k_is)
    (case c7 => k_is)
    (case k7 => k_is)
    (case a19 => k_is)
    (case l19 => k_is)
    (case c19 => k_is)
    (case k19 => k_is)
    (case a31 => k_is)
    (case l31 => k_is)
    (case c31 => k_is)
    (case k31 => k_is)
    (case a22 => k_is)
    (case l22 => k_is)
    (case c22 => k_is)
    (case k22 => k_is)
    (case a21 => k_is)
    (case l21 => k_is)
    (case c21 => k_is)
    (case k21 => k_is)
    (case a24 => k_is)
    (case l24 => k_is)
    (case c24 => k_is)
    (case k24 => k_is)
    (case a26 => k_is)
    (case l26 => k_is)
    (case c26 => k_is)
    (case k26 => k_is)
    (case a27 => k_is)
    (case l27 => k_is)
    (case c27 => k_is)
    (case k27 => k_is)
    (case a28 => k_is)
    (case l28 => k_is)
    (case c28 => k_is)
    (case k28 => k_is)
    (case a29 => k_is)
    (case l29 => k_is)
    (case c29 => k_is)
    (case k29 => k_is)
    (case a18 => k_is)
    (case l18 => k_is)
    (case c18 => k_is)
    (case k18 => k_is)
    (case a30 => k_is)
    (case l30 => k_is)
    (case c30 => k_is)
    (case k30 => k_is)
    (case a32 => k_is)
    (case l32 => k_is)
    (case c32 => k_is)
    (case k32 => k_is)
    (case z_int => k_is)
    (case z_str => k_is)
    (case z_len => k_is)
    (case z_isinstance => k_is)
    (case z_tuple => k_is)
    (case z_list => k_is)
    (case z_all => k_is)
    (case z_bool => k_is)
    (case z_min => k_is)
    (case z_abs => k_is)
    (case z_sum => k_is)
    (case z_range => k_is)
    (case z_max => k_is)
    (case v_MOST_SIGNS => k_is)
    (case v_FIGURES => k_is)

