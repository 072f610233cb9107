import PyProof.Rows.All
import Wide.All
import OpenK.AllK
import Wide.FinOn
import HandS.ForMost
import HandS.IsInst
import HandS.StrMore
import HandS.TupAny
import HandS.TupLe
import HandS.Conv
import PyProof.ReprRoads
import PyProof.RowDictHeap
import HandS.ExcInit
import HandS.TryMany
import HandS.ExcField
import HandS.ExcIs
import HandS.WordsExc
import KE.KExcIs
import HandS.Codes
import PySem.Challenge.RW_inorderonce_k10_frames_refused_and_judge
set_option Elab.async false
set_option linter.all false
set_option maxRecDepth 100000
set_option maxHeartbeats 8000000
/-! Z: own layer over the hand layer: readings that compute. -/
namespace Z
open PySem PySem.Spec PyProof.Rows L2

/-! ### heaps -/
/-- H2 is H with a new object at p -/
structure Nw (H : Hp) (p : Addr) (o : HO) (H2 : Hp) : Prop where
  fresh : H p = none
  here : H2 p = some o
  off : ∀ a, a ≠ p → H2 a = H a
/-- H2 is H with another object at l -/
structure Wr (H : Hp) (l : Addr) (o : HO) (H2 : Hp) : Prop where
  here : H2 l = some o
  off : ∀ a, a ≠ l → H2 a = H a
/-- all that was tracked is there, but for b -/
def But (b : Addr) (H H2 : Hp) : Prop := ∀ a o, a ≠ b → H a = some o → H2 a = some o
theorem nw {H : Hp} {p : Addr} {o : HO} (h : H p = none) : Nw H p o (upd H p o) := ⟨h, upd_same, fun _ e => upd_ne e⟩
theorem wr {H : Hp} {p : Addr} {o : HO} : Wr H p o (upd H p o) := ⟨upd_same, fun _ e => upd_ne e⟩
theorem Nw.keep {H H2 : Hp} {p a : Addr} {o u : HO} (n : Nw H p o H2) (h : H a = some u) : H2 a = some u := by
  rw [n.off a (ne_of_none h n.fresh)]
  exact h
theorem Nw.same {H H2 : Hp} {p : Addr} {o : HO} (n : Nw H p o H2) : Same H H2 := fun _ _ h => n.keep h
theorem Wr.keep {H H2 : Hp} {l a : Addr} {o u : HO} (n : Wr H l o H2) (e : a ≠ l) (h : H a = some u) : H2 a = some u := by
  rw [n.off a e]
  exact h
theorem Wr.but {H H2 : Hp} {l : Addr} {o : HO} (n : Wr H l o H2) : But l H H2 := fun a _ e h => n.keep e h
theorem Nw.but {H H2 : Hp} {p b : Addr} {o : HO} (n : Nw H p o H2) : But b H H2 := fun _ _ _ h => n.keep h
theorem But.refl (b : Addr) (H : Hp) : But b H H := fun _ _ _ h => h
theorem But.trans {b : Addr} {H H1 H2 : Hp} (x : But b H H1) (y : But b H1 H2) : But b H H2 := fun a o e h => y a o e (x a o e h)
theorem But.of {b : Addr} {H H1 : Hp} (x : Same H H1) : But b H H1 := fun a o _ h => x a o h
theorem But.at {b a : Addr} {o : HO} {H H1 : Hp} (x : But b H H1) (e : a ≠ b) (h : H a = some o) : H1 a = some o := x a o e h
/-- what was new to H and written later: H is kept -/
theorem _root_.L2.Same.wr {H H1 H2 : Hp} {l : Addr} {o : HO} (x : Same H H1) (f : H l = none) (w : Wr H1 l o H2) : Same H H2 := fun a u h =>
  w.keep (ne_of_none h f) (x a u h)
theorem _root_.L2.Same.but {H H1 H2 : Hp} {l : Addr} (x : Same H H1) (f : H l = none) (w : But l H1 H2) : Same H H2 := fun a u h =>
  w a u (ne_of_none h f) (x a u h)
theorem But.butNew {b l : Addr} {H H1 H2 : Hp} (x : But b H H1) (f : H l = none) (w : But l H1 H2) (hb : H b ≠ none → True) : But b H H2 := fun a u e h =>
  w a u (ne_of_none h f) (x a u e h)
theorem But.wr {b l : Addr} {o : HO} {H H1 H2 : Hp} (x : But b H H1) (f : H l = none) (w : Wr H1 l o H2) : But b H H2 := fun a u e h => w.keep (ne_of_none h f) (x a u e h)
theorem But.nw {b l : Addr} {o : HO} {H H1 H2 : Hp} (x : But b H H1) (w : Nw H1 l o H2) : But b H H2 := fun a u e h => w.keep (x a u e h)
theorem But.free {b l : Addr} {H H1 : Hp} (x : But b H H1) (e : l ≠ b) (f : H1 l = none) : H l = none := by
  cases q : H l with
  | none => rfl
  | some o =>
    rw [x l o e q] at f
    cases f
theorem sz {n : Nat} (h : n ≤ 16000000) : n ≤ sizeLine := Nat.le_trans h (by decide)
theorem szlt {n : Nat} (h : n ≤ 16000000) : n < sizeLine := Nat.lt_of_le_of_lt h (by decide)
theorem free_of {H H1 : Hp} {l : Addr} (x : Same H H1) (f : H1 l = none) : H l = none := x.free f

/-- the same of lists and tuples that are read -/
theorem sqL_same {K : PySem.W.Frag} {H H' : Hp} {a : Addr} {xs : List V} (e : Same H H') (h : SqL K H a xs) : SqL K H' a xs := e.seq h
theorem sqT_same {K : PySem.W.Frag} {H H' : Hp} {a : Addr} {xs : List V} (e : Same H H') (h : SqT K H a xs) : SqT K H' a xs := by
  rcases h with (h | ⟨o, h⟩) | h
  · exact .inl (.inl (e _ _ h))
  · exact .inl (.inr ⟨o, e _ _ h⟩)
  · exact .inr h

/-! ### names -/
def tV (i : Nat) : TE := fun σ H Q => match σ[i]? with
  | some (some v) => Q v H
  | _ => False
theorem tV_of {i : Nat} {σ : L2.St} {H : Hp} {Q : VK} (h : tV i σ H Q) : tVar i σ H Q := by
  unfold tV at h
  split at h
  · exact ⟨_, by assumption, h⟩
  · exact h.elim
section
variable {X : Cx}
theorem pz (i : Nat) {x : Str} {pos : Pos} (hN : X.N[i]? = some x := by rfl) (hv : Vis X.env.scope x := by first | exact Or.inl rfl | exact Or.inr (Or.inl rfl) | exact Or.inr (Or.inr rfl)) (hd : (x == ("__debug__" : Str)) = false := by decide)
    (hcd : (x == ("__classdict__" : Str)) = false := by decide) : PE X (.Name x pos) (tV i) :=
  ⟨fun pins s σ H Q I h => (pe_var hN hv hd hcd).run pins s σ H Q I (tV_of h)⟩
end

/-! ### operators on values, that compute -/
def zI (g : Int → Int → V) : R2 := fun x y H Q => match x, y with
  | .int i, .int j => Q (g i j) H
  | _, _ => False
def zIC (C : Int → Int → Prop) (g : Int → Int → V) : R2 := fun x y H Q => match x, y with
  | .int i, .int j => C i j ∧ Q (g i j) H
  | _, _ => False
theorem opr_w {X : Cx} {f : Value → Value → Sem Value} {r r' : R2} (h : OpR X f r') (i : ∀ x y H Q, r x y H Q → r' x y H Q) : OpR X f r :=
  fun pins s σ H x y v u Q I rx ry q => h pins s σ H x y v u Q I rx ry (i x y H Q q)
theorem zI_of {g : Int → Int → V} (x y : V) (H : Hp) (Q : VK) (h : zI g x y H Q) : rI0 g x y H Q := by
  unfold zI at h
  split at h
  · exact ⟨_, _, rfl, rfl, h⟩
  · exact h.elim
theorem zIC_of {C : Int → Int → Prop} {g : Int → Int → V} (x y : V) (H : Hp) (Q : VK) (h : zIC C g x y H Q) : rI C g x y H Q := by
  unfold zIC at h
  split at h
  · exact ⟨_, _, rfl, rfl, h.1, h.2⟩
  · exact h.elim
section
variable {X : Cx}
theorem o_sub : OpR X (binaryOp .Sub) (zI fun i j => .int (i - j)) := opr_w op_sub fun x y H Q h => zI_of x y H Q h
theorem o_mod : OpR X (binaryOp .Mod) (zIC (fun _ j => 0 < j) fun i j => .int (i % j)) := opr_w op_mod fun x y H Q h => zIC_of x y H Q h
theorem o_fdiv : OpR X (binaryOp .FloorDiv) (zIC CDiv fun i j => .int (i / j)) := opr_w op_fdiv fun x y H Q h => zIC_of x y H Q h
theorem o_pow : OpR X (binaryOp .Pow) (zIC CPow fun i j => .int (i ^ j.toNat)) := opr_w op_pow fun x y H Q h => zIC_of x y H Q h
/-- + : ints, texts, lists, tuples -/
def zAdd (K : PySem.W.Frag) : R2 := fun x y H Q => match x, y with
  | .int i, .int j => Q (.int (i + j)) H
  | .str a, .str b => a.length + b.length ≤ sizeLine ∧ Q (.str (a ++ b)) H
  | .ref l, .ref b =>
      (∃ xs zs, H l = some (.lst xs) ∧ H b = some (.lst zs) ∧ xs.length + zs.length ≤ sizeLine ∧ ∀ p H2, Nw H p (.lst (xs ++ zs)) H2 → Q (.ref p) H2) ∨
      (∃ xs zs, SqT K H l xs ∧ SqT K H b zs ∧ xs.length + zs.length ≤ sizeLine ∧ (xs = [] → Q (.ref b) H) ∧ (xs ≠ [] → zs = [] → Q (.ref l) H) ∧
        (xs ≠ [] → zs ≠ [] → ∀ p H2, Nw H p (.tup (xs ++ zs)) H2 → Q (.ref p) H2))
  | _, _ => False
theorem o_add : OpR X (binaryOp .Add) (zAdd X.K) := by
  intro pins s σ H x y v u Q I rx ry h
  unfold zAdd at h
  split at h
  · exact op_add pins s σ H _ _ v u Q I rx ry ⟨_, _, rfl, rfl, h⟩
  · exact op_add_str pins s σ H _ _ v u Q I rx ry ⟨_, _, rfl, rfl, h.1, h.2⟩
  · rcases h with ⟨xs, zs, h1, h2, h3, q⟩ | ⟨xs, zs, h1, h2, h3, q1, q2, q3⟩
    · exact op_cat pins s σ H _ _ v u Q I rx ry ⟨_, _, xs, zs, rfl, rfl, h1, h2, h3, fun p hp => q p _ (nw hp)⟩
    · exact op_catA pins s σ H _ _ v u Q I rx ry ⟨_, _, xs, zs, rfl, rfl, h1, h2, h3, q1, q2, fun a b p hp => q3 a b p _ (nw hp)⟩
  · exact h.elim
/-- a text so many times -/
def rep (x : Str) (n : Int) : Str := ⟨(List.replicate n.toNat x.cps.toList).flatten.toArray⟩
theorem rep_fold (l : List Nat) : ∀ (n : Nat) (acc : Array Nat), (List.replicate n l.toArray).foldl (· ++ ·) acc = acc ++ (List.replicate n l).flatten.toArray
  | 0, acc => by simp
  | n + 1, acc => by
    rw [List.replicate_succ, List.foldl_cons, rep_fold l n, List.replicate_succ, List.flatten_cons]
    simp [Array.append_assoc]
/-- * : ints, a text, a list -/
def zMul : R2 := fun x y H Q => match x, y with
  | .int i, .int j => CMul i j ∧ Q (.int (i * j)) H
  | .str a, .int n => -(2 ^ 62) ≤ n ∧ n < 2 ^ 62 ∧ a.length * n.toNat ≤ 1000000 ∧ Q (.str (rep a n)) H
  | .ref l, .int k => ∃ xs, H l = some (.lst xs) ∧ -(2 ^ 63) ≤ k ∧ k < 2 ^ 63 ∧ xs.length * k.toNat ≤ sizeLine ∧ ∀ p H2, Nw H p (.lst (List.replicate k.toNat xs).flatten) H2 → Q (.ref p) H2
  | _, _ => False
theorem str_size0 {a : Str} (h : a.length = 0) : a = Str.empty := by
  obtain ⟨c⟩ := a
  have h : c.size = 0 := h
  have : c = #[] := Array.eq_empty_of_size_eq_zero h
  rw [this]
  rfl
theorem o_mul : OpR X (binaryOp .Mult) zMul := by
  intro pins s σ H x y v u Q I rx ry h
  unfold zMul at h
  split at h
  · exact op_mul pins s σ H _ _ v u Q I rx ry ⟨_, _, rfl, rfl, h.1, h.2⟩
  · rename_i a n
    obtain ⟨h1, h2, h3, q⟩ := h
    obtain ⟨t, rfl⟩ := rx
    obtain ⟨t', rfl⟩ := ry
    have two : (2 : Int) ^ 62 = 4611686018427387904 := by decide
    have two3 : (2 : Int) ^ 63 = 9223372036854775808 := by decide
    refine PySem.P.mul_str ?_ (fun hn hz => ?_) (fun hn hz => ?_) ?_
    · rw [decide_eq_false (by omega), decide_eq_false (by omega)]
      rfl
    · intro hc
      have hn1 : 1 ≤ n := by omega
      have hd : ((2 : Int) ^ 63 - 1) / n * n ≤ 2 ^ 63 - 1 := Int.ediv_mul_le _ (by omega)
      have hlt : ((2 : Int) ^ 63 - 1) < (((2 : Int) ^ 63 - 1) / n + 1) * n := Int.lt_ediv_add_one_mul_self _ (by omega)
      have hle : (((2 : Int) ^ 63 - 1) / n + 1) * n ≤ (a.length : Int) * n := Int.mul_le_mul_of_nonneg_right (by omega) (by omega)
      have hcast : ((a.length * n.toNat : Nat) : Int) = (a.length : Int) * n := by
        rw [Int.natCast_mul, Int.toNat_of_nonneg (by omega)]
      omega
    · show decide (a.length * n.toNat > sizeLine) = false
      have hs : 1000000 ≤ sizeLine := by decide
      exact decide_eq_false (by omega)
    · have fit : (rep a n).length ≤ sizeLine := by
        have e : (rep a n).length = a.length * n.toNat := by
          show ((List.replicate n.toNat a.cps.toList).flatten.toArray).size = a.length * n.toNat
          rw [List.size_toArray, List.length_flatten, List.map_replicate, List.sum_replicate_nat, Array.length_toList, Nat.mul_comm]
          rfl
        have hs : 1000000 ≤ sizeLine := by decide
        omega
      have fin : ∀ (tk : Nat) (t' : Tok), EP X pins σ Q (.str (rep a n) t') { s with toks := tk } := fun tk t' => ⟨.str (rep a n), H, I.tok tk, ⟨t', rfl⟩, q⟩
      by_cases hn : n < 1
      · have e : rep a n = Str.empty := by
          have : n.toNat = 0 := by omega
          unfold rep
          rw [this]
          rfl
        rw [if_pos hn]
        rw [e] at fin
        exact ⟨by decide, fin _ _⟩
      · rw [if_neg hn]
        by_cases hz : (n == 1 || a.length == 0) = true
        · rw [if_pos hz]
          have e : rep a n = a := by
            rw [Bool.or_eq_true] at hz
            rcases hz with hz | hz
            · have : n = 1 := by simpa using hz
              subst this
              obtain ⟨c⟩ := a
              show (⟨(List.replicate (1 : Int).toNat c.toList).flatten.toArray⟩ : Str) = ⟨c⟩
              simp
            · have e0 := str_size0 (a := a) (by simpa using hz)
              subst e0
              unfold rep
              show (⟨(List.replicate n.toNat ([] : List Nat)).flatten.toArray⟩ : Str) = Str.empty
              rw [List.flatten_replicate_nil]
              rfl
          rw [e] at fin
          exact fin s.toks t
        · rw [if_neg hz]
          have e : (⟨(List.replicate n.toNat a.cps).foldl (· ++ ·) #[]⟩ : Str) = rep a n := by
            obtain ⟨c⟩ := a
            unfold rep
            have q := rep_fold c.toList n.toNat #[]
            simp only [Array.toArray_toList] at q
            rw [q]
            simp
          rw [e]
          exact ⟨fit, fin _ _⟩
  · obtain ⟨xs, h1, h2, h3, h4, q⟩ := h
    exact op_rep pins s σ H _ _ v u Q I rx ry ⟨_, _, xs, rfl, rfl, h1, h2, h3, h4, fun p hp => q p _ (nw hp)⟩
  · exact h.elim
end

/-! ### any rule, its end carried -/
def mon (t : TE) : TE := fun σ H Q => ∃ Q0 : VK, t σ H Q0 ∧ ∀ x H1, Q0 x H1 → Q x H1
def monA (t : TA) : TA := fun σ H Q => ∃ Q0 : List V → Hp → Prop, t σ H Q0 ∧ ∀ x H1, Q0 x H1 → Q x H1
def monR (r : R2) : R2 := fun x y H Q => ∃ Q0 : VK, r x y H Q0 ∧ ∀ x H1, Q0 x H1 → Q x H1
section
variable {X : Cx} {a b e o : Expr} {es rest : List Expr} {ta tb te to : TE} {t t' : TE} {pos : Pos}
theorem pe_w (h : PE X e t) (i : ∀ σ H Q, t' σ H Q → t σ H Q) : PE X e t' := ⟨fun pins s σ H Q I q => h.run pins s σ H Q I (i σ H Q q)⟩
theorem pt_w {t t' : TT} (h : PT X e t) (i : ∀ σ H Q, t' σ H Q → t σ H Q) : PT X e t' := ⟨fun pins s σ H Q I q => h.run pins s σ H Q I (i σ H Q q)⟩
theorem po_w {e : Option Expr} {t t' : TO} (h : PO X e t) (i : ∀ σ H Q, t' σ H Q → t σ H Q) : PO X e t' := ⟨fun pins s σ H Q I q => h.run pins s σ H Q I (i σ H Q q)⟩
theorem ps_w {st : Stmt} {t t' : TS} (h : PS X st t) (i : ∀ D σ H, t' D σ H → t D σ H) : PS X st t' := ⟨fun pins s σ H D I q => h.run pins s σ H D I (i D σ H q)⟩
theorem pg_w {g : Expr} {t t' : TG} (h : PG X g t) (i : ∀ v σ H Q, t' v σ H Q → t v σ H Q) : PG X g t' := ⟨fun pins s σ H v u Q I r q => h.run pins s σ H v u Q I r (i v σ H Q q)⟩
theorem pi_w {g e : Expr} {t t' : TI} (h : PI X g e t) (i : ∀ σ H R, t' σ H R → t σ H R) : PI X g e t' := ⟨fun pins s σ H R I q => h.run pins s σ H R I (i σ H R q)⟩
theorem callr_w {f : Value} {r r' : List V → Hp → VK → Prop} (h : CallR X f r') (i : ∀ vs H Q, r vs H Q → r' vs H Q) : CallR X f r :=
  fun pins s σ H xs us Q I rs q => h pins s σ H xs us Q I rs (i xs H Q q)
theorem pe_mon (h : PE X e t) : PE X e (mon t) := ⟨fun pins s σ H Q I ⟨Q0, q, i⟩ => thn (h.run pins s σ H Q0 I q) fun u s' ⟨v, H', I', r, z⟩ => ⟨v, H', I', r, i v H' z⟩⟩
theorem pa_mon {t : TA} (h : PA X es t) : PA X es (monA t) := ⟨fun pos pins s σ H Q I ⟨Q0, q, i⟩ => thn (h.run pos pins s σ H Q0 I q) fun u s' ⟨v, H', I', r, z⟩ => ⟨v, H', I', r, i v H' z⟩⟩
theorem opr_mon {f : Value → Value → Sem Value} {r : R2} (h : OpR X f r) : OpR X f (monR r) := fun pins s σ H x y v u Q I rx ry ⟨Q0, q, i⟩ =>
  thn (h pins s σ H x y v u Q0 I rx ry q) fun u s' ⟨v, H', I', r, z⟩ => ⟨v, H', I', r, i v H' z⟩

/-! ### tests and bools -/
/-- what follows of a bool -/
def zB (x : V) (H : Hp) (Q : Bool → Hp → Prop) : Prop := match x with
  | .bl k => Q k H
  | _ => False
theorem zB_of {x : V} {H : Hp} {Q : Bool → Hp → Prop} (h : zB x H Q) : ∃ k, x = .bl k ∧ Q k H := by
  unfold zB at h
  split at h
  · exact ⟨_, rfl, h⟩
  · exact h.elim
def tBz (t : TE) : TT := fun σ H Q => t σ H fun x H1 => zB x H1 Q
theorem pt_cmpZ {op : CmpOp} {r : R2} (ho : OpR X (compareOp op) r) (ha : PE X a ta) (hb : PE X b tb) (hm : behindInMarks op b = false) : PT X (.Compare a [op] [b] pos) (tBz (tOp r ta tb)) :=
  pt_w (pt_cmpR (opr_mon ho) (pe_mon ha) (pe_mon hb) hm) fun σ H Q h => ⟨_, h, fun x H1 h1 => ⟨_, h1, fun y H2 h2 => ⟨_, h2, fun z H3 h3 => zB_of h3⟩⟩⟩
theorem pt_chainZ {c : Expr} {tc : TE} {op op' : CmpOp} {r r' : R2} (h : PE X (.Compare a [op, op'] [b, c] pos) t) (he : ∀ whole, isTrue (.Compare a [op, op'] [b, c] pos) X.env whole = (do let v ← whole; standAt (Expr.Compare a [op, op'] [b, c] pos).pos; holding [v] (truthy v)) := by intro _; rfl) :
    PT X (.Compare a [op, op'] [b, c] pos) (tBz t) := pt_w (pt_val (pe_mon h) he) fun σ H Q h => ⟨_, h, fun x H1 h1 => zB_of h1⟩
/-- a < b < c as a value -/
def tChZ (r r' : R2) (ta tb tc : TE) : TE := fun σ H Q => ta σ H fun x H1 => tb σ H1 fun y H2 => r x y H2 fun z H3 => zB z H3 fun k H3 => if k = true then tc σ H3 fun w' H4 => r' y w' H4 Q else Q (.bl false) H3
theorem pe_chZ {c : Expr} {tc : TE} {op op' : CmpOp} {r r' : R2} (h : PE X (.Compare a [op, op'] [b, c] pos) (tChain (monR r) r' (mon ta) (mon tb) tc)) : PE X (.Compare a [op, op'] [b, c] pos) (tChZ r r' ta tb tc) :=
  pe_w h fun σ H Q h => ⟨_, h, fun x H1 h1 => ⟨_, h1, fun y H2 h2 => ⟨_, h2, fun z H3 h3 => zB_of h3⟩⟩⟩
/-- an expression's truth -/
def zTr (K : PySem.W.Frag) (x : V) (H : Hp) (Q : Bool → Hp → Prop) : Prop := match x with
  | .bl k => Q k H
  | .non => Q false H
  | .int i => Q (i != 0) H
  | .str y => y.length ≤ sizeLine ∧ Q ((y.length : Int) != 0) H
  | .ref p => (∃ xs, SqL K H p xs ∧ Q (!xs.isEmpty) H) ∨ (∃ xs, SqT K H p xs ∧ Q (!xs.isEmpty) H) ∨ ∃ kvs, H p = some (.dK kvs) ∧ Q (!kvs.isEmpty) H
  | _ => False
theorem zTr_of {K : PySem.W.Frag} {x : V} {H : Hp} {Q : Bool → Hp → Prop} (h : zTr K x H Q) : ∃ k, TruV K x H k ∧ Q k H := by
  unfold zTr at h
  split at h
  · exact ⟨_, rfl, h⟩
  · exact ⟨_, rfl, h⟩
  · exact ⟨_, rfl, h⟩
  · exact ⟨_, ⟨h.1, rfl⟩, h.2⟩
  · rcases h with ⟨xs, h, q⟩ | ⟨xs, h, q⟩ | ⟨kvs, h, q⟩
    · exact ⟨_, .inl ⟨xs, h, rfl⟩, q⟩
    · exact ⟨_, .inr (.inl ⟨xs, h, rfl⟩), q⟩
    · exact ⟨_, .inr (.inr ⟨kvs, h, rfl⟩), q⟩
  · exact h.elim
def tTr (K : PySem.W.Frag) (t : TE) : TT := fun σ H Q => t σ H fun x H1 => zTr K x H1 Q
theorem pt_tr (h : PE X a ta) (he : ∀ whole, isTrue a X.env whole = (do let v ← whole; standAt a.pos; holding [v] (truthy v)) := by intro _; rfl) : PT X a (tTr X.K ta) :=
  pt_w (pt_truth (pe_mon h) he) fun σ H Q h => ⟨_, h, fun x H1 h1 => zTr_of h1⟩
/-- and, or, not as values of bools -/
def tAndZ (ta tb : TE) : TE := fun σ H Q => ta σ H fun x H1 => zB x H1 fun c H1 => if c = true then tb σ H1 Q else Q (.bl false) H1
def tOrZ (ta tb : TE) : TE := fun σ H Q => ta σ H fun x H1 => zB x H1 fun c H1 => if c = true then Q (.bl true) H1 else tb σ H1 Q
def tNotZ (ta : TE) : TE := fun σ H Q => ta σ H fun x H1 => zB x H1 fun c H1 => Q (.bl (!c)) H1
theorem pe_andZ (ha : PE X a ta) (hb : PE X (.BoolOp .And (b :: rest) pos) tb) : PE X (.BoolOp .And (a :: b :: rest) pos) (tAndZ ta tb) :=
  pe_w (pe_and (pe_mon ha) hb) fun σ H Q h => ⟨_, h, fun x H1 h1 => zB_of h1⟩
theorem pe_orZ (ha : PE X a ta) (hb : PE X (.BoolOp .Or (b :: rest) pos) tb) : PE X (.BoolOp .Or (a :: b :: rest) pos) (tOrZ ta tb) :=
  pe_w (pe_or (pe_mon ha) hb) fun σ H Q h => ⟨_, h, fun x H1 h1 => zB_of h1⟩
theorem pe_notZ (ha : PE X a ta) : PE X (.UnaryOp .Not a pos) (tNotZ ta) := pe_w (pe_not (pe_mon ha)) fun σ H Q h => ⟨_, h, fun x H1 h1 => zB_of h1⟩

/-! ### comparisons -/
theorem o_lt : OpR X (compareOp .Lt) (zI fun i j => .bl (decide (i < j))) := opr_w op_lt fun x y H Q h => zI_of x y H Q h
theorem o_le : OpR X (compareOp .LtE) (zI fun i j => .bl (decide (i ≤ j))) := opr_w op_le fun x y H Q h => zI_of x y H Q h
theorem o_gt : OpR X (compareOp .Gt) (zI fun i j => .bl (decide (j < i))) := opr_w op_gt fun x y H Q h => zI_of x y H Q h
theorem o_ge : OpR X (compareOp .GtE) (zI fun i j => .bl (decide (j ≤ i))) := opr_w op_ge fun x y H Q h => zI_of x y H Q h
/-- < of two signs or ints -/
def zLt : R2 := fun x y H Q => match x, y with
  | .int i, .int j => Q (.bl (decide (i < j))) H
  | .str a, .str b => Q (.bl (decide (a.cps.toList < b.cps.toList))) H
  | _, _ => False
def zGt : R2 := fun x y H Q => match x, y with
  | .int i, .int j => Q (.bl (decide (j < i))) H
  | .str a, .str b => Q (.bl (decide (b.cps.toList < a.cps.toList))) H
  | _, _ => False
theorem o_ltS : OpR X (compareOp .Lt) zLt := by
  intro pins s σ H x y v u Q I rx ry h
  unfold zLt at h
  split at h
  · exact op_lt pins s σ H _ _ v u Q I rx ry ⟨_, _, rfl, rfl, h⟩
  · exact op_lt_str pins s σ H _ _ v u Q I rx ry ⟨_, _, rfl, rfl, h⟩
  · exact h.elim
theorem o_gtS : OpR X (compareOp .Gt) zGt := by
  intro pins s σ H x y v u Q I rx ry h
  unfold zGt at h
  split at h
  · exact op_gt pins s σ H _ _ v u Q I rx ry ⟨_, _, rfl, rfl, h⟩
  · exact op_gt_str pins s σ H _ _ v u Q I rx ry ⟨_, _, rfl, rfl, h⟩
  · exact h.elim
/-- == of plain things, of data -/
def zEq (K : PySem.W.Frag) (neg : Bool) : R2 := fun x y H Q => match scal x y with
  | true => Q (.bl (neg ^^ decide (x = y))) H
  | false => ∃ d e, Dp K H x d ∧ Dp K H y e ∧ SeqAt.shaped d = true ∧ SeqAt.shaped e = true ∧ Q (.bl (neg ^^ PyData.eqv d e)) H
theorem o_eq (hu : X.A.units + 64 < cLine) : OpR X (compareOp .Eq) (zEq X.K false) := by
  intro pins s σ H x y v u Q I rx ry h
  unfold zEq at h
  split at h
  · rename_i e
    exact op_eq pins s σ H x y v u Q I rx ry ⟨e, by simpa using h⟩
  · exact op_eqD hu pins s σ H x y v u Q I rx ry (by simpa [rEqD] using h)
theorem o_ne (hu : X.A.units + 64 < cLine) : OpR X (compareOp .NotEq) (zEq X.K true) := by
  intro pins s σ H x y v u Q I rx ry h
  unfold zEq at h
  split at h
  · rename_i e
    exact op_ne pins s σ H x y v u Q I rx ry ⟨e, by simpa using h⟩
  · exact op_neD hu pins s σ H x y v u Q I rx ry (by simpa [rNeD] using h)
/-- is None, is True, is False -/
def zIs (neg : Bool) : R2 := fun x y H Q => match y, x with
  | .non, x => Q (.bl (neg ^^ decide (x = .non))) H
  | .bl b, .bl a => Q (.bl (neg ^^ decide (a = b))) H
  | _, _ => False
theorem o_is : OpR X (compareOp .Is) (zIs false) := by
  intro pins s σ H x y v u Q I rx ry h
  unfold zIs at h
  split at h
  · exact op_isN pins s σ H _ _ v u Q I rx ry ⟨rfl, by simpa using h⟩
  · exact op_is_bl pins s σ H _ _ v u Q I rx ry ⟨_, _, rfl, rfl, by simpa using h⟩
  · exact h.elim
theorem o_isn : OpR X (compareOp .IsNot) (zIs true) := by
  intro pins s σ H x y v u Q I rx ry h
  unfold zIs at h
  split at h
  · exact op_notN pins s σ H _ _ v u Q I rx ry ⟨rfl, by simpa using h⟩
  · exact op_isnot_bl pins s σ H _ _ v u Q I rx ry ⟨_, _, rfl, rfl, by simpa using h⟩
  · exact h.elim
/-- in, not in: a sign in a text, a flat thing in a list or tuple -/
def zIn (K : PySem.W.Frag) (neg : Bool) : R2 := fun x y H Q => match y with
  | .str z => ∃ c : Nat, x = .str ⟨#[c]⟩ ∧ Q (.bl (neg ^^ decide (c ∈ z.cps.toList))) H
  | .ref p => ∃ xs, (SqL K H p xs ∨ SqT K H p xs) ∧ flatV x = true ∧ xs.all flatV = true ∧ Q (.bl (neg ^^ inV x xs)) H
  | _ => False
theorem o_in : OpR X (compareOp .In) (zIn X.K false) := by
  intro pins s σ H x y v u Q I rx ry h
  unfold zIn at h
  split at h
  · obtain ⟨c, rfl, q⟩ := h
    exact op_in_sign pins s σ H _ _ v u Q I rx ry ⟨c, _, rfl, rfl, by simpa using q⟩
  · obtain ⟨xs, h1, h2, h3, q⟩ := h
    exact op_in_seq pins s σ H _ _ v u Q I rx ry ⟨_, xs, rfl, h1, h2, h3, by simpa using q⟩
  · exact h.elim
theorem o_nin : OpR X (compareOp .NotIn) (zIn X.K true) := by
  intro pins s σ H x y v u Q I rx ry h
  unfold zIn at h
  split at h
  · obtain ⟨c, rfl, q⟩ := h
    exact op_notIn_sign pins s σ H _ _ v u Q I rx ry ⟨c, _, rfl, rfl, by simpa using q⟩
  · obtain ⟨xs, h1, h2, h3, q⟩ := h
    exact op_notIn_seq pins s σ H _ _ v u Q I rx ry ⟨_, xs, rfl, h1, h2, h3, by simpa using q⟩
  · exact h.elim

/-! ### items and slices -/
def zIx (K : PySem.W.Frag) : R2 := fun x y H Q => match x, y with
  | .str z, .int i => ∃ c, z.length ≤ sizeLine ∧ atI z.cps.toList i = some c ∧ Q (.str ⟨#[c]⟩) H
  | .ref p, .int i => ∃ xs v, (SqL K H p xs ∨ SqT K H p xs) ∧ atI xs i = some v ∧ Q v H
  | _, _ => False
theorem o_ix : IxR X (zIx X.K) := by
  intro value slice pins s σ H x y v u Q I rx ry h hs
  unfold zIx at h
  split at h
  · obtain ⟨c, h1, h2, q⟩ := h
    exact ix_str value slice pins s σ H _ _ v u Q I rx ry ⟨_, _, c, rfl, rfl, h1, h2, q⟩ hs
  · obtain ⟨xs, z, h1 | h1, h2, q⟩ := h
    · exact ix_list value slice pins s σ H _ _ v u Q I rx ry ⟨_, _, _, z, rfl, rfl, h1, h2, q⟩ hs
    · exact ix_tup value slice pins s σ H _ _ v u Q I rx ry ⟨_, _, _, z, rfl, rfl, h1, h2, q⟩ hs
  · exact h.elim
def zSl (K : PySem.W.Frag) : V → Option Int → Option Int → Hp → VK → Prop := fun x lo hi H Q => match x with
  | .str z => z.length ≤ sizeLine ∧ Q (.str (cutS z lo hi)) H
  | .ref a => (∃ xs, SqL K H a xs ∧ ∀ p H2, Nw H p (.lst (cutV xs lo hi)) H2 → Q (.ref p) H2) ∨
      (∃ xs, SqT K H a xs ∧ (HT.sIx xs.length 0 lo = 0 ∧ HT.sIx xs.length xs.length hi = xs.length → Q (.ref a) H) ∧
        (¬ (HT.sIx xs.length 0 lo = 0 ∧ HT.sIx xs.length xs.length hi = xs.length) → ∀ p H2, Nw H p (.tup (cutV xs lo hi)) H2 → Q (.ref p) H2))
  | _ => False
theorem o_sl : SlR X (zSl X.K) := by
  intro pins s σ H x v vl vu lo hi sl Q I rx hs pl pu h
  unfold zSl at h
  split at h
  · exact sl_str pins s σ H _ v vl vu lo hi sl Q I rx hs pl pu ⟨_, rfl, h.1, h.2⟩
  · rcases h with ⟨xs, h1, q⟩ | ⟨xs, h1, q1, q2⟩
    · exact sl_list pins s σ H _ v vl vu lo hi sl Q I rx hs pl pu ⟨_, xs, rfl, h1, fun p hp => q p _ (nw hp)⟩
    · exact sl_tupA pins s σ H _ v vl vu lo hi sl Q I rx hs pl pu ⟨_, xs, rfl, h1, q1, fun z p hp => q2 z p _ (nw hp)⟩
  · exact h.elim
def tPz (t : TE) : TO := fun σ H Q => t σ H fun x H1 => match x with
  | .int i => Q (some i) H1
  | _ => False
theorem po_z (h : PE X e te) : PO X (some e) (tPz te) := po_w (po_some (pe_mon h)) fun σ H Q h => ⟨_, h, fun x H1 h1 => by
  split at h1
  · exact ⟨_, rfl, h1⟩
  · exact h1.elim⟩

/-! ### displays -/
def tLz (t : TA) : TE := fun σ H Q => t σ H fun xs H1 => xs.length ≤ sizeLine ∧ ∀ p H2, Nw H1 p (.lst xs) H2 → Q (.ref p) H2
def tTz (t : TA) : TE := fun σ H Q => t σ H fun xs H1 => xs.length ≤ sizeLine ∧ ∀ p H2, Nw H1 p (.tup xs) H2 → Q (.ref p) H2
theorem pe_lz {t : TA} (h : PA X es t) : PE X (.List es pos) (tLz t) := pe_w (pe_lst (pa_mon h)) fun σ H Q h => ⟨_, h, fun xs H1 h1 => ⟨h1.1, fun p hp => h1.2 p _ (nw hp)⟩⟩
theorem pe_tz {t : TA} {x1} (h : PA X es t) : PE X (.Tuple es x1 pos) (tTz t) := pe_w (pe_tup (pa_mon h)) fun σ H Q h => ⟨_, h, fun xs H1 h1 => ⟨h1.1, fun p hp => h1.2 p _ (nw hp)⟩⟩

/-! ### calls of built-ins -/
def zLen (K : PySem.W.Frag) : List V → Hp → VK → Prop := fun vs H Q => match vs with
  | [.str z] => z.length ≤ sizeLine ∧ Q (.int z.length) H
  | [.ref p] => (∃ xs, (SqL K H p xs ∨ SqT K H p xs) ∧ Q (.int xs.length) H) ∨ ∃ kvs, H p = some (.dK kvs) ∧ Q (.int kvs.length) H
  | _ => False
theorem c_len : CallR X (.builtin "len") (zLen X.K) := by
  intro pins s σ H xs us Q I r h
  unfold zLen at h
  split at h
  · exact call_len_str pins s σ H _ us Q I r ⟨_, rfl, h.1, h.2⟩
  · rcases h with ⟨xs, h, q⟩ | ⟨kvs, h, q⟩
    · exact call_len_seq pins s σ H _ us Q I r ⟨_, xs, rfl, h, q⟩
    · exact call_lenD pins s σ H _ us Q I r ⟨_, kvs, rfl, h, q⟩
  · exact h.elim
def zInt : List V → Hp → VK → Prop := fun vs H Q => match vs with
  | [.int i] => Q (.int i) H
  | [.bl k] => Q (.int (if k then 1 else 0)) H
  | [.str a] => ∃ n, PySem.intText? a = some n ∧ a.length ≤ 640 ∧ Q (.int n) H
  | _ => False
theorem c_int : CallR X (.type "int") zInt := by
  intro pins s σ H xs us Q I r h
  unfold zInt at h
  split at h
  · exact call_int1 pins s σ H _ us Q I r (.inl ⟨_, rfl, h⟩)
  · exact call_int1 pins s σ H _ us Q I r (.inr ⟨_, rfl, h⟩)
  · obtain ⟨n, h1, h2, q⟩ := h
    exact call_int_str pins s σ H _ us Q I r ⟨_, n, rfl, h1, h2, q⟩
  · exact h.elim
def zStr : List V → Hp → VK → Prop := fun vs H Q => match vs with
  | [.int i] => i.natAbs.log2 < 1920 ∧ Q (.str (toString i)) H
  | _ => False
theorem c_str : CallR X (.type "str") zStr := callr_w call_str_int fun vs H Q h => by
  unfold zStr at h
  split at h
  · exact ⟨_, rfl, h.1, h.2⟩
  · exact h.elim
def zAbs : List V → Hp → VK → Prop := fun vs H Q => match vs with
  | [.int i] => Q (.int (if i < 0 then -i else i)) H
  | _ => False
theorem c_abs : CallR X (.builtin "abs") zAbs := callr_w call_abs fun vs H Q h => by
  unfold zAbs at h
  split at h
  · exact ⟨_, rfl, h⟩
  · exact h.elim
def zMax : List V → Hp → VK → Prop := fun vs H Q => match vs with
  | [.int i, .int j] => Q (.int (if j > i then j else i)) H
  | _ => False
theorem c_max (hc : X.calm = true) : CallR X (.builtin "max") zMax := callr_w (call_max2 hc) fun vs H Q h => by
  unfold zMax at h
  split at h
  · exact ⟨_, _, rfl, h⟩
  · exact h.elim
def zMin : List V → Hp → VK → Prop := fun vs H Q => match vs with
  | [.int i, .int j] => Q (.int (if j < i then j else i)) H
  | _ => False
theorem c_min (hc : X.calm = true) : CallR X (.builtin "min") zMin := callr_w (call_min2 hc) fun vs H Q h => by
  unfold zMin at h
  split at h
  · exact ⟨_, _, rfl, h⟩
  · exact h.elim
def zSum (K : PySem.W.Frag) : List V → Hp → VK → Prop := fun vs H Q => match vs with
  | [.ref p] => ∃ ns : List Int, SqL K H p (ns.map V.int) ∧ Q (.int ns.sum) H
  | _ => False
theorem c_sum (hc : X.calm = true) : CallR X (.builtin "sum") (zSum X.K) := callr_w (cr_sum hc) fun vs H Q h => by
  unfold zSum at h
  split at h
  · obtain ⟨ns, h, q⟩ := h
    exact ⟨_, ns, rfl, h, q⟩
  · exact h.elim
def zAll (K : PySem.W.Frag) : List V → Hp → VK → Prop := fun vs H Q => match vs with
  | [.ref p] => ∃ bs : List Bool, SqL K H p (bs.map V.bl) ∧ Q (.bl (bs.all id)) H
  | _ => False
theorem c_all (hc : X.calm = true) : CallR X (.builtin "all") (zAll X.K) := callr_w (cr_all hc) fun vs H Q h => by
  unfold zAll at h
  split at h
  · obtain ⟨ns, h, q⟩ := h
    exact ⟨_, ns, rfl, h, q⟩
  · exact h.elim
def zList (K : PySem.W.Frag) : List V → Hp → VK → Prop := fun vs H Q => match vs with
  | [.ref p] => ∃ ys, (SqL K H p ys ∨ SqT K H p ys) ∧ ∀ l H2, Nw H l (.lst ys) H2 → Q (.ref l) H2
  | _ => False
theorem c_list : CallR X (.type "list") (zList X.K) := callr_w call_list_of fun vs H Q h => by
  unfold zList at h
  split at h
  · obtain ⟨ys, h, q⟩ := h
    exact ⟨_, ys, rfl, h, fun l hl => q l _ (nw hl)⟩
  · exact h.elim
def zTuple (K : PySem.W.Frag) : List V → Hp → VK → Prop := fun vs H Q => match vs with
  | [.ref p] => ∃ ys, (SqL K H p ys ∧ ∀ l H2, Nw H l (.tup ys) H2 → Q (.ref l) H2) ∨ (SqT K H p ys ∧ Q (.ref p) H)
  | _ => False
theorem c_tuple : CallR X (.type "tuple") (zTuple X.K) := callr_w call_tuple_of fun vs H Q h => by
  unfold zTuple at h
  split at h
  · obtain ⟨ys, ⟨h, q⟩ | ⟨h, q⟩⟩ := h
    · exact ⟨_, ys, rfl, .inl ⟨h, fun l hl => q l _ (nw hl)⟩⟩
    · exact ⟨_, ys, rfl, .inr ⟨h, q⟩⟩
  · exact h.elim

/-! ### isinstance -/
def isK (k T : String) : Bool := k == T || (k == "bool" && T == "int")
/-- a value's kind -/
def KindV (K : PySem.W.Frag) (H : Hp) (x : V) (k : String) : Prop := match x with
  | .non => k = "NoneType"
  | .bl _ => k = "bool"
  | .int _ => k = "int"
  | .str _ => k = "str"
  | .ref p => (k = "list" ∧ ∃ xs, SqL K H p xs) ∨ (k = "tuple" ∧ ∃ xs, SqT K H p xs) ∨ (k = "dict" ∧ ((∃ kvs, H p = some (.dK kvs)) ∨ ∃ kvs, H p = some (.dT kvs)))
  | _ => False
theorem KindV.tyx {K : PySem.W.Frag} {H : Hp} {x : V} {k : String} (h : KindV K H x k) : TyX K H x (.type k) ∧ k ∈ ["NoneType", "bool", "int", "str", "list", "tuple", "dict"] := by
  unfold KindV at h
  split at h
  · subst h; exact ⟨.base .non, by simp⟩
  · subst h; exact ⟨.base (.bl _), by simp⟩
  · subst h; exact ⟨.base (.int _), by simp⟩
  · subst h; exact ⟨.base (.str _), by simp⟩
  · rcases h with ⟨rfl, xs, (h | ⟨o, h⟩) | ⟨o, its, n, h1, h2, _⟩⟩ | ⟨rfl, xs, (h | ⟨o, h⟩) | ⟨o, its, n, h1, h2, _⟩⟩ | ⟨rfl, ⟨kvs, h⟩ | ⟨kvs, h⟩⟩
    · exact ⟨.base (.lst h), by simp⟩
    · exact ⟨.base (.frz h), by simp⟩
    · exact ⟨.kList h1 h2, by simp⟩
    · exact ⟨.base (.tup h), by simp⟩
    · exact ⟨.fTuple h, by simp⟩
    · exact ⟨.kTuple h1 h2, by simp⟩
    · exact ⟨.base (.dK h), by simp⟩
    · exact ⟨.base (.dT h), by simp⟩
  · exact h.elim
theorem kit_isK {K : PySem.W.Frag} {k T : String} (hk : k ∈ ["NoneType", "bool", "int", "str", "list", "tuple", "dict"]) (hT : T ∈ ["bool", "int", "str", "list", "tuple", "dict"]) : PySem.W.kitOne K (.type k) (.type T) = some (isK k T) := by
  refine kit_ty ?_
  have all : (["NoneType", "bool", "int", "str", "list", "tuple", "dict"].all fun k => ["bool", "int", "str", "list", "tuple", "dict"].all fun T => kitB k T == some (isK k T)) = true := by decide +kernel
  have h1 := (List.all_eq_true.mp all) k hk
  have h2 := (List.all_eq_true.mp h1) T hT
  exact eq_of_beq h2
def zIsi (K : PySem.W.Frag) : List V → Hp → VK → Prop := fun vs H Q => match vs with
  | [x, .ty T] => T ∈ ["bool", "int", "str", "list", "tuple", "dict"] ∧ ∃ k, KindV K H x k ∧ Q (.bl (isK k T)) H
  | [x, .ref tp] => ∃ T U k, H tp = some (.tup [.ty T, .ty U]) ∧ T ∈ ["bool", "int", "str", "list", "tuple", "dict"] ∧ U ∈ ["bool", "int", "str", "list", "tuple", "dict"] ∧ KindV K H x k ∧ Q (.bl (isK k T || isK k U)) H
  | _ => False
theorem c_isi : CallR X (.builtin "isinstance") (zIsi X.K) := by
  intro pins s σ H xs us Q I r h
  unfold zIsi at h
  split at h
  · obtain ⟨hT, k, hk, q⟩ := h
    obtain ⟨h1, h2⟩ := hk.tyx
    exact call_isi pins s σ H _ us Q I r ⟨_, _, _, _, _, rfl, .ty _, h1, kit_isK h2 hT, q⟩
  · obtain ⟨T, U, k, hp, hT, hU, hk, q⟩ := h
    obtain ⟨h1, h2⟩ := hk.tyx
    refine call_isiT pins s σ H _ us Q I r ⟨_, _, _, _, _, _, rfl, hp, .cons (.ty T) (.cons (.ty U) .nil), h1, kitAny_cons (b := isK k T) (kit_isK h2 hT) (fun e => ?_) (fun e => ?_), q⟩
    · rw [e, Bool.false_or]
      refine kitAny_cons (kit_isK h2 hU) (fun e2 => ?_) (fun e2 => e2)
      rw [e2]
      rfl
    · rw [e]
      rfl
  · exact h.elim
end

/-! ### methods of built-in types -/
section
variable {X : Cx} {a b e o : Expr} {es : List Expr} {te to : TE} {t : TA} {name : Str} {apos cpos : Pos} {T id : String}
/-- a text's method -/
def tMs (r : Str → List V → Hp → VK → Prop) (to : TE) (t : TA) : TE := fun σ H Q => to σ H fun x H1 => match x with
  | .str a => t σ H1 fun xs H2 => r a xs H2 Q
  | _ => False
def tMs0 (r : Str → Hp → VK → Prop) (to : TE) : TE := fun σ H Q => to σ H fun x H1 => match x with
  | .str a => r a H1 Q
  | _ => False
def ofS (r : Str → List V → Hp → VK → Prop) : V → List V → Hp → VK → Prop := fun x xs H Q => ∃ a, x = .str a ∧ r a xs H Q
theorem pe_ms {r : Str → List V → Hp → VK → Prop} (slot : Slot "str" name id) (hty : typeOf (.builtin id) = pure (.type "method_descriptor")) (hm : MtR X id (ofS r)) (ho : PE X o to) (ha : PA X (e :: es) t)
    (hbase : attributeBase o name X.env (eval o X.env) = eval o X.env := by rfl)
    (hfew : ((backTo cpos (starEach (e :: es) X.env)).all (fun x => !x.1) && (backToKw cpos (keywordEach [] X.env)).all (fun x => x.1.isSome)
      && decide ((e :: es).length + ([] : List Keyword).length + (if ([] : List Keyword).isEmpty then 0 else 1) < 30)) = true := by rfl)
    (hline : (apos.endLine == cpos.line) = true := by rfl) (hs : starEach (e :: es) X.env = (false, eval e X.env) :: starEach es X.env := by rfl) (hplain : (backTo cpos (starEach es X.env)).any (·.1) = false := by rfl) :
    PE X (.Call (.Attribute o name apos) (e :: es) [] cpos) (tMs r to t) :=
  pe_w (pe_bm PySem.F.plainAttrs_str slot hty hm (pe_mon ho) (pa_mon ha) hbase hfew hline hs hplain) fun σ H Q h => ⟨_, h, fun x H1 h1 => by
    split at h1
    · exact ⟨rfl, _, h1, fun xs H2 h2 => ⟨_, rfl, h2⟩⟩
    · exact h1.elim⟩
theorem pe_ms0 {r : Str → Hp → VK → Prop} (slot : Slot "str" name id) (hty : typeOf (.builtin id) = pure (.type "method_descriptor")) (hm : MtR X id (ofS fun a xs H Q => xs = [] ∧ r a H Q)) (ho : PE X o to)
    (hbase : attributeBase o name X.env (eval o X.env) = eval o X.env := by rfl) (hline : (apos.endLine == cpos.line) = true := by rfl) :
    PE X (.Call (.Attribute o name apos) [] [] cpos) (tMs0 r to) :=
  pe_w (pe_bm0 PySem.F.plainAttrs_str slot hty hm (pe_mon ho) hbase hline) fun σ H Q h => ⟨_, h, fun x H1 h1 => by
    split at h1
    · exact ⟨rfl, _, rfl, rfl, h1⟩
    · exact h1.elim⟩
theorem mt_w {id : String} {r r' : V → List V → Hp → VK → Prop} (h : MtR X id r') (i : ∀ x vs H Q, r x vs H Q → r' x vs H Q) : MtR X id r :=
  fun pins s σ H x xs v us Q I rx rs q => h pins s σ H x xs v us Q I rx rs (i x xs H Q q)
def zJoin (K : PySem.W.Frag) : Str → List V → Hp → VK → Prop := fun a xs H Q => match xs with
  | [.ref p] => ∃ ys : List Str, (SqL K H p (ys.map V.str) ∨ SqT K H p (ys.map V.str)) ∧ (ys.map (·.length)).sum + ys.length * a.length ≤ 16777216 ∧ Q (.str (Txt.join a ys)) H
  | _ => False
theorem m_join : MtR X "str.join" (ofS (zJoin X.K)) := mt_w mt_join fun x vs H Q ⟨a, e, h⟩ => by
  unfold zJoin at h
  split at h
  · obtain ⟨ys, h1, h2, q⟩ := h
    exact ⟨a, _, ys, e, rfl, h1, h2, q⟩
  · exact h.elim
def zZfill : Str → List V → Hp → VK → Prop := fun a xs H Q => match xs with
  | [.int i] => PadOk i = true ∧ Q (.str (Txt.zfill a i)) H
  | _ => False
theorem m_zfill : MtR X "str.zfill" (ofS zZfill) := mt_w mt_zfill fun x vs H Q ⟨a, e, h⟩ => by
  unfold zZfill at h
  split at h
  · exact ⟨a, _, e, rfl, h.1, h.2⟩
  · exact h.elim
def zPure (g : Str → V) : Str → Hp → VK → Prop := fun a H Q => Q (g a) H
theorem m0_of {id : String} {g : Str → V} (h : MtR X id (fun x xs H Q => ∃ a, x = .str a ∧ xs = [] ∧ True ∧ Q (g a) H)) : MtR X id (ofS fun a xs H Q => xs = [] ∧ zPure g a H Q) :=
  mt_w h fun x vs H Q ⟨a, e, h1, h2⟩ => ⟨a, e, h1, trivial, h2⟩
theorem m_isascii : MtR X "str.isascii" (ofS fun a xs H Q => xs = [] ∧ zPure (fun a => .bl (Txt.isascii a)) a H Q) := m0_of mt_isascii
theorem m_isprintable : MtR X "str.isprintable" (ofS fun a xs H Q => xs = [] ∧ zPure (fun a => .bl (Txt.isprintable a)) a H Q) := m0_of mt_isprintable
theorem m_islower : MtR X "str.islower" (ofS fun a xs H Q => xs = [] ∧ zPure (fun a => .bl (Txt.islower a)) a H Q) := m0_of mt_islower
theorem m_isalpha : MtR X "str.isalpha" (ofS fun a xs H Q => xs = [] ∧ zPure (fun a => .bl (Txt.isalpha a)) a H Q) := m0_of mt_isalpha
theorem m_isdigit : MtR X "str.isdigit" (ofS fun a xs H Q => xs = [] ∧ zPure (fun a => .bl (Txt.isdigit a)) a H Q) := m0_of mt_isdigit
/-- a list's method -/
def tMl (K : PySem.W.Frag) (r : Addr → List V → Hp → VK → Prop) (to : TE) (t : TA) : TE := fun σ H Q => to σ H fun x H1 => match x with
  | .ref l => (∃ xs, SqL K H1 l xs) ∧ t σ H1 fun xs H2 => r l xs H2 Q
  | _ => False
def ofL (r : Addr → List V → Hp → VK → Prop) : V → List V → Hp → VK → Prop := fun x xs H Q => ∃ a, x = .ref a ∧ r a xs H Q
theorem pe_ml {r : Addr → List V → Hp → VK → Prop} (slot : Slot "list" name id) (hty : typeOf (.builtin id) = pure (.type "method_descriptor")) (hm : MtR X id (ofL r)) (ho : PE X o to) (ha : PA X (e :: es) t)
    (hbase : attributeBase o name X.env (eval o X.env) = eval o X.env := by rfl)
    (hfew : ((backTo cpos (starEach (e :: es) X.env)).all (fun x => !x.1) && (backToKw cpos (keywordEach [] X.env)).all (fun x => x.1.isSome)
      && decide ((e :: es).length + ([] : List Keyword).length + (if ([] : List Keyword).isEmpty then 0 else 1) < 30)) = true := by rfl)
    (hline : (apos.endLine == cpos.line) = true := by rfl) (hs : starEach (e :: es) X.env = (false, eval e X.env) :: starEach es X.env := by rfl) (hplain : (backTo cpos (starEach es X.env)).any (·.1) = false := by rfl) :
    PE X (.Call (.Attribute o name apos) (e :: es) [] cpos) (tMl X.K r to t) :=
  pe_w (pe_bm PySem.F.plainAttrs_list slot hty hm (pe_mon ho) (pa_mon ha) hbase hfew hline hs hplain) fun σ H Q h => ⟨_, h, fun x H1 h1 => by
    split at h1
    · exact ⟨.inl ⟨rfl, h1.1⟩, _, h1.2, fun xs H2 h2 => ⟨_, rfl, h2⟩⟩
    · exact h1.elim⟩
def zApp : Addr → List V → Hp → VK → Prop := fun l ys H Q => match ys with
  | [y] => ∃ xs, H l = some (.lst xs) ∧ xs.length < sizeLine ∧ ∀ H2, Wr H l (.lst (xs ++ [y])) H2 → Q .non H2
  | _ => False
theorem m_append : MtR X "list.append" (ofL zApp) := mt_w mt_append fun x vs H Q ⟨a, e, h⟩ => by
  unfold zApp at h
  split at h
  · obtain ⟨xs, h1, h2, q⟩ := h
    exact ⟨a, xs, _, e, rfl, h1, h2, q _ wr⟩
  · exact h.elim
end

/-! ### targets and statements -/
section
variable {X : Cx} {a b e o i : Expr} {es : List Expr} {te to ti : TE} {pos : Pos}
def zSetL : V → V → V → Hp → (Hp → Prop) → Prop := fun o i v H Q => match o, i with
  | .ref p, .int k => ∃ xs j, H p = some (.lst xs) ∧ ixN xs.length k = some j ∧ ∀ H2, Wr H p (.lst (xs.set j v)) H2 → Q H2
  | _, _ => False
theorem s_list : PSet X zSetL := by
  intro pins s σ H o i v ov iv u Q I ro ri rv h
  unfold zSetL at h
  split at h
  · obtain ⟨xs, j, h1, h2, q⟩ := h
    exact set_list pins s σ H _ _ v ov iv u Q I ro ri rv ⟨_, xs, _, j, rfl, rfl, h1, h2, q _ wr⟩
  · exact h.elim
def gCz (t : TG) (u : TGs) : TGs := fun vs σ H Q => match vs with
  | v :: r => t v σ H fun σ' H' => u r σ' H' Q
  | [] => False
def gNz : TGs := fun vs σ H Q => match vs with
  | [] => Q σ H
  | _ => False
theorem pgs_w {g : List Expr} {t t' : TGs} (h : PGs X g t) (i : ∀ v σ H Q, t' v σ H Q → t v σ H Q) : PGs X g t' := ⟨fun pins s σ H v u Q I r q => h.run pins s σ H v u Q I r (i v σ H Q q)⟩
theorem pgs_nz : PGs X [] gNz := pgs_w pgs_nil fun v σ H Q h => by
  unfold gNz at h
  split at h
  · exact ⟨rfl, h⟩
  · exact h.elim
theorem pgs_cz {t : TG} {u : TGs} (ht : PG X e t) (hu : PGs X es u) (hs : (assignEach (e :: es) X.env).map (·.2) = assign e X.env :: (assignEach es X.env).map (·.2) := by rfl) : PGs X (e :: es) (gCz t u) :=
  pgs_w (pgs_cons ht hu hs) fun v σ H Q h => by
    unfold gCz at h
    split at h
    · exact ⟨_, _, rfl, h⟩
    · exact h.elim
def gTz (K : PySem.W.Frag) (n : Nat) (t : TGs) : TG := fun v σ H Q => match v with
  | .ref a => ∃ xs, SqT K H a xs ∧ xs.length = n ∧ t xs σ H Q
  | _ => False
theorem pg_tz {k : Nat} {t : TGs} {n : Nat} (hc : X.calm = true) (h : PGs X es t) (hn : (assignEach es X.env).length = n := by rfl) (hst : (assignEach es X.env).findIdx? (·.1) = none := by rfl) : PG X (.Tuple es k pos) (gTz X.K n t) :=
  pg_w (pg_tup hc h hn hst) fun v σ H Q h => by
    unfold gTz at h
    split at h
    · obtain ⟨xs, h1, h2, q⟩ := h
      exact ⟨_, xs, rfl, h1, h2, q⟩
    · exact h.elim
def tPrz (i j : Nat) (ta : TA) : TS := fun D σ H => ta σ H fun vs H1 => match vs with
  | [v, w] => D.nx ((σ.set i (some v)).set j (some w)) H1
  | _ => False
theorem ps_parZ {i j : Nat} {x y : Str} {ta : TA} {px py pt : Pos} {kt k2 pt2} (hc : X.calm = true) (hN : X.N.Nodup) (hi : X.N[i]? = some x) (hj : X.N[j]? = some y) (hij : i ≠ j)
    (hx : X.env.scope.names.lookup x = some .local) (hy : X.env.scope.names.lookup y = some .local) (ha : PA X [a, b] ta)
    (hw : swappedStores [.Tuple [.Name x px, .Name y py] kt pt] (.Tuple [a, b] k2 pt2) X.env = pure (some [x, y]))
    (hs : swapsWithSole [.Tuple [.Name x px, .Name y py] kt pt] (.Tuple [a, b] k2 pt2) pos.line X.env = pure false := by rfl) :
    PS X (.Assign [.Tuple [.Name x px, .Name y py] kt pt] (.Tuple [a, b] k2 pt2) pos) (tPrz i j ta) :=
  ps_w (ps_par hc hN hi hj hij hx hy (pa_mon ha) hw hs) fun D σ H h => ⟨_, h, fun vs H1 h1 => by
    split at h1
    · exact ⟨_, _, rfl, h1⟩
    · exact h1.elim⟩
def tRngZ (ta : TA) : TI := fun σ H R => ta σ H fun vs H1 => match vs with
  | [.int j] => -(2 ^ 62) ≤ j ∧ j < 2 ^ 62 ∧ R (Itr 0 j.toNat) H1
  | _ => False
theorem pi_rngZ {tg : Expr} {p : Pos} {ta : TA} (hg : Gl X "range") (hm : X.mg "range" = none) (ha : PA X [a] ta) (hs : starEach [a] X.env = [(false, eval a X.env)] := by rfl) : PI X tg (.Call (.Name "range" p) [a] [] pos) (tRngZ ta) :=
  pi_w (pi_range1 hg hm (pa_mon ha) hs) fun σ H R h => ⟨_, h, fun vs H1 h1 => by
    split at h1
    · exact ⟨_, rfl, h1⟩
    · exact h1.elim⟩
def tItL (K : PySem.W.Frag) (te : TE) : TI := fun σ H R => te σ H fun x H1 => match x with
  | .ref a => (∃ xs, SqL K H1 a xs) ∧ R (Itl K a) H1
  | _ => False
theorem pi_lz {tg : Expr} (h : PE X e te) : PI X tg e (tItL X.K te) := pi_w (pi_list (pe_mon h)) fun σ H R h => ⟨_, h, fun x H1 h1 => by
  split at h1
  · exact ⟨_, rfl, h1.1, h1.2⟩
  · exact h1.elim⟩
def tItT (K : PySem.W.Frag) (te : TE) : TI := fun σ H R => te σ H fun x H1 => match x with
  | .ref a => (∃ xs, SqT K H1 a xs) ∧ R (Itt K a) H1
  | _ => False
theorem pi_tz {tg : Expr} (h : PE X e te) : PI X tg e (tItT X.K te) := pi_w (pi_tup (pe_mon h)) fun σ H R h => ⟨_, h, fun x H1 h1 => by
  split at h1
  · exact ⟨_, rfl, h1.1, h1.2⟩
  · exact h1.elim⟩
def tItS (te : TE) : TI := fun σ H R => te σ H fun x H1 => match x with
  | .str a => R (Its a) H1
  | _ => False
theorem pi_sz {tg : Expr} (h : PE X e te) : PI X tg e (tItS te) := pi_w (pi_str (pe_mon h)) fun σ H R h => ⟨_, h, fun x H1 h1 => by
  split at h1
  · exact ⟨_, rfl, h1⟩
  · exact h1.elim⟩
end

/-! ### defs -/
/-- a def that stands under its name: its contract -/
structure Ct (P : Program) (w : World) (K : PySem.W.Frag) (mg : Str → Option Value) (base : Heap) (CX : CXT) (k : Nat) (x : Str) (ps : List Str) (sp : Sp) : Prop where
  ex : ∃ f fd, mg x = some (.ref f) ∧ PySem.W.keepIn K (.ref f) = true ∧ Binds K fd ps [] ∧ FnOk P w K mg base CX k f fd ps sp ∧ ∃ oc od osl, K.lookup f = some ⟨oc, od, .func fd, osl⟩
/-- a def of the top as it stands -/
structure Df (K : PySem.W.Frag) (mg : Str → Option Value) (x : Str) (st : Stmt) (ps : List Str) : Prop where
  ex : ∃ f fd, Fun K x x st f fd ∧ mg x = some (.ref f) ∧ Binds K fd ps []
def tCl (sp : Sp) (E : XK) (t : TA) : TE := fun σ H Q => t σ H fun vs H1 => sp vs H1 Q E
section
variable {X : Cx} {CX : CXT} {k : Nat} {x : Str} {ps : List Str} {sp : Sp} {E : XK} {p pos : Pos} {e : Expr} {es : List Expr} {t : TA}
theorem pe_cl (C : Ct X.prog X.w X.K X.mg X.base CX k x ps sp) (hr : Room k X.A) (hx : Passes CX X E) (ha : PA X (e :: es) t) (hg : Gl X x := by rfl)
    (hdb : (x == ("__debug__" : Str)) = false := by decide)
    (he : starEach (e :: es) X.env = (false, eval e X.env) :: starEach es X.env := by rfl) (hpl : (backTo pos (starEach es X.env)).any (·.1) = false := by rfl) : PE X (.Call (.Name x p) (e :: es) [] pos) (tCl sp E t) := by
  obtain ⟨f, fd, hm, hk, hb, F, _⟩ := C.ex
  refine pe_w (pe_call F hr hg hm hk hb .nil hx ha hdb he hpl) fun σ H Q h => ?_
  show t σ H fun vs H1 => sp (vs ++ []) H1 Q E
  have e : (fun (vs : List V) (H1 : Hp) => sp (vs ++ []) H1 Q E) = fun vs H1 => sp vs H1 Q E := by
    funext vs H1
    rw [List.append_nil]
  rw [e]
  exact h
theorem pe_cl0 (C : Ct X.prog X.w X.K X.mg X.base CX k x ps sp) (hr : Room k X.A) (hx : Passes CX X E) (hg : Gl X x := by rfl) (hdb : (x == ("__debug__" : Str)) = false := by decide) : PE X (.Call (.Name x p) [] [] pos) (tCl sp E tNil) := by
  obtain ⟨f, fd, hm, hk, hb, F, _⟩ := C.ex
  exact pe_call0 F hr hg hm hk hb .nil hx hdb
end
/-- promises by the parameters -/
def sp1 (p : V → Hp → VK → XK → Prop) : Sp := fun vs H Q E => match vs with
  | [a] => p a H Q E
  | _ => False
def sp2 (p : V → V → Hp → VK → XK → Prop) : Sp := fun vs H Q E => match vs with
  | [a, b] => p a b H Q E
  | _ => False
def sp3 (p : V → V → V → Hp → VK → XK → Prop) : Sp := fun vs H Q E => match vs with
  | [a, b, c] => p a b c H Q E
  | _ => False
def sp4 (p : V → V → V → V → Hp → VK → XK → Prop) : Sp := fun vs H Q E => match vs with
  | [a, b, c, d] => p a b c d H Q E
  | _ => False
theorem sp1_of {p : V → Hp → VK → XK → Prop} {vs : List V} {H : Hp} {Q : VK} {E : XK} (h : sp1 p vs H Q E) : ∃ a, vs = [a] ∧ p a H Q E := by
  unfold sp1 at h
  split at h
  · exact ⟨_, rfl, h⟩
  · exact h.elim
theorem sp2_of {p : V → V → Hp → VK → XK → Prop} {vs : List V} {H : Hp} {Q : VK} {E : XK} (h : sp2 p vs H Q E) : ∃ a b, vs = [a, b] ∧ p a b H Q E := by
  unfold sp2 at h
  split at h
  · exact ⟨_, _, rfl, h⟩
  · exact h.elim
theorem sp3_of {p : V → V → V → Hp → VK → XK → Prop} {vs : List V} {H : Hp} {Q : VK} {E : XK} (h : sp3 p vs H Q E) : ∃ a b c, vs = [a, b, c] ∧ p a b c H Q E := by
  unfold sp3 at h
  split at h
  · exact ⟨_, _, _, rfl, h⟩
  · exact h.elim
theorem sp4_of {p : V → V → V → V → Hp → VK → XK → Prop} {vs : List V} {H : Hp} {Q : VK} {E : XK} (h : sp4 p vs H Q E) : ∃ a b c d, vs = [a, b, c, d] ∧ p a b c d H Q E := by
  unfold sp4 at h
  split at h
  · exact ⟨_, _, _, _, rfl, h⟩
  · exact h.elim
section
variable {P : Program} {w : World} {K : PySem.W.Frag} {mg : Str → Option Value} {base : Heap}
theorem fun_at {x q : Str} {st : Stmt} {f : Addr} {fd : FuncData} (F : Fun K x q st f fd) : ∃ oc od osl, K.lookup f = some ⟨oc, od, .func fd, osl⟩ := by
  obtain ⟨oc, od, _, _, _, _, _, _, osl, _, h, _⟩ := F.ex
  exact ⟨oc, od, osl, h⟩
/-- the same def called by names alone, the names in the order ks: g puts the values in the parameters' order -/
structure CtK (P : Program) (w : World) (K : PySem.W.Frag) (mg : Str → Option Value) (base : Heap) (CX : CXT) (k : Nat) (x : Str) (ps ks : List Str) (g : {α : Type} → List α → List α) (sp : Sp) : Prop where
  ex : ∃ f fd, mg x = some (.ref f) ∧ PySem.W.keepIn K (.ref f) = true ∧ (∀ (s : Shared) (ws : List Value), (g ws).length = ps.length → BindsTo s fd ⟨[], ks.zip ws⟩ (ps.zip (g ws))) ∧
    (∀ {zs : List V} {ws : List Value}, Vals zs ws → Vals (g zs) (g ws)) ∧ FnOk P w K mg base CX k f fd ps sp
theorem Ct.kw {CX : CXT} {k : Nat} {x : Str} {st : Stmt} {ps ks : List Str} {g : {α : Type} → List α → List α} {sp : Sp} (C : Ct P w K mg base CX k x ps sp) (D : Df K mg x st ps)
    (h : ∀ (kV doc pm : Value) (an : Option Addr) (cdv ct : Value) (ws : List Value), (g ws).length = ps.length → bindArgs (PySem.W.fnOf x x (defArgs st) (defBody st) (defScope st) .none kV doc pm an cdv ct) ⟨[], ks.zip ws⟩ = pure (ps.zip (g ws)))
    (hg : ∀ {zs : List V} {ws : List Value}, Vals zs ws → Vals (g zs) (g ws)) : CtK P w K mg base CX k x ps ks g sp := by
  obtain ⟨f, fd, hm, hk, hb, F, oc, od, osl, hl⟩ := C.ex
  obtain ⟨f', fd', F', hm', _⟩ := D.ex
  have e : f = f' := by
    rw [hm] at hm'
    cases hm'
    rfl
  subst e
  obtain ⟨oc', od', kV, doc, pm, an, cdv, ct, osl', rfl, hl', _⟩ := F'.ex
  have e2 : fd = PySem.W.fnOf x x (defArgs st) (defBody st) (defScope st) .none kV doc pm an cdv ct := by
    rw [hl] at hl'
    cases hl'
    rfl
  subst e2
  exact ⟨f, _, hm, hk, fun s ws hlen => .of_eq (h kV doc pm an cdv ct ws hlen), hg, F⟩
/-- f(k = v, ..) -/
def tClK (g : {α : Type} → List α → List α) (sp : Sp) (E : XK) (t : TA) : TE := fun σ H Q => t σ H fun zs H1 => sp (g zs) H1 Q E
theorem pe_clK {X : Cx} {CX : CXT} {k : Nat} {x : Str} {ps ks : List Str} {g : {α : Type} → List α → List α} {sp : Sp} {E : XK} {p pos : Pos} {kws : List Keyword} {t : TA} (C : CtK X.prog X.w X.K X.mg X.base CX k x ps ks g sp) (hr : Room k X.A) (hx : Passes CX X E)
    (hkw : PK X kws t) (hg : Gl X x := by rfl) (hall : (backToKw pos (keywordEach kws X.env)).all (·.1.isSome) = true := by rfl) (hks : (backToKw pos (keywordEach kws X.env)).filterMap (·.1) = ks := by rfl)
    (hdb : (x == ("__debug__" : Str)) = false := by decide)
    (hpl : ((backTo pos (starEach [] X.env)).any (·.1) || (backToKw pos (keywordEach kws X.env)).any (·.1.isNone)) = false := by rfl) :
    PE X (.Call (.Name x p) [] kws pos) (tClK g sp E t) := by
  obtain ⟨f, fd, hm, hk, hb, hrel, F⟩ := C.ex
  refine ⟨fun pins s σ H Q I h => wpAny_Call_Name_kw (ld_glob I hg hm ?_ hdb)⟩
  refine PySem.W.callWith_KW0 (h₀ := X.base) I.ok.mod.kin hk hall (thn (hkw.run pos pins s σ H _ I h) fun ws s1 ⟨zs, H1, I1, rz, q⟩ => ⟨I1.kIn, ?_⟩) hpl
  rw [hks]
  have r2 := hrel rz
  have hl : (g ws).length = ps.length := by
    rw [← r2.length]
    exact F.len _ _ _ _ q
  refine wpAny_call (codeAny_mono (F.run X.A X.stack s1 H1 ⟨[], ks.zip ws⟩ (g ws) (g zs) Q E hr I1.env0 (hb s1 ws hl) r2 q) fun r s' hq => ?_)
  match r, hq with
  | .error e, hq => exact hx pins σ H1 s1 e s' I1 hq
  | .ok (.ret u), hq => exact I1.after hq
  | .ok .next, hq => exact False.elim hq
  | .ok .brk, hq => exact False.elim hq
  | .ok .cont, hq => exact False.elim hq
/-- a def that raises nothing, one parameter -/
theorem ct1 {x : Str} {st : Stmt} {a : Str} {N : List Str} {k : Nat} {p : V → Hp → VK → XK → Prop} (D : Df K mg x st [a]) (S : FnScope N [a] (defScope st))
    (body : ∀ (f : Addr) (cdv : Value) (A : Around) (outer : List Env) (s : Shared) (H : Hp) (u : V) (Q : VK) (E : XK), Room k (A.deeper (envOfC x (defScope st) s.heap.objs.size f cdv)) → p u H Q E →
      ∃ t, PSs (cxOf CX0 P w K mg base N x (defScope st) f cdv A outer s H E).nox (defBody st) t ∧ t { nx := fun _ H' => Q .non H', rt := Q } (start N [u]) H) : Ct P w K mg base CX0 (k + 1) x [a] (sp1 p) := by
  obtain ⟨f, fd, F, hm, hb⟩ := D.ex
  refine ⟨f, fd, hm, F.kp, hb, F.ok S (fun vs H Q E h => ?_) (fun cdv A outer s H vs Q E hr h => ?_), fun_at F⟩
  · obtain ⟨u, rfl, _⟩ := sp1_of h
    rfl
  · obtain ⟨u, rfl, h⟩ := sp1_of h
    exact body f cdv A outer s H u Q E hr h
theorem ct2 {x : Str} {st : Stmt} {a b : Str} {N : List Str} {k : Nat} {p : V → V → Hp → VK → XK → Prop} (D : Df K mg x st [a, b]) (S : FnScope N [a, b] (defScope st))
    (body : ∀ (f : Addr) (cdv : Value) (A : Around) (outer : List Env) (s : Shared) (H : Hp) (u v : V) (Q : VK) (E : XK), Room k (A.deeper (envOfC x (defScope st) s.heap.objs.size f cdv)) → p u v H Q E →
      ∃ t, PSs (cxOf CX0 P w K mg base N x (defScope st) f cdv A outer s H E).nox (defBody st) t ∧ t { nx := fun _ H' => Q .non H', rt := Q } (start N [u, v]) H) : Ct P w K mg base CX0 (k + 1) x [a, b] (sp2 p) := by
  obtain ⟨f, fd, F, hm, hb⟩ := D.ex
  refine ⟨f, fd, hm, F.kp, hb, F.ok S (fun vs H Q E h => ?_) (fun cdv A outer s H vs Q E hr h => ?_), fun_at F⟩
  · obtain ⟨u, v, rfl, _⟩ := sp2_of h
    rfl
  · obtain ⟨u, v, rfl, h⟩ := sp2_of h
    exact body f cdv A outer s H u v Q E hr h
theorem ct3 {x : Str} {st : Stmt} {a b c : Str} {N : List Str} {k : Nat} {p : V → V → V → Hp → VK → XK → Prop} (D : Df K mg x st [a, b, c]) (S : FnScope N [a, b, c] (defScope st))
    (body : ∀ (f : Addr) (cdv : Value) (A : Around) (outer : List Env) (s : Shared) (H : Hp) (u v y : V) (Q : VK) (E : XK), Room k (A.deeper (envOfC x (defScope st) s.heap.objs.size f cdv)) → p u v y H Q E →
      ∃ t, PSs (cxOf CX0 P w K mg base N x (defScope st) f cdv A outer s H E).nox (defBody st) t ∧ t { nx := fun _ H' => Q .non H', rt := Q } (start N [u, v, y]) H) : Ct P w K mg base CX0 (k + 1) x [a, b, c] (sp3 p) := by
  obtain ⟨f, fd, F, hm, hb⟩ := D.ex
  refine ⟨f, fd, hm, F.kp, hb, F.ok S (fun vs H Q E h => ?_) (fun cdv A outer s H vs Q E hr h => ?_), fun_at F⟩
  · obtain ⟨u, v, y, rfl, _⟩ := sp3_of h
    rfl
  · obtain ⟨u, v, y, rfl, h⟩ := sp3_of h
    exact body f cdv A outer s H u v y Q E hr h
theorem ct4 {x : Str} {st : Stmt} {a b c d : Str} {N : List Str} {k : Nat} {p : V → V → V → V → Hp → VK → XK → Prop} (D : Df K mg x st [a, b, c, d]) (S : FnScope N [a, b, c, d] (defScope st))
    (body : ∀ (f : Addr) (cdv : Value) (A : Around) (outer : List Env) (s : Shared) (H : Hp) (u v y z : V) (Q : VK) (E : XK), Room k (A.deeper (envOfC x (defScope st) s.heap.objs.size f cdv)) → p u v y z H Q E →
      ∃ t, PSs (cxOf CX0 P w K mg base N x (defScope st) f cdv A outer s H E).nox (defBody st) t ∧ t { nx := fun _ H' => Q .non H', rt := Q } (start N [u, v, y, z]) H) : Ct P w K mg base CX0 (k + 1) x [a, b, c, d] (sp4 p) := by
  obtain ⟨f, fd, F, hm, hb⟩ := D.ex
  refine ⟨f, fd, hm, F.kp, hb, F.ok S (fun vs H Q E h => ?_) (fun cdv A outer s H vs Q E hr h => ?_), fun_at F⟩
  · obtain ⟨u, v, y, z, rfl, _⟩ := sp4_of h
    rfl
  · obtain ⟨u, v, y, z, rfl, h⟩ := sp4_of h
    exact body f cdv A outer s H u v y z Q E hr h
end

/-! ### loops over known items -/
/-- the iterator J gives these items while S stands -/
structure Wk (J : It) (items : List V) (S : Hp → Prop) : Prop where
  go : ∀ i H, S H → i < items.length → J.go i H
  stop : ∀ H, S H → J.stop items.length H
  yld : ∀ i H x H', S H → i < items.length → J.yld i H x H' → H' = H ∧ items[i]? = some x
theorem wk_list {K : PySem.W.Frag} {a : Addr} (xs : List V) : Wk (Itl K a) xs (fun H => SqL K H a xs) where
  go i H s h := ⟨xs, xs[i], s, by simp [h]⟩
  stop H s := ⟨xs, s, Nat.le_refl _⟩
  yld i H x H' s _ y := ⟨y.1, y.2 xs s⟩
theorem wk_tup {K : PySem.W.Frag} {a : Addr} (xs : List V) : Wk (Itt K a) xs (fun H => SqT K H a xs) where
  go i H s h := ⟨xs, xs[i], s, by simp [h]⟩
  stop H s := ⟨xs, s, Nat.le_refl _⟩
  yld i H x H' s _ y := ⟨y.1, y.2 xs s⟩
def rngV (lo : Int) (n : Nat) : List V := (List.range n).map fun (i : Nat) => V.int (lo + i)
theorem rngV_len (lo : Int) (n : Nat) : (rngV lo n).length = n := by simp [rngV]
theorem rngV_get {lo : Int} {n i : Nat} (h : i < n) : (rngV lo n)[i]? = some (.int (lo + i)) := by
  rw [rngV, List.getElem?_map, List.getElem?_range h]
  rfl
theorem rngV_at {lo : Int} {n i : Nat} {x : V} (h : (rngV lo n)[i]? = some x) : i < n ∧ x = .int (lo + i) := by
  have hi : i < n := by
    have q := (List.getElem?_eq_some_iff.mp h).1
    rw [rngV_len] at q
    exact q
  rw [rngV_get hi] at h
  exact ⟨hi, (Option.some.inj h).symm⟩
theorem wk_rng (lo : Int) (n : Nat) : Wk (Itr lo n) (rngV lo n) (fun _ => True) where
  go i H _ h := by
    rw [rngV_len] at h
    exact h
  stop H _ := by
    show n ≤ (rngV lo n).length
    rw [rngV_len]
    exact Nat.le_refl n
  yld i H x H' s h y := by
    rw [rngV_len] at h
    obtain ⟨y1, y2⟩ := y
    exact ⟨y1, by rw [y2, rngV_get h]⟩
def signV (c : Nat) : V := V.str ⟨#[c]⟩
def signsV (x : Str) : List V := x.cps.toList.map signV
theorem wk_str (x : Str) : Wk (Its x) (signsV x) (fun _ => True) where
  go i H _ h := by
    rw [signsV, List.length_map, Array.length_toList] at h
    exact h
  stop H _ := by
    show x.cps.size ≤ (signsV x).length
    rw [signsV, List.length_map, Array.length_toList]
    exact Nat.le_refl _
  yld i H v H' s h y := by
    obtain ⟨y1, c, y2, y3⟩ := y
    refine ⟨y1, ?_⟩
    rw [signsV, List.getElem?_map, Array.getElem?_toList, y2, y3]
    rfl
/-- for: the invariant by the turn -/
theorem for_w {J : It} {items : List V} {S : Hp → Prop} (wk : Wk J items S) {g : TG} {tb : TS} {D : Ends} {σ : L2.St} {H : Hp} (Pv : Nat → L2.St → Hp → Prop) (h0 : Pv 0 σ H) (hS : ∀ i σ H, Pv i σ H → S H)
    (hs : ∀ i x σ H, items[i]? = some x → Pv i σ H → g x σ H fun σ2 H2 => tb { D with nx := Pv (i + 1), ct := Pv (i + 1), bk := D.nx } σ2 H2) (hd : ∀ σ H, Pv items.length σ H → D.nx σ H) :
    ∃ W : Nat → Nat → L2.St → Hp → Prop, (∃ m, W 0 m σ H) ∧ ∀ i m σ H, W i m σ H →
      (J.stop i H ∧ D.nx σ H) ∨ (J.go i H ∧ ∃ N : L2.St → Hp → Prop, (∀ σ' H', N σ' H' → ∃ m', m' < m ∧ W (i + 1) m' σ' H') ∧ ∀ x H', J.yld i H x H' → g x σ H' fun σ2 H2 => tb { D with nx := N, ct := N, bk := D.nx } σ2 H2) := by
  refine ⟨fun i m σ H => m = items.length - i ∧ i ≤ items.length ∧ Pv i σ H, ⟨_, rfl, Nat.zero_le _, h0⟩, ?_⟩
  rintro i m σ H ⟨rfl, hi, p⟩
  have s := hS i σ H p
  rcases Nat.lt_or_ge i items.length with hlt | hge
  · refine .inr ⟨wk.go i H s hlt, Pv (i + 1), fun σ' H' p' => ⟨items.length - (i + 1), by omega, rfl, hlt, p'⟩, fun x H' y => ?_⟩
    obtain ⟨rfl, hx⟩ := wk.yld i H x H' s hlt y
    exact hs i x σ _ hx p
  · have e : i = items.length := Nat.le_antisymm hi hge
    subst e
    exact .inl ⟨wk.stop H s, hd σ H p⟩

/-! ### comprehensions -/
def monI (t : TI) : TI := fun σ H R => ∃ R0 : It → Hp → Prop, t σ H R0 ∧ ∀ J H1, R0 J H1 → R J H1
def monG (t : TG) : TG := fun v σ H Q => ∃ Q0 : L2.St → Hp → Prop, t v σ H Q0 ∧ ∀ σ1 H1, Q0 σ1 H1 → Q σ1 H1
def monT (t : TT) : TT := fun σ H Q => ∃ Q0 : Bool → Hp → Prop, t σ H Q0 ∧ ∀ b H1, Q0 b H1 → Q b H1
theorem pi_mon {X : Cx} {g e : Expr} {t : TI} (h : PI X g e t) : PI X g e (monI t) := ⟨fun pins s σ H R I ⟨R0, q, i⟩ =>
  thn (h.run pins s σ H R0 I q) fun v s1 h1 => thn h1 fun u s2 ⟨it, fp, tn, J, H', a1, a2, a3, a4, a5, a6⟩ => ⟨it, fp, tn, J, H', a1, a2, a3, a4, a5, i _ _ a6⟩⟩
theorem pg_mon {X : Cx} {g : Expr} {t : TG} (h : PG X g t) : PG X g (monG t) := ⟨fun pins s σ H v u Q I r ⟨Q0, q, i⟩ =>
  thn (h.run pins s σ H v u Q0 I r q) fun _ s1 ⟨σ', H', a, b⟩ => ⟨σ', H', a, i _ _ b⟩⟩
theorem pts_mon {X : Cx} {es : List Expr} {t : TT} (h : PTs X es t) : PTs X es (monT t) := ⟨fun pins s σ H Q I ⟨Q0, q, i⟩ =>
  thn (h.run pins s σ H Q0 I q) fun b s1 ⟨H', a, c⟩ => ⟨H', a, i _ _ c⟩⟩
/-- [te for g in wi if tt]: W by the turn, a measure, the list so far -/
def tLcz (wi : TI) (g : TG) (tt : TT) (te : TE) (vs : List Nat) : TE := fun σ H Q => wi σ H fun J H1 => ∀ D, H1 D = none → ∃ W : Nat → Nat → List V → Hp → Prop, (∃ m, ∀ H2, Nw H1 D (.lst []) H2 → W 0 m [] H2) ∧
  ∀ i m acc H, H D = some (.lst acc) → W i m acc H → (J.stop i H ∧ Q (.ref D) H) ∨
    (acc.length < sizeLine ∧ J.go i H ∧ ∃ Nx : List V → Hp → Prop, (∀ a' H', Nx a' H' → ∃ m', m' < m ∧ W (i + 1) m' a' H') ∧ ∀ x H', J.yld i H x H' → g x (wipe σ vs) H' fun σ2 H2 => wipe σ2 vs = wipe σ vs ∧ tt σ2 H2 fun b H3 =>
      if b = true then te σ2 H3 fun y H4 => H4 D = some (.lst acc) ∧ ∀ H5, Wr H4 D (.lst (acc ++ [y])) H5 → Nx (acc ++ [y]) H5 else H3 D = some (.lst acc) ∧ Nx acc H3)
theorem tLcz_of {wi : TI} {g : TG} {tt : TT} {te : TE} {vs : List Nat} {σ : L2.St} {H : Hp} {Q : VK} (h : tLcz wi g tt te vs σ H Q) : tLc (monI wi) (monG g) (monT tt) (mon te) vs σ H Q := by
  refine ⟨_, h, fun J H1 h1 D hD => ?_⟩
  obtain ⟨W, ⟨m, w0⟩, step⟩ := h1 D hD
  refine ⟨fun i m H => ∃ acc, H D = some (.lst acc) ∧ W i m acc H, ⟨m, [], upd_same, w0 _ (nw hD)⟩, ?_⟩
  rintro i m H ⟨acc, hacc, w⟩
  rcases step i m acc H hacc w with q | ⟨hz, go, Nx, hN, body⟩
  · exact .inl q
  · refine .inr ⟨go, fun H' => ∃ acc, H' D = some (.lst acc) ∧ Nx acc H', fun H' ⟨a', e, n⟩ => ?_, fun x H' y => ?_⟩
    · obtain ⟨m', l, w'⟩ := hN a' H' n
      exact ⟨m', l, a', e, w'⟩
    · refine ⟨_, body x H' y, fun σ2 H2 ⟨e, h2⟩ => ⟨e, _, h2, fun b H3 h3 => ?_⟩⟩
      cases b with
      | true =>
        rw [if_pos rfl] at h3 ⊢
        exact ⟨_, h3, fun z H4 h4 => ⟨acc, h4.1, hz, _, upd_same, h4.2 _ wr⟩⟩
      | false =>
        rw [if_neg Bool.false_ne_true] at h3 ⊢
        exact ⟨acc, h3.1, h3.2⟩
theorem pe_lcz {X : Cx} {elt tg iter : Expr} {ifs : List Expr} {scope : Scope} {own : List (Str × Nat)} {pos : Pos} {wi : TI} {g : TG} {tt : TT} {te : TE} (hc : X.calm = true) (hN : X.N.Nodup) (hi : PI X tg iter wi) (ok : BlkOk X.N X.env.scope scope own)
    (hg : ∀ (s : Shared) (H : Hp) (C : Addr) (cl : List (Str × Addr)) (fp : List Addr), PG (X.blk s H scope (compEnvC scope cl C X.env) fp) tg g) (ht : ∀ (s : Shared) (H : Hp) (C : Addr) (cl : List (Str × Addr)) (fp : List Addr), PTs (X.blk s H scope (compEnvC scope cl C X.env) fp) ifs tt)
    (he : ∀ (s : Shared) (H : Hp) (C : Addr) (cl : List (Str × Addr)) (fp : List Addr), PE (X.blk s H scope (compEnvC scope cl C X.env) fp) elt te) (hs : ∀ x, foldedSetIterable iter X.env x = pure x := by intro _; rfl) :
    PE X (.ListComp elt [⟨tg, iter, ifs, 0⟩] scope pos) (tLcz wi g tt te (own.map (·.2))) :=
  pe_w (pe_lc hc hN (pi_mon hi) ok (fun s H C cl fp => pg_mon (hg s H C cl fp)) (fun s H C cl fp => pts_mon (ht s H C cl fp)) (fun s H C cl fp => pe_mon (he s H C cl fp)) hs) fun σ H Q h => tLcz_of h
theorem ps_setLcz {X : Cx} {i : Nat} {y : Str} {py : Pos} {elt tg iter : Expr} {ifs : List Expr} {scope : Scope} {own : List (Str × Nat)} {pos spos : Pos} {wi : TI} {g : TG} {tt : TT} {te : TE} (hc : X.calm = true) (hN : X.N.Nodup) (hy : X.N[i]? = some y) (hyl : X.env.scope.names.lookup y = some .local)
    (hsw : swapsWith (.ListComp elt [⟨tg, iter, ifs, 0⟩] scope pos) (some (.Name y py)) spos.line X.env = pure true) (hi : PI X tg iter wi) (ok : BlkOk X.N X.env.scope scope own)
    (hg : ∀ (s : Shared) (H : Hp) (C : Addr) (cl : List (Str × Addr)) (fp : List Addr), PG (X.blk s H scope (compEnvC scope cl C X.env) fp) tg g) (ht : ∀ (s : Shared) (H : Hp) (C : Addr) (cl : List (Str × Addr)) (fp : List Addr), PTs (X.blk s H scope (compEnvC scope cl C X.env) fp) ifs tt)
    (he : ∀ (s : Shared) (H : Hp) (C : Addr) (cl : List (Str × Addr)) (fp : List Addr), PE (X.blk s H scope (compEnvC scope cl C X.env) fp) elt te) (hs : ∀ x, foldedSetIterable iter X.env x = pure x := by intro _; rfl) :
    PS X (.Assign [.Name y py] (.ListComp elt [⟨tg, iter, ifs, 0⟩] scope pos) spos) (tAsg (tLcz wi g tt te (own.map (·.2))) (gName i)) :=
  ps_w (ps_setLc hc hN hy hyl hsw (pi_mon hi) ok (fun s H C cl fp => pg_mon (hg s H C cl fp)) (fun s H C cl fp => pts_mon (ht s H C cl fp)) (fun s H C cl fp => pe_mon (he s H C cl fp)) hs) fun D σ H h => tLcz_of h
/-- a comprehension over known items: the invariant by the turn and the list so far -/
theorem lc_w {J : It} {items : List V} {S : Hp → Prop} (wk : Wk J items S) (hz : items.length ≤ 1000000) {g : TG} {tt : TT} {te : TE} {vs : List Nat} {σ : L2.St} {H1 : Hp} {D : Addr} {Qd : Hp → Prop} (Pv : Nat → List V → Hp → Prop) (h0 : ∀ H2, Nw H1 D (.lst []) H2 → Pv 0 [] H2)
    (hS : ∀ i acc H, Pv i acc H → S H) (hL : ∀ i acc H, Pv i acc H → acc.length ≤ i)
    (hs : ∀ i x acc H, items[i]? = some x → H D = some (.lst acc) → Pv i acc H → g x (wipe σ vs) H fun σ2 H2 => wipe σ2 vs = wipe σ vs ∧ tt σ2 H2 fun b H3 =>
      if b = true then te σ2 H3 fun y H4 => H4 D = some (.lst acc) ∧ ∀ H5, Wr H4 D (.lst (acc ++ [y])) H5 → Pv (i + 1) (acc ++ [y]) H5 else H3 D = some (.lst acc) ∧ Pv (i + 1) acc H3)
    (hd : ∀ acc H, acc.length ≤ items.length → H D = some (.lst acc) → Pv items.length acc H → Qd H) :
    ∃ W : Nat → Nat → List V → Hp → Prop, (∃ m, ∀ H2, Nw H1 D (.lst []) H2 → W 0 m [] H2) ∧
  ∀ i m acc H, H D = some (.lst acc) → W i m acc H → (J.stop i H ∧ Qd H) ∨
    (acc.length < sizeLine ∧ J.go i H ∧ ∃ Nx : List V → Hp → Prop, (∀ a' H', Nx a' H' → ∃ m', m' < m ∧ W (i + 1) m' a' H') ∧ ∀ x H', J.yld i H x H' → g x (wipe σ vs) H' fun σ2 H2 => wipe σ2 vs = wipe σ vs ∧ tt σ2 H2 fun b H3 =>
      if b = true then te σ2 H3 fun y H4 => H4 D = some (.lst acc) ∧ ∀ H5, Wr H4 D (.lst (acc ++ [y])) H5 → Nx (acc ++ [y]) H5 else H3 D = some (.lst acc) ∧ Nx acc H3) := by
  have hs1 : 1000000 < sizeLine := by decide
  -- the list is never longer than the turns done
  refine ⟨fun i m acc H => m = items.length - i ∧ i ≤ items.length ∧ Pv i acc H, ⟨items.length, fun H2 n => ⟨by omega, Nat.zero_le _, h0 H2 n⟩⟩, ?_⟩
  rintro i m acc H hacc ⟨rfl, hi, p⟩
  have hl := hL i acc H p
  have s := hS i acc H p
  rcases Nat.lt_or_ge i items.length with hlt | hge
  · refine .inr ⟨by omega, wk.go i H s hlt, Pv (i + 1), fun a' H' p' => ⟨items.length - (i + 1), by omega, rfl, hlt, p'⟩, fun x H' y => ?_⟩
    obtain ⟨rfl, hx⟩ := wk.yld i H x H' s hlt y
    exact hs i x acc _ hx hacc p
  · have e : i = items.length := Nat.le_antisymm hi hge
    subst e
    exact .inl ⟨wk.stop H s, hd acc H hl hacc p⟩

/-! ### constants of the module, permutations -/
theorem pe_gk {X : Cx} {x : Str} {v : V} {pos : Pos} (h : ∃ u, X.mg x = some u ∧ RelV v u) (hg : Gl X x := by rfl) (hd : (x == ("__debug__" : Str)) = false := by decide) : PE X (.Name x pos) (tC v) := by
  obtain ⟨u, hm, r⟩ := h
  exact pe_glob hg hm r hd
def zNeg : V → Hp → VK → Prop := fun x H Q => match x with
  | .int i => Q (.int (-i)) H
  | _ => False
theorem un_negZ {X : Cx} : UnR X (unaryOp .USub) zNeg :=
  fun pins s σ H x v Q I r h => by
    unfold zNeg at h
    split at h
    · exact un_neg pins s σ H _ v Q I r ⟨_, rfl, h⟩
    · exact h.elim
def perm_0 {α : Type} (l : List α) : List α := l
theorem perm_0_ok {zs : List V} {ws : List Value} (r : Vals zs ws) : Vals (perm_0 zs) (perm_0 ws) := r
def perm_1_0 {α : Type} : List α → List α
  | [a, b] => [b, a]
  | _ => []
theorem perm_1_0_ok {zs : List V} {ws : List Value} (r : Vals zs ws) : Vals (perm_1_0 zs) (perm_1_0 ws) := by
  match zs, ws, r with
  | [], [], _ => exact .nil
  | [_], [_], _ => exact .nil
  | [_, _], [_, _], .cons a (.cons b .nil) => exact .cons b (.cons a .nil)
  | _ :: _ :: _ :: _, _ :: _ :: _ :: _, _ => exact .nil

/-! ### the same rules over the written part by its own name (a block's rules must not speak of the block) -/
section
variable {X : Cx} (K : PySem.W.Frag)
theorem k_add (hK : X.K = K := by rfl) : OpR X (binaryOp .Add) (zAdd K) := hK ▸ o_add
theorem k_eq (hu : X.A.units + 64 < cLine) (hK : X.K = K := by rfl) : OpR X (compareOp .Eq) (zEq K false) := hK ▸ o_eq hu
theorem k_ne (hu : X.A.units + 64 < cLine) (hK : X.K = K := by rfl) : OpR X (compareOp .NotEq) (zEq K true) := hK ▸ o_ne hu
theorem k_in (hK : X.K = K := by rfl) : OpR X (compareOp .In) (zIn K false) := hK ▸ o_in
theorem k_nin (hK : X.K = K := by rfl) : OpR X (compareOp .NotIn) (zIn K true) := hK ▸ o_nin
theorem k_ix (hK : X.K = K := by rfl) : IxR X (zIx K) := hK ▸ o_ix
theorem k_sl (hK : X.K = K := by rfl) : SlR X (zSl K) := hK ▸ o_sl
theorem k_len (hK : X.K = K := by rfl) : CallR X (.builtin "len") (zLen K) := hK ▸ c_len
theorem k_sum (hc : X.calm = true) (hK : X.K = K := by rfl) : CallR X (.builtin "sum") (zSum K) := hK ▸ c_sum hc
theorem k_all (hc : X.calm = true) (hK : X.K = K := by rfl) : CallR X (.builtin "all") (zAll K) := hK ▸ c_all hc
theorem k_list (hK : X.K = K := by rfl) : CallR X (.type "list") (zList K) := hK ▸ c_list
theorem k_tuple (hK : X.K = K := by rfl) : CallR X (.type "tuple") (zTuple K) := hK ▸ c_tuple
theorem k_isi (hK : X.K = K := by rfl) : CallR X (.builtin "isinstance") (zIsi K) := hK ▸ c_isi
theorem mk_join (hK : X.K = K := by rfl) : MtR X "str.join" (ofS (zJoin K)) := hK ▸ m_join
theorem pt_trK {a : Expr} {ta : TE} (h : PE X a ta) (hK : X.K = K := by rfl) (he : ∀ whole, isTrue a X.env whole = (do let v ← whole; standAt a.pos; holding [v] (truthy v)) := by intro _; rfl) : PT X a (tTr K ta) := hK ▸ pt_tr h he
theorem pi_lzK {tg e : Expr} {te : TE} (h : PE X e te) (hK : X.K = K := by rfl) : PI X tg e (tItL K te) := hK ▸ pi_lz h
theorem pi_tzK {tg e : Expr} {te : TE} (h : PE X e te) (hK : X.K = K := by rfl) : PI X tg e (tItT K te) := hK ▸ pi_tz h
theorem pg_tzK {es : List Expr} {k : Nat} {pos : Pos} {t : TGs} {n : Nat} (hc : X.calm = true) (h : PGs X es t) (hK : X.K = K := by rfl) (hn : (assignEach es X.env).length = n := by rfl) (hst : (assignEach es X.env).findIdx? (·.1) = none := by rfl) : PG X (.Tuple es k pos) (gTz K n t) :=
  hK ▸ pg_tz hc h hn hst
theorem pe_mlK {e o : Expr} {es : List Expr} {to : TE} {t : TA} {name : Str} {apos cpos : Pos} {id : String} {r : Addr → List V → Hp → VK → Prop} (slot : Slot "list" name id) (hty : typeOf (.builtin id) = pure (.type "method_descriptor")) (hm : MtR X id (ofL r)) (ho : PE X o to) (ha : PA X (e :: es) t)
    (hK : X.K = K := by rfl) (hbase : attributeBase o name X.env (eval o X.env) = eval o X.env := by rfl)
    (hfew : ((backTo cpos (starEach (e :: es) X.env)).all (fun x => !x.1) && (backToKw cpos (keywordEach [] X.env)).all (fun x => x.1.isSome)
      && decide ((e :: es).length + ([] : List Keyword).length + (if ([] : List Keyword).isEmpty then 0 else 1) < 30)) = true := by rfl)
    (hline : (apos.endLine == cpos.line) = true := by rfl) (hs : starEach (e :: es) X.env = (false, eval e X.env) :: starEach es X.env := by rfl) (hplain : (backTo cpos (starEach es X.env)).any (·.1) = false := by rfl) :
    PE X (.Call (.Attribute o name apos) (e :: es) [] cpos) (tMl K r to t) := hK ▸ pe_ml slot hty hm ho ha hbase hfew hline hs hplain
end

/-! ### items at a place -/
theorem atI_some {α : Type} {xs : List α} {r : Int} (h0 : 0 ≤ r) (h : r < (xs.length : Int)) : ∃ v, atI xs r = some v ∧ v ∈ xs ∧ xs[r.toNat]? = some v := by
  have hl : r.toNat < xs.length := by omega
  have q := atI_nat (List.getElem?_eq_getElem hl)
  rw [Int.toNat_of_nonneg h0] at q
  exact ⟨xs[r.toNat], q, List.getElem_mem hl, List.getElem?_eq_getElem hl⟩
/-- an int of a written list -/
theorem menuI (ms : List Int) {r : Int} (h0 : 0 ≤ r) (h : r < (ms.length : Int)) : ∃ v, atI (ms.map V.int) r = some (.int v) ∧ v ∈ ms := by
  obtain ⟨v, h1, h2, _⟩ := atI_some (xs := ms.map V.int) h0 (by rw [List.length_map]; exact h)
  obtain ⟨i, hi, rfl⟩ := List.mem_map.mp h2
  exact ⟨i, h1, hi⟩
theorem iteY {c : Bool} {A B : Prop} (h : c = true) (a : A) : if c = true then A else B := by
  rw [if_pos h]
  exact a
theorem iteN {c : Bool} {A B : Prop} (h : c = false) (b : B) : if c = true then A else B := by
  rw [if_neg (by rw [h]; exact Bool.false_ne_true)]
  exact b
/-- one of two walks -/
def tIor (a b : TI) : TI := fun σ H R => a σ H R ∨ b σ H R
theorem pi_or {X : Cx} {tg e : Expr} {a b : TI} (ha : PI X tg e a) (hb : PI X tg e b) : PI X tg e (tIor a b) := ⟨fun pins s σ H R I h => by
  rcases h with h | h
  · exact ha.run pins s σ H R I h
  · exact hb.run pins s σ H R I h⟩
theorem dT {p : Prop} [Decidable p] (h : decide p = true) : p := of_decide_eq_true h
theorem dF {p : Prop} [Decidable p] (h : ¬ decide p = true) : ¬ p := fun q => h (decide_eq_true q)
theorem signsV_len (x : Str) : (signsV x).length = x.length := by
  rw [signsV, List.length_map, Array.length_toList]
  rfl
theorem signsV_at {x : Str} {i : Nat} {v : V} (h : (signsV x)[i]? = some v) : ∃ c, x.cps.toList[i]? = some c ∧ v = signV c := by
  rw [signsV, List.getElem?_map] at h
  cases e : x.cps.toList[i]? with
  | none => rw [e] at h; cases h
  | some c =>
    rw [e] at h
    exact ⟨c, rfl, (Option.some.inj h).symm⟩

/-! ### the end -/
section
variable {P : Program} {w : World} {K : PySem.W.Frag} {mg : Str → Option Value} {base : Heap}
theorem df_mk {h : Heap} (X : K.In h) (G : h.Ns mainGlobals mg) {x : Str} {st : Stmt} {ps : List Str} {f : Addr} {oc : Value} {od an : Option Addr} {osl : Array (Option Value)} {kV doc pm cdv ct : Value} (a : PySem.W.nsIn K mainGlobals x = some (some (.ref f)))
    (l : K.lookup f = some ⟨oc, od, .func (PySem.W.fnOf x x (defArgs st) (defBody st) (defScope st) .none kV doc pm an cdv ct), osl⟩) (c : PySem.W.codeIn K cdv x = true) (k : PySem.W.keepIn K (.ref f) = true)
    (b : ∀ (kV doc pm : Value) (an : Option Addr) (cdv ct : Value) (us : List Value), us.length = ps.length → bindArgs (PySem.W.fnOf x x (defArgs st) (defBody st) (defScope st) .none kV doc pm an cdv ct) ⟨us, []⟩ = pure (ps.zip us)) : Df K mg x st ps :=
  ⟨f, _, fun_mk l c k, PySem.W.mg_of X G a, (fun_mk l c k).binds b⟩
theorem law_fn {CX : CXT} {k : Nat} {x : Str} {ps : List Str} {sp : Sp} {fa : Addr} {fd : FuncData} {oc : Value} {od : Option Addr} {osl : Array (Option Value)} (C : Ct P w K mg base CX k x ps sp) (hfa : mg x = some (.ref fa))
    (l : K.lookup fa = some ⟨oc, od, .func fd, osl⟩) : FnOk P w K mg base CX k fa fd ps sp := by
  obtain ⟨f, fd', hm, _, _, F, oc', od', osl', hl⟩ := C.ex
  have e : f = fa := by
    rw [hm] at hfa
    cases hfa
    rfl
  subst e
  have e2 : fd' = fd := by
    rw [hl] at l
    cases l
    rfl
  subst e2
  exact F
end
end Z

/-! G: defs that call repr: what the room says of the guards is known. -/
namespace Z
open PySem PySem.Spec PyProof.Rows L2

/-- room, and nothing is being shown -/
structure RoomG (k : Nat) (A : Around) : Prop where
  room : Room k A
  free : A.guards = some []
theorem RoomG.mono {j k : Nat} {A : Around} (r : RoomG k A) (h : j ≤ k) : RoomG j A := ⟨r.room.mono h, r.free⟩
theorem RoomG.down {k : Nat} {A : Around} (r : RoomG (k + 1) A) (env : Env) : RoomG k (A.deeper env) := ⟨r.room.deeper env, r.free⟩
/-- one call of a def, at one place -/
theorem one_call {CX : CXT} {P : Program} {w : World} {K : PySem.W.Frag} {mg : Str → Option Value} {base : Heap} {k : Nat} {x qual : Str} {st : Stmt} {f : Addr} {fd : FuncData} {N ps : List Str} (F : Fun K x qual st f fd) (S : FnScope N ps (defScope st))
    {A : Around} {outer : List Env} {s : Shared} {H : Hp} {args : Args} {us : List Value} {vs : List V} {Q : VK} {E : XK} (hr : Room (k + 1) A) (e0 : Env0 P w K mg base A outer s H) (hb : BindsTo s fd args (ps.zip us)) (r : Vals vs us) (hl : vs.length = ps.length)
    (body : ∀ cdv : Value, ∃ t, PSs (cxOf CX P w K mg base N qual (defScope st) f cdv A outer s H E) (defBody st) t ∧ t { nx := fun _ H' => Q .non H', rt := Q } (start N vs) H) :
    codeAny (model P w) A (.call (.ref f) args) (CR CX outer P w H s Q E) s := by
  obtain ⟨oc, od, kV, doc, pm, an, cdv, ct, osl, e, lk, hcd⟩ := F.ex
  subst e
  obtain ⟨t, ht, hq⟩ := body cdv
  have grow : ∀ b o, base.get? b = some o → s.heap.get? b = some o := fun b o q => (e0.bs b o q).1
  have inK := e0.mod.kin.keeps grow
  have seen : ∀ y ∈ ps.zip us, (defScope st).names.lookup y.1 = some .local ∨ ((defScope st).names.lookup y.1 = some .cell ∧ ((cellsFrom (s.heap.objs.size + 1) (defScope st).names []).lookup y.1).isSome = true) := by
    intro y hy
    exact (S.par y.1 (List.of_mem_zip (a := y.1) (b := y.2) hy).1).imp_right fun q => ⟨q, PySem.W.cellsFrom_some _ _ _ (.inl q)⟩
  apply codeAny_call_function hr.depth (inK _ _ lk) rfl S.co S.gen rfl (PySem.W.codeRec_of inK hcd)
  apply hb
  apply wpAny_newFunctionEnv_cells S.kind seen
  rintro env rfl s1 x1
  refine And.intro ((e0.mod.nolimit.keeps grow).keeps x1.toInCall.keep) (codeAny_func ?_)
  have I := inv_start (CX := CX) (E := E) S hr.hd e0 hl r x1
  refine wpAny_mono (ht.run [] s1 (start N vs) H _ I hq) ?_ (fun _ _ z => z)
  have out : ∀ (s' : Shared) (σ' : L2.St) (H' : Hp) (v : V) (u : Value), Inv (cxOf CX P w K mg base N qual (defScope st) f cdv A outer s H E) [] σ' H' s' → RelV v u → Q v H' → CE outer P w H s Q u s' :=
    fun s' σ' H' v u J rv z => ⟨v, H', J.os, J.bare, J.base, J.hok, rv, z⟩
  intro fl s' hs
  match fl, hs with
  | .ret u, ⟨v, σ', H', J, rv, z⟩ => exact out s' σ' H' v u J rv z
  | .next, ⟨σ', H', J, z⟩ => exact out s' σ' H' .non .none J rfl z
  | .brk, ⟨_, _, _, z⟩ => exact z.elim
  | .cont, ⟨_, _, _, z⟩ => exact z.elim
/-- a def's promise where nothing is being shown -/
structure FnG (P : Program) (w : World) (K : PySem.W.Frag) (mg : Str → Option Value) (base : Heap) (CX : CXT) (k : Nat) (f : Addr) (fd : FuncData) (ps : List Str) (sp : Sp) : Prop where
  many : ∀ vs H Q E, sp vs H Q E → vs.length = ps.length
  call : ∀ (A : Around) (outer : List Env) (s : Shared) (H : Hp) (args : Args) (us : List Value) (vs : List V) (Q : VK) (E : XK), RoomG k A → Env0 P w K mg base A outer s H → BindsTo s fd args (ps.zip us) → Vals vs us → sp vs H Q E →
    codeAny (model P w) A (.call (.ref f) args) (CR CX outer P w H s Q E) s
structure Cg (P : Program) (w : World) (K : PySem.W.Frag) (mg : Str → Option Value) (base : Heap) (CX : CXT) (k : Nat) (x : Str) (ps : List Str) (sp : Sp) : Prop where
  ex : ∃ f fd, mg x = some (.ref f) ∧ PySem.W.keepIn K (.ref f) = true ∧ Binds K fd ps [] ∧ FnG P w K mg base CX k f fd ps sp ∧ ∃ oc od osl, K.lookup f = some ⟨oc, od, .func fd, osl⟩
theorem Ct.g {P : Program} {w : World} {K : PySem.W.Frag} {mg : Str → Option Value} {base : Heap} {CX : CXT} {k : Nat} {x : Str} {ps : List Str} {sp : Sp} (C : Ct P w K mg base CX k x ps sp) : Cg P w K mg base CX k x ps sp := by
  obtain ⟨f, fd, a, b, c, F, d⟩ := C.ex
  exact ⟨f, fd, a, b, c, ⟨F.len, fun A outer s H args us vs Q E r => F.run A outer s H args us vs Q E r.room⟩, d⟩
section
variable {X : Cx} {CX : CXT} {k : Nat} {x : Str} {ps : List Str} {sp : Sp} {E : XK} {p pos : Pos} {e : Expr} {es : List Expr} {t : TA}
/-- the callee runs -/
theorem fng_at {f : Addr} {fd : FuncData} {pins : List (Addr × Obj)} {σ : L2.St} {H : Hp} {s : Shared} {Q : VK} {us : List Value} {vs : List V} (F : FnG X.prog X.w X.K X.mg X.base CX k f fd ps sp) (hr : RoomG k X.A) (hb : Binds X.K fd ps []) (hx : Passes CX X E)
    (I : Inv X pins σ H s) (r : Vals vs us) (h : sp vs H Q E) : wpAny (model X.prog X.w) X.A (call (.ref f) us) (EP X pins σ Q) X.xe s := by
  have hl : us.length = ps.length := r.length.symm.trans (F.many _ _ _ _ h)
  have b := hb s us I.kIn (by simpa using hl)
  rw [List.append_nil] at b
  refine wpAny_call (codeAny_mono (F.call X.A X.stack s H ⟨us, []⟩ us vs Q E hr I.env0 b r h) ?_)
  intro r s' hq
  match r, hq with
  | .error e, hq => exact hx pins σ H s e s' I hq
  | .ok (.ret u), hq => exact I.after hq
  | .ok .next, hq => exact False.elim hq
  | .ok .brk, hq => exact False.elim hq
  | .ok .cont, hq => exact False.elim hq
theorem pe_cg (C : Cg X.prog X.w X.K X.mg X.base CX k x ps sp) (hr : RoomG k X.A) (hx : Passes CX X E) (ha : PA X (e :: es) t) (hg : Gl X x := by rfl)
    (hdb : (x == ("__debug__" : Str)) = false := by decide)
    (he : starEach (e :: es) X.env = (false, eval e X.env) :: starEach es X.env := by rfl) (hpl : (backTo pos (starEach es X.env)).any (·.1) = false := by rfl) : PE X (.Call (.Name x p) (e :: es) [] pos) (tCl sp E t) := by
  obtain ⟨f, fd, hm, hk, hb, F, _⟩ := C.ex
  exact ⟨fun pins s σ H Q I h => wpAny_Call_Name_kw (ld_glob I hg hm (PySem.W.callWith_K (h₀ := X.base) I.ok.mod.kin hk (thn (ha.run pos pins s σ H _ I h) fun us s1 ⟨vs, H1, I1, r, q⟩ => ⟨I1.kIn, fng_at F hr hb hx I1 r q⟩) he hpl) hdb)⟩
end
section
variable {P : Program} {w : World} {K : PySem.W.Frag} {mg : Str → Option Value} {base : Heap}
theorem fng {x : Str} {st : Stmt} {f : Addr} {fd : FuncData} {N ps : List Str} {k : Nat} {sp : Sp} (F : Fun K x x st f fd) (S : FnScope N ps (defScope st)) (len : ∀ vs H Q E, sp vs H Q E → vs.length = ps.length)
    (body : ∀ (cdv : Value) (A : Around) (outer : List Env) (s : Shared) (H : Hp) (vs : List V) (Q : VK) (E : XK), RoomG k (A.deeper (envOfC x (defScope st) s.heap.objs.size f cdv)) → sp vs H Q E →
      ∃ t, PSs (cxOf CX0 P w K mg base N x (defScope st) f cdv A outer s H E).nox (defBody st) t ∧ t { nx := fun _ H' => Q .non H', rt := Q } (start N vs) H) : FnG P w K mg base CX0 (k + 1) f fd ps sp :=
  ⟨len, fun A outer s H args us vs Q E hr e0 hb r h => one_call F S hr.room e0 hb r (len _ _ _ _ h) fun cdv => by
    obtain ⟨t, a, b⟩ := body cdv A outer s H vs Q E (hr.down _) h
    exact ⟨t, a.nox, b⟩⟩
theorem cg0 {x : Str} {st : Stmt} {N : List Str} {k : Nat} {p : Hp → VK → XK → Prop} (D : Df K mg x st []) (S : FnScope N [] (defScope st))
    (body : ∀ (f : Addr) (cdv : Value) (A : Around) (outer : List Env) (s : Shared) (H : Hp) (Q : VK) (E : XK), RoomG k (A.deeper (envOfC x (defScope st) s.heap.objs.size f cdv)) → p H Q E →
      ∃ t, PSs (cxOf CX0 P w K mg base N x (defScope st) f cdv A outer s H E).nox (defBody st) t ∧ t { nx := fun _ H' => Q .non H', rt := Q } (start N []) H) : Cg P w K mg base CX0 (k + 1) x [] (fun vs H Q E => vs = [] ∧ p H Q E) := by
  obtain ⟨f, fd, F, hm, hb⟩ := D.ex
  refine ⟨f, fd, hm, F.kp, hb, fng F S (fun vs H Q E h => by rw [h.1]; rfl) (fun cdv A outer s H vs Q E hr h => ?_), fun_at F⟩
  obtain ⟨rfl, h⟩ := h
  exact body f cdv A outer s H Q E hr h
theorem cg1 {x : Str} {st : Stmt} {a : Str} {N : List Str} {k : Nat} {p : V → Hp → VK → XK → Prop} (D : Df K mg x st [a]) (S : FnScope N [a] (defScope st))
    (body : ∀ (f : Addr) (cdv : Value) (A : Around) (outer : List Env) (s : Shared) (H : Hp) (u : V) (Q : VK) (E : XK), RoomG k (A.deeper (envOfC x (defScope st) s.heap.objs.size f cdv)) → p u H Q E →
      ∃ t, PSs (cxOf CX0 P w K mg base N x (defScope st) f cdv A outer s H E).nox (defBody st) t ∧ t { nx := fun _ H' => Q .non H', rt := Q } (start N [u]) H) : Cg P w K mg base CX0 (k + 1) x [a] (sp1 p) := by
  obtain ⟨f, fd, F, hm, hb⟩ := D.ex
  refine ⟨f, fd, hm, F.kp, hb, fng F S (fun vs H Q E h => ?_) (fun cdv A outer s H vs Q E hr h => ?_), fun_at F⟩
  · obtain ⟨u, rfl, _⟩ := sp1_of h
    rfl
  · obtain ⟨u, rfl, h⟩ := sp1_of h
    exact body f cdv A outer s H u Q E hr h
theorem cg2 {x : Str} {st : Stmt} {a b : Str} {N : List Str} {k : Nat} {p : V → V → Hp → VK → XK → Prop} (D : Df K mg x st [a, b]) (S : FnScope N [a, b] (defScope st))
    (body : ∀ (f : Addr) (cdv : Value) (A : Around) (outer : List Env) (s : Shared) (H : Hp) (u v : V) (Q : VK) (E : XK), RoomG k (A.deeper (envOfC x (defScope st) s.heap.objs.size f cdv)) → p u v H Q E →
      ∃ t, PSs (cxOf CX0 P w K mg base N x (defScope st) f cdv A outer s H E).nox (defBody st) t ∧ t { nx := fun _ H' => Q .non H', rt := Q } (start N [u, v]) H) : Cg P w K mg base CX0 (k + 1) x [a, b] (sp2 p) := by
  obtain ⟨f, fd, F, hm, hb⟩ := D.ex
  refine ⟨f, fd, hm, F.kp, hb, fng F S (fun vs H Q E h => ?_) (fun cdv A outer s H vs Q E hr h => ?_), fun_at F⟩
  · obtain ⟨u, v, rfl, _⟩ := sp2_of h
    rfl
  · obtain ⟨u, v, rfl, h⟩ := sp2_of h
    exact body f cdv A outer s H u v Q E hr h
theorem cg3 {x : Str} {st : Stmt} {a b c : Str} {N : List Str} {k : Nat} {p : V → V → V → Hp → VK → XK → Prop} (D : Df K mg x st [a, b, c]) (S : FnScope N [a, b, c] (defScope st))
    (body : ∀ (f : Addr) (cdv : Value) (A : Around) (outer : List Env) (s : Shared) (H : Hp) (u v v3 : V) (Q : VK) (E : XK), RoomG k (A.deeper (envOfC x (defScope st) s.heap.objs.size f cdv)) → p u v v3 H Q E →
      ∃ t, PSs (cxOf CX0 P w K mg base N x (defScope st) f cdv A outer s H E).nox (defBody st) t ∧ t { nx := fun _ H' => Q .non H', rt := Q } (start N [u, v, v3]) H) : Cg P w K mg base CX0 (k + 1) x [a, b, c] (sp3 p) := by
  obtain ⟨f, fd, F, hm, hb⟩ := D.ex
  refine ⟨f, fd, hm, F.kp, hb, fng F S (fun vs H Q E h => ?_) (fun cdv A outer s H vs Q E hr h => ?_), fun_at F⟩
  · obtain ⟨u, v, v3, rfl, _⟩ := sp3_of h
    rfl
  · obtain ⟨u, v, v3, rfl, h⟩ := sp3_of h
    exact body f cdv A outer s H u v v3 Q E hr h
end
end Z

/-! D: data with dicts, as it stands in the abstract heap; repr. -/
namespace Z
open PySem PySem.Spec PyProof.V PyProof.Rows L2

def keyD : Key → PyData
  | .inl i => .int i
  | .inr x => .str x
mutual
/-- a value as data; g: the lists do not lie where the modules do (what is asked where a dict is shown, too) -/
inductive Dz (g : Bool) (H : Hp) : V → PyData → Prop
  | non : Dz g H .non .none
  | bl (b : Bool) : Dz g H (.bl b) (.bool b)
  | int (i : Int) : Dz g H (.int i) (.int i)
  | str (x : Str) : Dz g H (.str x) (.str x)
  | lst {a : Addr} {xs : List V} {ds : List PyData} : H a = some (.lst xs) → (g = true → a ≠ sysModules) → DzAll g H xs ds → Dz g H (.ref a) (.list ds)
  | tup {a : Addr} {xs : List V} {ds : List PyData} : H a = some (.tup xs) → DzAll g H xs ds → Dz g H (.ref a) (.tuple ds)
  | dic {a : Addr} {kvs : List (Key × V)} {D : List (PyData × PyData)} : H a = some (.dK kvs) → DzKv g H kvs D → Dz g H (.ref a) (.dict D)
inductive DzAll (g : Bool) (H : Hp) : List V → List PyData → Prop
  | nil : DzAll g H [] []
  | cons {v : V} {vs : List V} {d : PyData} {ds : List PyData} : Dz g H v d → DzAll g H vs ds → DzAll g H (v :: vs) (d :: ds)
inductive DzKv (g : Bool) (H : Hp) : List (Key × V) → List (PyData × PyData) → Prop
  | nil : DzKv g H [] []
  | cons {k : Key} {v : V} {kvs : List (Key × V)} {d : PyData} {D : List (PyData × PyData)} : Dz g H v d → DzKv g H kvs D → DzKv g H ((k, v) :: kvs) ((keyD k, d) :: D)
end
mutual
theorem Dz.same {g : Bool} {H H2 : Hp} (s : Same H H2) : ∀ {v : V} {d : PyData}, Dz g H v d → Dz g H2 v d
  | _, _, .non => .non
  | _, _, .bl b => .bl b
  | _, _, .int i => .int i
  | _, _, .str x => .str x
  | _, _, .lst h n a => .lst (s _ _ h) n (DzAll.same s a)
  | _, _, .tup h a => .tup (s _ _ h) (DzAll.same s a)
  | _, _, .dic h a => .dic (s _ _ h) (DzKv.same s a)
theorem DzAll.same {g : Bool} {H H2 : Hp} (s : Same H H2) : ∀ {vs : List V} {ds : List PyData}, DzAll g H vs ds → DzAll g H2 vs ds
  | _, _, .nil => .nil
  | _, _, .cons h t => .cons (Dz.same s h) (DzAll.same s t)
theorem DzKv.same {g : Bool} {H H2 : Hp} (s : Same H H2) : ∀ {kvs : List (Key × V)} {D : List (PyData × PyData)}, DzKv g H kvs D → DzKv g H2 kvs D
  | _, _, .nil => .nil
  | _, _, .cons h t => .cons (Dz.same s h) (DzKv.same s t)
end
theorem key_reads {h : Heap} : ∀ (k : Key) (key : Value), keyIs k key = true → Reads h key (keyD k) [] := fun k key e => by
  rcases keyIs_shape e with ⟨i, t, rfl, rfl⟩ | ⟨x, t, rfl, rfl⟩
  · exact .int i t
  · exact .str x t
section
variable {g : Bool} {X : Cx} {pins : List (Addr × Obj)} {σ : L2.St} {H : Hp} {s : Shared}
mutual
theorem Dz.reads (I : Inv X pins σ H s) : ∀ {v : V} {d : PyData} (u : Value), Dz g H v d → RelV v u → ∃ as, Reads s.heap u d as ∧ (g = true → sysModules ∉ as)
  | _, _, u, .non, r => by
    cases r
    exact ⟨_, .none, fun _ => by simp⟩
  | _, _, u, .bl b, r => by
    cases r
    exact ⟨_, .bool b, fun _ => by simp⟩
  | _, _, u, .int i, r => by
    obtain ⟨t, rfl⟩ := r
    exact ⟨_, .int i t, fun _ => by simp⟩
  | _, _, u, .str x, r => by
    obtain ⟨t, rfl⟩ := r
    exact ⟨_, .str x t, fun _ => by simp⟩
  | _, _, u, .lst h n a, r => by
    cases r
    obtain ⟨_, its, m, rv, e⟩ := I.hok _ _ h
    obtain ⟨as, q, w⟩ := DzAll.reads I its a rv
    exact ⟨_, .list e rfl rfl (by simpa using q), fun e => by simp only [List.mem_cons, not_or]; exact ⟨fun z => n e z.symm, w e⟩⟩
  | _, _, u, .tup h a, r => by
    cases r
    obtain ⟨_, its, rv, o, ho, hc, m, hd⟩ := I.hok _ _ h
    obtain ⟨as, q, w⟩ := DzAll.reads I its a rv
    exact ⟨_, .tuple ho hc hd (by simpa using q), w⟩
  | _, _, u, .dic h a, r => by
    cases r
    obtain ⟨_, n, vs, rv, e⟩ := I.hok _ _ h
    obtain ⟨bs, q, w⟩ := DzKv.reads I vs a rv
    exact ⟨_, reads_dictOf key_reads e q, fun e => by simp only [List.mem_cons, not_or]; exact ⟨fun z => by rw [← z] at n; exact absurd n (by decide), w e⟩⟩
theorem DzAll.reads (I : Inv X pins σ H s) : ∀ {vs : List V} {ds : List PyData} (us : List Value), DzAll g H vs ds → Vals vs us → ∃ as, ReadsAll s.heap us ds as ∧ (g = true → sysModules ∉ as)
  | _, _, us, .nil, r => by
    cases r
    exact ⟨_, .nil, fun _ => by simp⟩
  | _, _, us, .cons h t, r => by
    cases r with
    | cons r1 r2 =>
      obtain ⟨as, q1, w1⟩ := Dz.reads I _ h r1
      obtain ⟨bs, q2, w2⟩ := DzAll.reads I _ t r2
      exact ⟨_, .cons q1 q2, fun e z => (List.mem_append.mp z).elim (w1 e) (w2 e)⟩
theorem DzKv.reads (I : Inv X pins σ H s) : ∀ {kvs : List (Key × V)} {D : List (PyData × PyData)} (vs : List (Key × Value)), DzKv g H kvs D → KV kvs vs → ∃ as, PairsRead s.heap keyD vs D as ∧ (g = true → sysModules ∉ as)
  | _, _, vs, .nil, r => by
    cases r
    exact ⟨_, .nil, fun _ => by simp⟩
  | _, _, vs, .cons h t, r => by
    cases r with
    | @cons _ b _ _ r1 r2 =>
      obtain ⟨k, u⟩ := b
      obtain ⟨rfl, r1⟩ := r1
      obtain ⟨as, q1, w1⟩ := Dz.reads I _ h r1
      obtain ⟨bs, q2, w2⟩ := DzKv.reads I _ t r2
      exact ⟨_, .cons q1 q2, fun e z => (List.mem_append.mp z).elim (w1 e) (w2 e)⟩
end
end
/-- repr(x) of data -/
def zRepr : List V → Hp → VK → Prop := fun vs H Q => match vs with
  | [v] => ∃ g d, Dz g H v d ∧ (d.hasDict = true → g = true) ∧ d.showable = true ∧ d.depth ≤ 60 ∧ d.shown.length ≤ sizeLine ∧ Q (.str d.shown) H
  | _ => False
theorem c_repr {X : Cx} {k : Nat} (hr : RoomG k X.A) : CallR X (.builtin "repr") zRepr := by
  intro pins s σ H xs us Q I r h
  unfold zRepr at h
  split at h
  · obtain ⟨g, d, hd, hg, hs, hp, hz, q⟩ := h
    obtain ⟨u, rfl, ru⟩ := vals1 r
    have un := hr.room.un
    obtain ⟨as, rd, w⟩ := Dz.reads I u hd ru
    have keep : ∀ {t : Nat} {h' : Heap}, (∀ b o, s.heap.get? b = some o → h'.get? b = some o) → ∀ t', EP X pins σ Q (.str d.shown t') { s with heap := h', toks := t } := fun hk t' => ⟨.str d.shown, H, I.kept hk, ⟨_, rfl⟩, q⟩
    cases rd with
    | none => exact PySem.P.repr_of_none ⟨.str _, H, I.tok _, ⟨_, rfl⟩, q⟩
    | bool b => exact PySem.P.repr_of_bool ⟨.str _, H, I.tok _, ⟨_, rfl⟩, by cases b <;> exact q⟩
    | int i t => exact PySem.P.repr_of_int (by simpa [PyData.showable] using hs) ⟨.str _, H, I.tok _, ⟨_, rfl⟩, q⟩
    | str x t => exact PySem.P.repr_of_str ⟨.str _, H, I.tok _, ⟨_, rfl⟩, q⟩ hz
    | list a b c e => exact repr_of_reads' (Reads.list a b c e) hs (fun z => w (hg z)) hr.free (by omega) (fun _ _ z => z) (fun h' u tk hk => keep hk _) hz
    | tuple a b c e => exact repr_of_reads' (Reads.tuple a b c e) hs (fun z => w (hg z)) hr.free (by omega) (fun _ _ z => z) (fun h' u tk hk => keep hk _) hz
    | dict a b c e f => exact repr_of_reads' (Reads.dict a b c e f) hs (fun z => w (hg z)) hr.free (by omega) (fun _ _ z => z) (fun h' u tk hk => keep hk _) hz
  · exact h.elim
/-- a list display, not where the modules are -/
def tLzS (t : TA) : TE := fun σ H Q => t σ H fun xs H1 => xs.length ≤ sizeLine ∧ ∀ p H2, Nw H1 p (.lst xs) H2 → p ≠ sysModules → Q (.ref p) H2
theorem pe_lzS {X : Cx} {es : List Expr} {t : TA} {pos : Pos} (h : PA X es t) : PE X (.List es pos) (tLzS t) := by
  constructor
  intro pins s σ H Q I hq
  refine wpAny_List_spliced (thn (h.run pos pins s σ H _ I hq) ?_)
  rintro us s1 ⟨xs, H1, I1, r, z, q⟩
  have free : H1 s1.heap.objs.size = none := I1.hok.fresh (Nat.le_refl _)
  have far : s1.heap.objs.size ≠ sysModules := Nat.ne_of_gt I1.big
  refine ⟨by rw [← r.length]; exact z, .ref _, _, I1.laid (t' := s1.toks) (o := .lst xs) (fun b u e => Heap.get?_push_of_some _ e) (Nat.le_refl _) ⟨z, us, 0, r, Heap.get?_push_size _ rfl⟩, rfl, q _ _ (nw free) far⟩
end Z

/-! E: the end of a law whose def calls repr. -/
namespace Z
open PySem PySem.Spec PyProof.Rows L2

/-- the script alone is tracked, if the object does not know it -/
def scriptH (K : PySem.W.Frag) (a : Addr) (o : Obj) (ns : List Int) : Hp := fun b => if b = a ∧ (K.lookup a).isNone = true then some (.frz o (.lst (ns.map V.int))) else none
theorem scriptH_at {K : PySem.W.Frag} {a b : Addr} {o : Obj} {ns : List Int} {u : HO} (h : scriptH K a o ns b = some u) : b = a ∧ K.lookup a = none ∧ u = .frz o (.lst (ns.map V.int)) := by
  unfold scriptH at h
  split at h
  · rename_i c
    exact ⟨c.1, Option.isNone_iff_eq_none.mp c.2, (Option.some.inj h).symm⟩
  · cases h
theorem walk_g {l : PySem.W.OpenLaw} {n k : Nat} {q : Program} {loose : List Str} {XP : (Str → Option Value) → Heap → Prop} {YP : World → Heap → Prop} {d : DefRec} {K : Params → PySem.W.Frag} {CX : CXT} {sp : World → Sp} {x : Str}
    (hn : l.most = some n) (hn2 : n ≤ sizeLine) (hdf : d.params.defaults = []) (hr : RoomG k callerA) (hY : ∀ (w : World) (h : Heap), YP w h → (K w.params).In h)
    (F : ∀ (w : World) (mg : Str → Option Value) (fa : Addr) (h : Heap), (K w.params).In h → h.Ns mainGlobals mg → mg d.name = some (.ref fa) →
      ∃ fd : FuncData, (∀ (s : Shared) (u : Value), BindsTo s fd ⟨[u], []⟩ [(x, u)]) ∧ ∀ base : Heap, (K w.params).In base → base.Ns mainGlobals mg → FnG l.prog w (K w.params) mg base CX k fa fd [x] (sp w))
    (hsp : ∀ (w : World) (H : Hp) (a : Addr) (ns : List Int), ns.length ≤ n → SqL (K w.params) H a (ns.map V.int) → sp w [.ref a] H (fun v _ => v = .bl true) fun _ _ _ => False)
    (hCX : ∀ (H : Hp) (s : Shared) (e : Value) (s' : Shared), CX [] H s (fun _ _ _ => False) e s' → False) :
    PySem.W.WalkO q loose XP YP l.row.toRowW d [] (fun f vs => PySem.call f vs) := by
  refine Att.attach_call hn hdf ?_
  intro w s₀ s₁ mg mb fa o pm cd doc a vs ns G Y _ _ _ hmg ha hints hlen hg
  have KX := hY w _ Y
  obtain ⟨fd, hbind, hF⟩ := F w mg fa _ KX G.T.g hmg
  have hspw := hsp w
  generalize K w.params = K at *
  generalize eo : ({ cls := .type "list", data := .seq vs.toArray } : Obj) = obj at ha
  have rv := vals_ints hints
  have lenV := hints.length
  have hS : SqL K (scriptH K a obj ns) a (ns.map V.int) := by
    cases hk : K.lookup a with
    | none => exact .inl (.inr ⟨obj, if_pos ⟨rfl, by rw [hk]; rfl⟩⟩)
    | some o2 =>
      have e2 := KX a o2 hk
      rw [ha] at e2
      cases e2
      subst eo
      exact .inr ⟨_, vs.toArray, _, hk, rfl, rfl, rfl, by rw [List.size_toArray, lenV]; exact Nat.le_trans hlen hn2, by simpa using rv⟩
  have seen : ∀ {b : Addr} {u : Obj}, s₁.heap.get? b = some u → (b = a → K.lookup a = some u ∨ False) → (hidT s₁.heap (scriptH K a obj ns)).get? b = some u := fun {b u} e c => hidT_get e (by
    cases z : scriptH K a obj ns b with
    | none => rfl
    | some v =>
      obtain ⟨e1, e2, _⟩ := scriptH_at z
      rcases c e1 with c | c
      · rw [e2] at c; cases c
      · exact c.elim)
  have inK : K.In (hidT s₁.heap (scriptH K a obj ns)) := fun b u e => seen (KX b u e) fun z => .inl (by rw [← z]; exact e)
  have names : ∀ {b : Addr} {m : Str → Option Value}, s₁.heap.Ns b m → (hidT s₁.heap (scriptH K a obj ns)).Ns b m := fun {b m} ⟨u, es, ep, e, dd, rest⟩ => ⟨u, es, ep, seen e (fun z => by
    subst z
    rw [ha] at e
    cases e
    subst eo
    exact nomatch dd), dd, rest⟩
  obtain ⟨mc, lim1, lim2⟩ := G.T.nolimit
  have world : Env0 l.prog w K mg (hidT s₁.heap (scriptH K a obj ns)) callerA [] s₁ (scriptH K a obj ns) := by
    constructor
    · rfl
    · exact ⟨inK, names G.T.g, ⟨mb, names G.T.b, G.T.builtins⟩, ⟨mc, names lim1, lim2⟩⟩
    · exact fun b u e => of_hidT e
    · exact Nat.le_of_eq (hidT_size _ _)
    · trivial
    · exact fun b z => absurd (show b ∈ ([] : List Addr) from z) List.not_mem_nil
    · intro b u e
      obtain ⟨rfl, _, rfl⟩ := scriptH_at e
      exact ⟨ha, by rw [List.length_map]; exact Nat.le_trans hlen hn2, vs, 0, rv, by rw [ha, ← eo]⟩
    · exact .of_eq hg
  have run := (hF _ inK (names G.T.g)).call callerA [] s₁ (scriptH K a obj ns) ⟨[.ref a], []⟩ [.ref a] [.ref a] (fun v _ => v = .bl true) (fun _ _ _ => False) hr world (hbind s₁ (.ref a)) (.cons rfl .nil) (hspw _ a ns hlen hS)
  refine codeAny_mono run ?_
  intro r s' h
  match r, h with
  | .error e, h => exact (hCX _ _ e s' h).elim
  | .ok .next, h => exact False.elim h
  | .ok .brk, h => exact False.elim h
  | .ok .cont, h => exact False.elim h
  | .ok (.ret u), ⟨v, H', os, bare, un, hok', r', hv⟩ =>
    have hv : v = .bl true := hv
    subst hv
    have r' : u = Value.bool true := r'
    subst r'
    refine ⟨rfl, OldK.of_keep ?_, os, bare⟩
    intro b u e
    cases z : scriptH K a obj ns b with
    | none => exact un.keep b u e z (fun c => absurd (show b ∈ ([] : List Addr) from c) List.not_mem_nil) List.not_mem_nil
    | some v =>
      obtain ⟨rfl, _, rfl⟩ := scriptH_at z
      have e2 := (hok' _ _ (un.frzs _ _ _ z)).1
      rw [ha] at e
      cases e
      exact e2
/-- dict(..) of a list of pairs, of a dict -/
def zDict (K : PySem.W.Frag) : List V → Hp → VK → Prop := fun vs H Q => match vs with
  | [.ref a] => (∃ (ps : List Addr) (kvs : List (Key × V)), SqL K H a (ps.map V.ref) ∧ Paired (fun p kv => SqT K H p [kV kv.1, kv.2]) ps kvs ∧ ∀ p H2, Nw H p (.dK (mergeK [] kvs)) H2 → Q (.ref p) H2) ∨
    ∃ kvs, H a = some (.dK kvs) ∧ ∀ p H2, Nw H p (.dK kvs) H2 → Q (.ref p) H2
  | _ => False
theorem c_dict {X : Cx} (hc : X.calm = true) : CallR X (.type "dict") (zDict X.K) := by
  intro pins s σ H xs us Q I r h
  unfold zDict at h
  split at h
  · rename_i a
    rcases h with ⟨ps, kvs, h1, h2, q⟩ | ⟨kvs, h1, q⟩
    · exact call_dictP hc pins s σ H _ us Q I r ⟨a, ps, kvs, rfl, h1, h2, fun p hp => q p _ (nw hp)⟩
    · obtain ⟨u, rfl, ru⟩ := vals1 r
      cases ru
      exact d_copyOf I (.inl h1) fun p s' hp J => ⟨.ref p, _, J, rfl, q p _ (nw hp)⟩
  · exact h.elim
theorem k_dict {X : Cx} (K : PySem.W.Frag) (hc : X.calm = true) (hK : X.K = K := by rfl) : CallR X (.type "dict") (zDict K) := hK ▸ c_dict hc
theorem law_gn {P : Program} {w : World} {K : PySem.W.Frag} {mg : Str → Option Value} {base : Heap} {CX : CXT} {k : Nat} {x : Str} {ps : List Str} {sp : Sp} {fa : Addr} {fd : FuncData} {oc : Value} {od : Option Addr} {osl : Array (Option Value)} (C : Cg P w K mg base CX k x ps sp) (hfa : mg x = some (.ref fa))
    (l : K.lookup fa = some ⟨oc, od, .func fd, osl⟩) : FnG P w K mg base CX k fa fd ps sp := by
  obtain ⟨f, fd', hm, _, _, F, oc', od', osl', hl⟩ := C.ex
  obtain rfl : f = fa := by
    rw [hm] at hfa
    cases hfa
    rfl
  obtain rfl : fd' = fd := by
    rw [hl] at l
    cases l
    rfl
  exact F
end Z

/-! X: own errors over an own class over Exception. -/
namespace Z
open PySem PySem.Spec PyProof.Rows L2

abbrev tailE : List Value := [.type "Exception", .type "BaseException", .type "object"]
/-- the classes of an error: its own, the package's, Exception's -/
def mroE (C B : Addr) : List Value := .ref C :: .ref B :: tailE
theorem mroE_has (C B : Addr) (Y : String) : (mroE C B).contains (.type Y) = tailE.contains (.type Y) := by
  unfold mroE
  rw [List.contains_cons, List.contains_cons]
  rfl
theorem mroE_pass (C B : Addr) (self : Value) : refuseLoop self "__setattr__" (mroE C B) = pure () := by
  unfold mroE
  rw [refuseLoop_ref, refuseLoop_ref]
  exact PySem.F.store_Exception.passes self
/-- what the written part says of an error's class -/
structure ErrC (K : PySem.W.Frag) (C B : Addr) : Prop where
  cls : ∃ nm q N bs sn sub ab col dd k0 k1 k2 k3 k5, K.lookup C = some (excClassObj nm q C N bs (.ref B :: tailE) true sn sub ab col dd k0 k1 k2 k3 k5 "Exception.__new__")
  sa : PySem.W.findIn K (.ref C) "__setattr__" = some (some (.builtin "object.__setattr__"))
  exC : PySem.W.subIn K (.ref C) (.type "BaseException") = some true
  tyC : PySem.W.typeIn K (.ref C) = some (.type "type")
  kC : PySem.W.keepIn K (.ref C) = true
section
open PySem.W PySem.Calls PySem.HandSPX Builtin Builtin.ObjectAttr
variable {prog : Program} {w : World} {A : Around} {R : Result → Shared → Prop} {hp : Heap} {g : Array GenState} {d : Drawn} {t : Nat} {os : OsState}
/-- the first field of an error -/
theorem first_field {K : PySem.W.Frag} {nm : Str} {tk : Tok} {v : Value} {x C B : Addr} {fv : Array Value} {cd : ClassData} (inK : K.In hp) (here : hp.get? x = some { cls := .ref C, data := .fields fv }) (kd : PySem.W.clsIn K C = some cd) (mro : cd.mro = mroE C B) (has : cd.hasDict = true)
    (own : PySem.W.findIn K (.ref C) nm = some none)
    (done : ∀ h' tk' dx, (∀ b o, b ≠ x → hp.get? b = some o → h'.get? b = some o) → hp.objs.size ≤ dx → dx ≠ x → h'.get? x = some { cls := .ref C, dict := some dx, data := .fields fv } → h'.Ns1 dx (fun y => if y = nm then some v else none) →
      R (.ok (.ret .none)) ⟨h', g, d, tk', os⟩) : codeAny (model prog w) A (.call (.builtin "object.__setattr__") ⟨[.ref x, .str nm tk, v], []⟩) R ⟨hp, g, d, t, os⟩ := by
  have at0 : PySem.W.InstAt hp x { cls := .ref C, data := .fields fv } C none := ⟨here, rfl, rfl, trivial⟩
  have far : x ≠ hp.objs.size := Nat.ne_of_lt (Heap.lt_size here)
  have obj : cd.mro.contains (.type "object") = true := by rw [mro, mroE_has]; decide +kernel
  have isObj : PySem.W.Looks (model prog w) hp (isInstance (.ref x) (.type "object")) true :=
    at0.type.andThen (PySem.W.looks_mroIn inK (by unfold PySem.W.mroIn; rw [kd, Option.bind_some, if_neg (by rw [mro]; exact Bool.false_ne_true), obj]))
  have St := PySem.F.store_object
  apply codeAny_call_builtin St.slot.plain St.entry
  apply @PySem.W.check_slot (model prog w) _ _ ⟨hp, g, d, t, os⟩ "object.__setattr__" "object" "__setattr__" (.ref x) [.str nm tk, v] [] _ St.kind St.split isObj (St.args (.ref x) (.str nm tk) v)
  have theMro : PySem.W.Looks (model prog w) hp (mroOf (.ref C)) cd.mro := PySem.W.Looks.andThen (PySem.W.looks_clsIn inK kd) .now
  have noTaker : PySem.W.Looks (model prog w) hp (storeTaker? none) none := .now
  have theCls : PySem.W.Looks (model prog w) hp (classData C) cd := PySem.W.looks_clsIn inK kd
  rw [PySem.W.osa_eq, refuse_eq]
  apply wpAny_bind
  apply wpAny_bind
  apply at0.type.at
  apply wpAny_bind
  apply theMro.at
  rw [mro, mroE_pass]
  apply wpAny_pure
  apply wpAny_bind
  apply at0.type.at
  apply wpAny_bind
  apply PySem.W.Looks.at (PySem.W.looks_findIn inK own)
  apply wpAny_bind
  apply noTaker.at
  show wpAny _ _ (storeInOwnDict (.ref x) (.ref C) (.str nm tk) nm v false) _ _ _
  cases cd with
  | mk n1 n2 n3 n4 n5 n6 n7 n8 n9 n10 n11 =>
    have n6t : n6 = true := has
    subst n6t
    unfold storeInOwnDict ownDictForStores
    repeat (first | with_reducible refine store_in_new ?_ ?_ | with_reducible refine wpAny_loadPart_at here ?_ | with_reducible refine theCls.at ?_ | wp_step)
    · exact ⟨_, #[], _, (Heap.get?_update_ne _ _ _ _ far.symm).trans (Heap.get?_push_at rfl rfl), rfl, fun e z => absurd z (by simp), fun _ => rfl⟩
    · intro h' tk' names but
      have there := Heap.get?_push_of_some { cls := .type "dict", data := .dict #[] } here
      refine done h' tk' hp.objs.size ?_ (Nat.le_refl _) far.symm ((but.2 x far).trans (Heap.get?_update_self _ there rfl)) names
      intro b o nb ob
      exact ((but.2 b (Nat.ne_of_lt (Heap.lt_size ob))).trans (Heap.get?_update_ne _ _ _ _ nb)).trans (Heap.get?_push_of_some _ ob)
end
section
variable {X : Cx} {pins : List (Addr × Obj)} {σ : L2.St} {H : Hp} {s : Shared} {a C B : Addr} {E : Value → Shared → Prop} {A : Around}
/-- the base's own part of the making: nothing of it is seen -/
theorem base_init {us : List Value} {Q : Value → Shared → Prop} (T : ErrC X.K C B) (I : Inv X pins σ H s) (e : H a = some (exo a C none)) (hl : us.length ≤ sizeLine) (h : ∀ s', Inv X pins σ H s' → Q .none s') :
    wpAny (model X.prog X.w) A (call (.builtin "Exception.__init__") (.ref a :: us)) Q E s := by
  obtain ⟨_, _, _, _, _, _, _, _, _, _, _, _, _, _, cl⟩ := T.cls
  obtain ⟨old, here⟩ := exo_at I.hok e
  cases s with
  | mk hp g d t os =>
    apply wpAny_call
    apply PySem.HandSPX.init_base PySem.F.excBase_Exception (fun Y => by rw [List.contains_cons]; rfl) (I.kIn _ _ cl) here hl
    intro h' new keep now
    have same : upd H a (exo a C none) = H := funext fun b => by
      unfold upd
      split
      · rename_i z
        rw [z, e]
      · rfl
    have J := I.write (t' := t) (x := a) (e := a) (o := exo a C none) (by rw [e]; exact True.intro) (Or.inl rfl) keep ⟨_, now⟩ (exo_ok now)
    rw [same] at J
    exact h _ J
/-- what is tracked as another kind stands elsewhere -/
theorem apart {b c : Addr} {o u : HO} (p : H b = some o) (q : H c = some u) (d : o ≠ u) : c ≠ b := fun z => d (by
  rw [z, p] at q
  exact Option.some.inj q)
/-- self.f = y, the first field -/
theorem err_set {f : Str} {y : V} {u : Value} {Q : Unit → Shared → Prop} (T : ErrC X.K C B) (I : Inv X pins σ H s) (e : H a = some (exo a C none)) (own : PySem.W.findIn X.K (.ref C) f = some none) (ry : RelV y u)
    (h : ∀ dx s', H dx = none → dx ≠ a → Inv X pins σ (upd (upd H dx (exd dx [(f, y)])) a (exo a C (some dx))) s' → Q () s') : wpAny (model X.prog X.w) A (setAttr (.ref a) f u) Q E s := by
  obtain ⟨m1, m2, m3, m4, m5, m6, m7, m8, m9, m10, m11, m12, m13, m14, cl⟩ := T.cls
  have kd : PySem.W.clsIn X.K C = some ⟨m1, m4, mroE C B, m3, m2, true, m5, m6, m7, m8, false⟩ := by
    unfold PySem.W.clsIn
    rw [cl]
    rfl
  obtain ⟨old, here⟩ := exo_at I.hok e
  cases s with
  | mk hp g d t os =>
    apply PySem.W.set_plain I.kIn (ox := { cls := .ref C, dict := none, data := .fields #[.ref old, .none, .none, .none, .bool false, .none] }) (od := none) ⟨here, rfl, rfl, trivial⟩ T.sa
    apply first_field I.kIn here kd rfl rfl own
    intro h' tk' dx keep big nd now names
    have none1 : H dx = none := I.hok.fresh big
    have off : ∀ {b : Addr} {o : Obj}, hp.get? b = some o → b ≠ dx := fun q => Nat.ne_of_lt (Nat.lt_of_lt_of_le (Heap.lt_size q) big)
    have offA : ∀ {b : Addr}, H b = none → b ≠ a := fun q z => by rw [z, e] at q; cases q
    have stays : ∀ {b : Addr} {o : HO}, H b = some o → o ≠ exo a C none → (upd (upd H dx (exd dx [(f, y)])) a (exo a C (some dx))) b = some o := fun {b o} q k => by
      rw [upd_ne (apart e q (fun z => k z.symm)), upd_ne (ne_of_none q none1)]
      exact q
    refine h dx _ none1 nd (I.un (t' := tk') ?_ ?_)
    · constructor
      · intro b o q n _ _
        exact keep b o (offA n) q
      · intro b o q n _ _
        exact ⟨o.slots, keep b o (offA n) q⟩
      · intro b o q n _
        rw [upd_ne (offA n), upd_ne (off q)]
        exact n
      · intro b o q _
        rcases Nat.decEq b a with z | z
        · exact ⟨o, keep b o z q⟩
        · exact ⟨_, z ▸ now⟩
      · intro b xs q
        exact stays q (fun z => exo_tup z.symm)
      · intro b o v q
        exact stays q (fun z => exo_frz z.symm)
      · intro b ps q
        exact ⟨#[], by rw [stays q (fun z => exo_tbl z.symm)]; simp⟩
    · intro b o q
      rcases Nat.decEq b a with z | z
      · rw [upd_ne z] at q
        rcases Nat.decEq b dx with zd | zd
        · rw [upd_ne zd] at q
          refine (I.hok b o q).stay ?_ (fun c k => stays k (fun z => exo_own z.symm)) fun c xs k => stays k (fun z => exo_tup z.symm)
          intro c v k p
          refine keep c v ?_ p
          rcases k with k | k
          · rw [k]; exact z
          · exact apart e k exo_own
        · subst zd
          rw [upd_same] at q
          cases q
          exact exd_ok names (relO_put (fs := []) ry fun _ => True.intro)
      · subst z
        rw [upd_same] at q
        cases q
        exact exo_ok now
end
section
variable {X : Cx} {C B : Addr}
/-- C(e, ..) where C's own __init__ keeps sp -/
theorem pmk_err {CX : CXT} {x : Str} {fI : Addr} {k : Nat} {fd : FuncData} {ps : List Str} {sp : Sp} {e : Expr} {es : List Expr} {ta : TA} {p pos : Pos} (T : ErrC X.K C B) (iC : PySem.W.findIn X.K (.ref C) "__init__" = some (some (.ref fI))) (tI : PySem.W.typeIn X.K (.ref fI) = some (.type "function"))
    (F1 : FnOk X.prog X.w X.K X.mg X.base CX k fI fd ps sp) (hr : Room (k + 1) X.A) (hb : Binds X.K fd ps []) (hx : Passes CX X (fun _ _ _ => False)) (hm : X.mg x = some (.ref C)) (ha : PA X (e :: es) ta) (hg : Gl X x := by rfl) (hdb : (x == ("__debug__" : Str)) = false := by decide)
    (he : starEach (e :: es) X.env = (false, eval e X.env) :: starEach es X.env := by rfl) (hpl : (backTo pos (starEach es X.env)).any (·.1) = false := by rfl) : PMk X (.Call (.Name x p) (e :: es) [] pos) (tMkO C sp [] ta) := by
  intro pins s σ H Q I h
  obtain ⟨_, _, _, _, _, _, _, _, _, _, _, _, _, _, cl⟩ := T.cls
  apply wpAny_Call_Name_kw
  refine ld_glob I hg hm (PySem.W.callWith_K (h₀ := X.base) I.ok.mod.kin T.kC ?_ he hpl) hdb
  · apply thn (ha.run pos pins s σ H _ I h)
    rintro us ⟨hp, g, dr, tk, os⟩ ⟨vs, H1, I1, r1, few, q1⟩
    refine ⟨I1.kIn, ?_⟩
    have later : hp.objs.size ≤ hp.objs.size + 1 := Nat.le_succ _
    have q2 := q1 _ (I1.hok.fresh later)
    rw [List.append_nil] at q2
    have more : ∀ b o, hp.get? b = some o → ((hp.push (PySem.W.kdv_tup us)).push (PySem.HandSPX.excO C hp.objs.size)).get? b = some o := fun _ _ z => Heap.get?_push_of_some _ (Heap.get?_push_of_some _ z)
    have new : ((hp.push (PySem.W.kdv_tup us)).push (PySem.HandSPX.excO C hp.objs.size)).get? (hp.objs.size + 1) = some (PySem.HandSPX.excO C hp.objs.size) := by heap_get
    have I2 := I1.laid (t' := tk) (o := exo (hp.objs.size + 1) C none) more later (exo_ok new)
    have r2 : Vals (V.ref (hp.objs.size + 1) :: vs) (Value.ref (hp.objs.size + 1) :: us) := .cons rfl r1
    have len : (Value.ref (hp.objs.size + 1) :: us).length = ps.length := r2.length.symm.trans (F1.len _ _ _ _ q2)
    have bind := hb _ (Value.ref (hp.objs.size + 1) :: us) I2.kIn (by simpa using len)
    rw [List.append_nil] at bind
    have fit : us.length ≤ sizeLine := by
      rw [← Paired.length r1, sizeLine_eq]
      omega
    apply wpAny_call
    apply PySem.HandSPX.call_own PySem.F.excBase_Exception (fun Y => by rw [List.contains_cons]; rfl) (I1.kIn _ _ cl) (PySem.W.looks_findIn I1.kIn iC) (fun self => PySem.W.bind_fn I1.kIn self tI) fit
    refine codeAny_mono (F1.run _ X.stack _ _ ⟨Value.ref (hp.objs.size + 1) :: us, []⟩ _ _ _ (fun _ _ _ => False) (hr.make C us []) (I2.env0.make C us []) bind r2 q2) ?_
    intro r s' z
    match r, s', z with
    | .error er, s', z => exact hx pins σ _ _ er s' I2 z
    | .ok (.ret u), ⟨h2, g2, d2, t2, os'⟩, ⟨v, H2, sos, sbare, sun, sok, rv, ev, d, fs, ea, ed, hd1, q3⟩ =>
      subst ev
      exact ⟨rv, mk_end (raises_own T.exC T.tyC) I1 later more sun sok sos sbare ea ed hd1 q3⟩
    | .ok .next, _, z => exact False.elim z
    | .ok .brk, _, z => exact False.elim z
    | .ok .cont, _, z => exact False.elim z
/-- self.f = e, the first field of an error -/
def tErr (K : PySem.W.Frag) (f : Str) (to te : TE) : TS := fun D σ H => te σ H fun y H1 => to σ H1 fun x H2 => ∃ a C B : Addr, x = .ref a ∧ ErrC K C B ∧ PySem.W.findIn K (.ref C) f = some none ∧ H2 a = some (exo a C none) ∧
  ∀ dx, H2 dx = none → dx ≠ a → D.nx σ (upd (upd H2 dx (exd dx [(f, y)])) a (exo a C (some dx)))
theorem ps_err {o e : Expr} {to te : TE} {f : Str} {p' pos : Pos} (ho : PE X o to) (he : PE X e te) (hs : swapsWith e (some (.Attribute o f p')) pos.line X.env = pure false := by rfl) : PS X (.Assign [.Attribute o f p'] e pos) (tErr X.K f to te) := by
  constructor
  intro pins s σ H D I h
  apply plainObj_wpAny_Assign_Attribute _ hs
  apply thn (he.run pins s σ H _ I h)
  rintro v s1 ⟨y, H1, I1, r1, q1⟩
  apply thn (ho.run pins s1 σ H1 _ I1 q1)
  rintro u s2 ⟨x, H2, I2, r2, a, C, B, rfl, T, own, ea, q⟩
  obtain rfl : u = Value.ref a := r2
  exact err_set T I2 ea own r1 fun dx s' n ne J => ⟨σ, _, J, q dx n ne⟩
/-- Base.__init__(self, ..) by the class's name -/
def tBI (K : PySem.W.Frag) (ta : TA) : TE := fun σ H Q => ta σ H fun vs H1 => ∃ (a C B : Addr) (ws : List V), vs = .ref a :: ws ∧ ws.length ≤ 1000 ∧ ErrC K C B ∧ H1 a = some (exo a C none) ∧ Q .non H1
theorem pe_binit {x : Str} {D : Addr} {mc : Value} {e : Expr} {es : List Expr} {ta : TA} {p1 p2 pos : Pos} {pl : Sem Bool} (hm : X.mg x = some (.ref D)) (sg : PySem.W.specialIn X.K (.ref D) "__getattribute__" = some (some (.builtin "type.__getattribute__"))) (rd : PySem.W.readsIn X.K D mc = true)
    (fv : PySem.W.findCls X.K (.ref D) mc "__init__" = some (.val (.builtin "Exception.__init__"))) (ha : PA X (e :: es) ta) (hg : Gl X x := by rfl) (hdb : (x == ("__debug__" : Str)) = false := by decide)
    (hc : eval (.Call (.Attribute (.Name x p1) "__init__" p2) (e :: es) [] pos) X.env = (do
      let ov ← eval (.Name x p1) X.env
      standAt p2.atName
      let (f, first) ← holding [ov] (getMethod ov "__init__" pl)
      callWith pos f first (backTo pos (starEach (e :: es) X.env)) (backToKw pos (keywordEach [] X.env))) := by rfl)
    (he : starEach (e :: es) X.env = (false, eval e X.env) :: starEach es X.env := by rfl) (hpl : (backTo pos (starEach es X.env)).any (·.1) = false := by rfl) : PE X (.Call (.Attribute (.Name x p1) "__init__" p2) (e :: es) [] pos) (tBI X.K ta) := by
  constructor
  intro pins s σ H Q I h
  refine PySem.W.methodCall_KW (ld_glob I hg hm ?_ hdb) hc
  refine PySem.W.method_cls I.kIn sg (PySem.W.cls_value I.kIn rd fv (by decide +kernel) ?_)
  refine callWith_method1 (thn (ha.run pos pins _ σ H _ (I.tok _) h) ?_) he hpl
  rintro us s1 ⟨vs, H1, I1, r1, a, C, B, ws, rfl, few, T, ea, q⟩
  cases r1 with
  | @cons _ u0 _ ur ra rest =>
    obtain rfl : u0 = Value.ref a := ra
    exact base_init T I1 ea (by rw [← Paired.length rest, sizeLine_eq]; omega) fun s' J => ⟨.non, H1, J, rfl, q⟩
end
end Z

/-! Y: defs that raise own errors, and try around them. -/
namespace Z
open PySem PySem.Spec PyProof.Rows L2

/-! ### defs that may raise -/
section
variable {P : Program} {w : World} {K : PySem.W.Frag} {mg : Str → Option Value} {base : Heap}
theorem cx1 {x : Str} {st : Stmt} {a : Str} {N : List Str} {k : Nat} {p : V → Hp → VK → XK → Prop} (D : Df K mg x st [a]) (S : FnScope N [a] (defScope st))
    (body : ∀ (f : Addr) (cdv : Value) (A : Around) (outer : List Env) (s : Shared) (H : Hp) (u : V) (Q : VK) (E : XK), Room k (A.deeper (envOfC x (defScope st) s.heap.objs.size f cdv)) → p u H Q E →
      ∃ t, PSs (cxOf (L2.CX P w) P w K mg base N x (defScope st) f cdv A outer s H E) (defBody st) t ∧ t { nx := fun _ H' => Q .non H', rt := Q } (start N [u]) H) : Ct P w K mg base (L2.CX P w) (k + 1) x [a] (sp1 p) := by
  obtain ⟨f, fd, F, hm, hb⟩ := D.ex
  refine ⟨f, fd, hm, F.kp, hb, F.okX S ?_ ?_, fun_at F⟩
  · intro vs H Q E h
    obtain ⟨u, rfl, _⟩ := sp1_of h
    rfl
  · intro cdv A outer s H vs Q E hr h
    obtain ⟨u, rfl, h⟩ := sp1_of h
    exact body f cdv A outer s H u Q E hr h
theorem cx2 {x : Str} {st : Stmt} {a b : Str} {N : List Str} {k : Nat} {p : V → V → Hp → VK → XK → Prop} (D : Df K mg x st [a, b]) (S : FnScope N [a, b] (defScope st))
    (body : ∀ (f : Addr) (cdv : Value) (A : Around) (outer : List Env) (s : Shared) (H : Hp) (u v : V) (Q : VK) (E : XK), Room k (A.deeper (envOfC x (defScope st) s.heap.objs.size f cdv)) → p u v H Q E →
      ∃ t, PSs (cxOf (L2.CX P w) P w K mg base N x (defScope st) f cdv A outer s H E) (defBody st) t ∧ t { nx := fun _ H' => Q .non H', rt := Q } (start N [u, v]) H) : Ct P w K mg base (L2.CX P w) (k + 1) x [a, b] (sp2 p) := by
  obtain ⟨f, fd, F, hm, hb⟩ := D.ex
  refine ⟨f, fd, hm, F.kp, hb, F.okX S ?_ ?_, fun_at F⟩
  · intro vs H Q E h
    obtain ⟨u, v, rfl, _⟩ := sp2_of h
    rfl
  · intro cdv A outer s H vs Q E hr h
    obtain ⟨u, v, rfl, h⟩ := sp2_of h
    exact body f cdv A outer s H u v Q E hr h
/-- an __init__ of two parameters -/
theorem ini2 {q : Str} {st : Stmt} {f : Addr} {fd : FuncData} {a b : Str} {N : List Str} {k : Nat} {p : V → V → Hp → VK → XK → Prop} (F : Fun K "__init__" q st f fd) (S : FnScope N [a, b] (defScope st))
    (body : ∀ (cdv : Value) (A : Around) (outer : List Env) (s : Shared) (H : Hp) (u v : V) (Q : VK) (E : XK), Room k (A.deeper (envOfC q (defScope st) s.heap.objs.size f cdv)) → p u v H Q E →
      ∃ t, PSs (cxOf CX0 P w K mg base N q (defScope st) f cdv A outer s H E).nox (defBody st) t ∧ t { nx := fun _ H' => Q .non H', rt := Q } (start N [u, v]) H) : FnOk P w K mg base CX0 (k + 1) f fd [a, b] (sp2 p) := by
  refine F.ok S ?_ ?_
  · intro vs H Q E h
    obtain ⟨u, v, rfl, _⟩ := sp2_of h
    rfl
  · intro cdv A outer s H vs Q E hr h
    obtain ⟨u, v, rfl, h⟩ := sp2_of h
    exact body cdv A outer s H u v Q E hr h
end
/-- what an error's own __init__ leaves: its one field -/
def spIni (C : Addr) (f : Str) : Sp := sp2 fun u v H Q _ => ∃ a, u = .ref a ∧ H a = some (exo a C none) ∧ ∀ dx, H dx = none → dx ≠ a → Q .non (upd (upd H dx (exd dx [(f, v)])) a (exo a C (some dx)))
/-- an error's class, under its name -/
structure Er (P : Program) (w : World) (K : PySem.W.Frag) (mg : Str → Option Value) (base : Heap) (k : Nat) (x f : Str) (C : Addr) : Prop where
  name : mg x = some (.ref C)
  ex : ∃ (B fI : Addr) (fd : FuncData) (ps : List Str), ErrC K C B ∧ PySem.W.findIn K (.ref C) "__init__" = some (some (.ref fI)) ∧ PySem.W.typeIn K (.ref fI) = some (.type "function") ∧ FnOk P w K mg base CX0 k fI fd ps (spIni C f) ∧ Binds K fd ps []
/-- what is asked of a caught error -/
structure Es (K : PySem.W.Frag) (C : Addr) : Prop where
  xf : XfC K C
  ty : PySem.W.typeIn K (.ref C) = some (.type "type")
  ha : PySem.W.findIn K (.ref C) "__class__" = some (some (.builtin "object.__class__"))
  hn : PySem.W.specialIn K (.builtin "object.__class__") "__get__" = some (some (.builtin "getset_descriptor.__get__"))
  ht : PySem.W.takesIn K (.builtin "object.__class__") = some true
  hm : PySem.W.mroIn K C (.type "object") = some true
theorem Es.exm {K : PySem.W.Frag} {C : Addr} {c : Value} {b : Bool} (S : Es K C) (h : PySem.W.subIn K c (.ref C) = some b) : PySem.W.exmOne K c (.ref C) = some b := PySem.W.exm_ref S.xf.exC S.xf.hdC S.ty h
section
variable {X : Cx}
/-- raise C(e) -/
def tRz (C : Addr) (f : Str) (t : TA) (W : WX) : TS := fun _ σ H => t σ H fun vs H1 => match vs with
  | [v] => ∀ d H2, Nw H1 d (.xd [(f, v)]) H2 → W (.ref C) (some d) σ H2
  | _ => False
theorem ps_rz {W : WX} {k : Nat} {x f : Str} {C : Addr} {e : Expr} {t : TA} {p p2 pos : Pos} (hc : X.calm = true) (tk : Takes X W) (R : Er X.prog X.w X.K X.mg X.base k x f C) (hr : Room (k + 1) X.A) (ha : PA X [e] t) (hg : Gl X x := by rfl) (hdb : (x == ("__debug__" : Str)) = false := by decide)
    (he : starEach [e] X.env = (false, eval e X.env) :: starEach [] X.env := by rfl) (hpl : (backTo p2 (starEach [] X.env)).any (·.1) = false := by rfl) : PS X (.Raise (some (.Call (.Name x p) [e] [] p2)) none pos) (tRz C f t W) := by
  obtain ⟨B, fI, fd, ps, T, iC, tI, F, hb⟩ := R.ex
  refine ps_w (ps_raise hc tk (pmk_err T iC tI F hr hb pass0 R.name (pa_mon ha) hg hdb he hpl)) ?_
  intro D σ H h
  refine ⟨_, h, ?_⟩
  intro vs H1 h1
  split at h1
  · rename_i v
    refine ⟨by show 1 ≤ 1000; decide, fun a na => ?_⟩
    refine ⟨a, rfl, upd_same, fun dx nd ne => ⟨rfl, dx, [(f, v)], upd_same, ?_, ?_, ?_⟩⟩
    · rw [upd_ne ne, upd_same]
    · rw [upd_ne ne] at nd
      exact nd
    · rw [upd_ne ne] at nd
      have e : upd (del (upd (upd (upd H1 a (exo a C none)) dx (exd dx [(f, v)])) a (exo a C (some dx))) a) dx (.xd [(f, v)]) = upd H1 dx (.xd [(f, v)]) := by
        funext b
        by_cases z : b = dx
        · rw [z, upd_same, upd_same]
        · rw [upd_ne z, upd_ne z]
          by_cases y : b = a
          · rw [y, del_same, na]
          · rw [del_ne y, upd_ne y, upd_ne z, upd_ne y]
      rw [e]
      exact h1 dx _ (nw nd)
  · exact h1.elim
/-- a call that may let an error out -/
theorem pe_clS {W : WX} {k : Nat} {x : Str} {ps : List Str} {sp : Sp} {p pos : Pos} {e : Expr} {es : List Expr} {t : TA} (C : Ct X.prog X.w X.K X.mg X.base (L2.CX X.prog X.w) k x ps sp) (hr : Room k X.A) (tk : Takes X W) (ha : PA X (e :: es) t) (hg : Gl X x := by rfl)
    (hdb : (x == ("__debug__" : Str)) = false := by decide) (he : starEach (e :: es) X.env = (false, eval e X.env) :: starEach es X.env := by rfl) (hpl : (backTo pos (starEach es X.env)).any (·.1) = false := by rfl) : PE X (.Call (.Name x p) (e :: es) [] pos) (tCallS sp (WE W) t) := by
  obtain ⟨f, fd, hm, hk, hb, F, _⟩ := C.ex
  exact pe_callS F hr hg hm hk hb (passAt tk) ha hdb he hpl
def tClKS (g : {α : Type} → List α → List α) (sp : Sp) (E : L2.St → XK) (t : TA) : TE := fun σ H Q => t σ H fun zs H1 => sp (g zs) H1 Q (E σ)
theorem pe_clKS {W : WX} {k : Nat} {x : Str} {ps ks : List Str} {g : {α : Type} → List α → List α} {sp : Sp} {p pos : Pos} {kws : List Keyword} {t : TA} (C : CtK X.prog X.w X.K X.mg X.base (L2.CX X.prog X.w) k x ps ks g sp) (hr : Room k X.A) (tk : Takes X W)
    (hkw : PK X kws t) (hg : Gl X x := by rfl) (hall : (backToKw pos (keywordEach kws X.env)).all (·.1.isSome) = true := by rfl) (hks : (backToKw pos (keywordEach kws X.env)).filterMap (·.1) = ks := by rfl)
    (hdb : (x == ("__debug__" : Str)) = false := by decide) (hpl : ((backTo pos (starEach [] X.env)).any (·.1) || (backToKw pos (keywordEach kws X.env)).any (·.1.isNone)) = false := by rfl) :
    PE X (.Call (.Name x p) [] kws pos) (tClKS g sp (WE W) t) := by
  obtain ⟨f, fd, hm, hk, hb, hrel, F⟩ := C.ex
  constructor
  intro pins s σ H Q I h
  apply wpAny_Call_Name_kw
  refine ld_glob I hg hm (PySem.W.callWith_KW0 (h₀ := X.base) I.ok.mod.kin hk hall ?_ hpl) hdb
  apply thn (hkw.run pos pins s σ H _ I h)
  rintro ws s1 ⟨zs, H1, I1, rz, q⟩
  refine ⟨I1.kIn, ?_⟩
  rw [hks]
  have r2 := hrel rz
  have hl : (g ws).length = ps.length := r2.length.symm.trans (F.len _ _ _ _ q)
  apply wpAny_call
  refine codeAny_mono (F.run X.A X.stack s1 H1 ⟨[], ks.zip ws⟩ (g ws) (g zs) Q (WE W σ) hr I1.env0 (hb s1 ws hl) r2 q) ?_
  intro r s' z
  match r, z with
  | .error er, z => exact passAt tk σ pins H1 s1 er s' I1 z
  | .ok (.ret u), z => exact I1.after z
  | .ok .next, z => exact False.elim z
  | .ok .brk, z => exact False.elim z
  | .ok .cont, z => exact False.elim z
end

/-! ### try with several clauses, each with a name -/
/-- behind a clause its name is gone -/
def gone (i : Nat) (D : Ends) : Ends := { nx := fun σ' H' => D.nx (σ'.set i none) H', rt := D.rt, bk := fun σ' H' => D.bk (σ'.set i none) H', ct := fun σ' H' => D.ct (σ'.set i none) H' }
/-- what the clauses wish of an error: its class, the place of its name, what is read there -/
def wClauses (K : PySem.W.Frag) (Wout : WX) (D : Ends) : List (Value × Nat × (Addr → Value → Option Addr → TS)) → WX
  | [] => Wout
  | (c, i, ts) :: r => fun cls d σ H => ∃ b, PySem.W.exmOne K cls c = some b ∧ (b = true → ∀ a, H a = none → ts a cls d (gone i D) (σ.set i (some (.ref a))) H) ∧ (b = false → wClauses K Wout D r cls d σ H)
inductive Clauses (X : Cx) : List ExceptHandler → List (Value × Nat × (Addr → Value → Option Addr → TS)) → Prop
  | nil : Clauses X [] []
  | cons {x n : Str} {c : Value} {i : Nat} {ts : Addr → Value → Option Addr → TS} {first : Stmt} {more : List Stmt} {np hp : Pos} {hds : List ExceptHandler} {l : List (Value × Nat × (Addr → Value → Option Addr → TS))} (names : Names X x c) (slot : X.N[i]? = some n) (loc : X.env.kindOf n = some .local)
      (suite : ∀ (a : Addr) (oe : Obj) (cls : Value) (d : Option Addr) (pn : List (Addr × Obj)), Zc cls d oe → (∃ vs, oe.data = .fields vs) → PSs (X.suite a ((a, oe) :: pn)) (first :: more) (ts a cls d)) (rest : Clauses X hds l) :
      Clauses X (.ExceptHandler (some (.Name x np)) (some n) (first :: more) hp :: hds) ((c, i, ts) :: l)
section
variable {X : Cx} {body : List Stmt} {h1 : ExceptHandler} {hds : List ExceptHandler} {l : List (Value × Nat × (Addr → Value → Option Addr → TS))} {pos : Pos} {tb : WX → TS} {Wout : WX}
theorem ps_tryC (hs : X.stack = X.env :: X.outer) (hf : X.env.frame = some X.env.locals) (hN : X.N.Nodup) (tk : Takes X Wout)
    (hb : ∀ (W : WX) (pn : List (Addr × Obj)) (xe : Value → Shared → Prop), Takes (X.tr pn xe) W → PassesOwn (model X.prog X.w) X.A X.env xe → PSs (X.tr pn xe) body (tb W))
    (cl : Clauses X (h1 :: hds) l) : PS X (.Try body (h1 :: hds) [] [] pos) (fun D σ H => tb (wClauses X.K Wout D l) D σ H) := by
  constructor
  intro pins s σ H D I h
  have ok := I.ok
  have frames : X.A.frames = some (X.env :: X.outer) := by
    rw [ok.frames, hs]
  apply wpAny_Try_except
  refine wpAny_mono ((hb (wClauses X.K Wout D l) (X.pn ++ pins) (fun e z1 => wpAny (model X.prog X.w) X.A (noteFrame e X.env) (fun _ z2 => wpAny (model X.prog X.w) X.A (setFlight e none) (fun _ z3 =>
    wpAny (model X.prog X.w) X.A (handleBy e X.env (h1 :: hds)) (SP X pins D) X.xe z3) X.xe z2) X.xe z1) ?_ PassesOwn.looking).run [] s σ H D (I.toTry _) h) ?_ (fun _ _ z => z)
  · rintro u s' ⟨a, G, sI, pins', σ1, Ha, cls, d, rfl, Jt, apart, up, sky, na, os, ag, wish⟩
    have J : Inv X pins σ1 Ha sI := Jt.ofTry ok
    rw [show (X.tr (X.pn ++ pins) _).stack = X.stack from rfl, hs] at sky
    show wpAny (model X.prog X.w) X.A (noteFrame (.ref a) X.env) _ _ _
    apply Sky.land Zc.steady frames hf sky
    intro hp fly upp
    have Jh : Inv X pins σ1 Ha { s' with heap := hp } := J.landed apart fly.1 (up.trans upp) os ag
    obtain ⟨oe, fv, here, hz, hd⟩ := fly.there
    have noFrame : a ∉ frs (X.env :: X.outer) := by
      intro m
      obtain ⟨_, o', e', nf⟩ := fly.2.2.1.mem m
      rw [here] at e'
      cases e'
      exact nf _ hd
    have offL : a ≠ X.env.locals := by
      intro z
      apply noFrame
      apply List.mem_filterMap.mpr
      exact ⟨X.env, List.mem_cons_self, by rw [hf, z]⟩
    have offF : a ∉ X.fs := by
      intro m
      obtain ⟨e, he, q⟩ := List.mem_filterMap.mp m
      exact noFrame (List.mem_filterMap.mpr ⟨e, List.mem_cons_of_mem _ he, q⟩)
    have Js := Jh.suite here hd na offL offF
    have all : ∀ {hds' : List ExceptHandler} {l' : List (Value × Nat × (Addr → Value → Option Addr → TS))}, Clauses X hds' l' → wClauses X.K Wout D l' cls d σ1 Ha → wpAny (model X.prog X.w) X.A (handleBy (.ref a) X.env hds') (SP X pins D) X.xe { s' with heap := hp } := by
      intro hds' l' c
      induction c with
      | nil =>
        intro wish
        apply wpAny_handleBy_nil
        obtain ⟨_, _, _, _, _, T, _, _, there, _, dd, one, _⟩ := id fly
        unfold PySem.passOn
        apply wpAny_bind
        apply wpAny_field there dd one
        rw [if_neg (show ¬ ((Value.ref T == Value.none) = true) by simp)]
        have fin : wpAny (model X.prog X.w) X.A (setFlight (.ref a) X.env.frame) (fun _ z => wpAny (model X.prog X.w) X.A (throw (.ref a) : Sem Flow) (SP X pins D) X.xe z) X.xe { s' with heap := hp } := by
          rw [hf]
          apply HandSPX.setFlight_upZ fly
          intro h4 held upq
          apply wpAny_throw
          apply tk
          exact ⟨a, G, sI, pins, σ1, Ha, cls, d, rfl, J, apart, (up.trans upp).trans upq, .inr (.inr (by rw [hs]; exact held)), na, os, ag, wish⟩
        first
          | exact wpAny_bind (wpAny_pure (wpAny_bind fin))
          | exact wpAny_bind fin
      | @cons x n c i ts first more np hpos hds2 l2 names slot loc suite rest ih =>
        rintro ⟨b, ask, yes, no⟩
        apply wpAny_handleBy_cons _ (by intro q; cases q)
        apply codeAny_handlers_test
        have looks : PySem.W.Looks (model X.prog X.w) hp (typeOf (.ref a)) cls := fun A Q E z k q => wpAny_typeOf_ref (k _ _ here) (by rw [hz.1]; exact q)
        have named : ∀ {Q : Value → Shared → Prop} {E : Value → Shared → Prop}, Q c { s' with heap := hp } → wpAny (model X.prog X.w) (X.A.mark (some (.ref a))) (eval (.Name x np) X.env) Q E { s' with heap := hp } := by
          intro Q E q
          obtain ⟨hg, hdb, hm | ⟨hm, hv, hnn⟩⟩ := names
          · exact ld_glob (X := X.suite a ((a, oe) :: (X.pn ++ pins))) Js hg hm q hdb
          · exact ld_blt (X := X.suite a ((a, oe) :: (X.pn ++ pins))) Js hg hm hv q hnn hdb
        apply named
        apply (PySem.W.exm_one (M := model X.prog X.w) Jh.kIn looks ask).here
        cases b with
        | false => exact ih (no rfl)
        | true =>
          apply codeAny_handlers_suite_as
          apply HandSPX.lands_againZ fly
          intro h4 fly4 up4
          have J4 : Inv X pins σ1 Ha { s' with heap := h4 } := J.landed apart fly4.1 ((up.trans upp).trans up4) os ag
          obtain ⟨oe4, fv4, here4, hz4, hd4⟩ := fly4.there
          have S4 := J4.suite here4 hd4 na offL offF
          refine store_ok (X := X.suite a ((a, oe4) :: (X.pn ++ pins))) (v := .ref a) S4 hN slot (.inl loc) rfl ?_ (.inr loc)
          intro s5 S5
          have fin : ∀ {σ6 : L2.St} {H6 : Hp} {s6 : Shared} {Q : Shared → Prop}, Inv (X.suite a ((a, oe4) :: (X.pn ++ pins))) [] σ6 H6 s6 → (∀ s7, Inv X pins (σ6.set i none) H6 s7 → Q s7) →
              wpAny (model X.prog X.w) X.A (do bindName X.env n .none; unbindBehindTheSuite X.env n hpos) (fun _ s7 => Q s7) X.xe s6 := fun S6 hq => gone_ok (S6.unsuite ok) hN slot loc hq
          refine wpAny_mono ((suite a oe4 cls d (X.pn ++ pins) hz4 ⟨_, hd4⟩).run [] s5 _ Ha _ S5 (yes rfl a na)) ?_ (fun _ _ z => False.elim z)
          intro f s6 out
          cases f with
          | next =>
            obtain ⟨_, _, S6, q⟩ := out
            exact fin S6 fun _ J7 => ⟨_, _, J7, q⟩
          | brk =>
            obtain ⟨_, _, S6, q⟩ := out
            exact fin S6 fun _ J7 => ⟨_, _, J7, q⟩
          | cont =>
            obtain ⟨_, _, S6, q⟩ := out
            exact fin S6 fun _ J7 => ⟨_, _, J7, q⟩
          | ret u =>
            obtain ⟨_, _, _, S6, rv, q⟩ := out
            exact fin S6 fun _ J7 => ⟨_, _, _, J7, rv, q⟩
    exact all cl wish
  · intro f s1 out
    cases f with
    | next =>
      obtain ⟨_, _, Jt, q⟩ := out
      exact wpAny_execs_nil ⟨_, _, Jt.ofTry ok, q⟩
    | brk =>
      obtain ⟨_, _, Jt, q⟩ := out
      exact ⟨_, _, Jt.ofTry ok, q⟩
    | cont =>
      obtain ⟨_, _, Jt, q⟩ := out
      exact ⟨_, _, Jt.ofTry ok, q⟩
    | ret u =>
      obtain ⟨_, _, _, Jt, rv, q⟩ := out
      exact ⟨_, _, _, Jt.ofTry ok, rv, q⟩
end
/-- isinstance(e, c) of the error that a clause holds -/
def rIsC (K : PySem.W.Frag) (cls : Value) (d : Option Addr) (a : Addr) : List V → Hp → VK → Prop := fun xs H Q => match xs with
  | [.ref a', .ref c] => ∃ (C dd : Addr) (fs : List (Str × V)) (b : Bool), a' = a ∧ cls = .ref C ∧ d = some dd ∧ H dd = some (.xd fs) ∧ Es K C ∧ PySem.W.kitOne K (.ref C) (.ref c) = some b ∧ Q (.bl b) H
  | _ => False
theorem c_isC {X : Cx} {a : Addr} {oe : Obj} {cls : Value} {d : Option Addr} {pn : List (Addr × Obj)} (hz : Zc cls d oe) (hf : ∃ vs, oe.data = .fields vs) : CallR (X.suite a ((a, oe) :: pn)) (.builtin "isinstance") (rIsC X.K cls d a) := by
  intro pins s σ H xs us Q I r h
  unfold rIsC at h
  split at h
  · rename_i a' c
    obtain ⟨C, dd, fs, b, rfl, rfl, rfl, hx, S, ask, q⟩ := h
    cases r with
    | cons r1 rr =>
      cases rr with
      | cons r2 rr =>
        cases rr
        cases r1
        cases r2
        obtain ⟨here, _⟩ := I.pin (a', oe) (List.mem_append.mpr (.inl List.mem_cons_self))
        obtain ⟨vs, hd⟩ := hf
        obtain ⟨mA, ns, _⟩ := (show ObjOk X.prog X.w H s.heap dd (.xd fs) from I.hok dd _ hx)
        obtain ⟨od, ho, _⟩ := lookIn_ns ns
        have J : PySem.W.InstAt s.heap a' oe C (some od) := ⟨here, hz.1, by unfold PySem.W.notCls; rw [hd] <;> rfl, by rw [hz.2]; exact ho⟩
        have cl : (PySem.W.clsIn X.K C).isSome = true := by
          obtain ⟨cd, hc, _⟩ := PySem.W.any_some S.xf.hdC
          rw [hc]
          rfl
        exact PySem.W.kia_one (PySem.W.kitx_exc cl S.xf.ga S.xf.gg S.xf.exC S.ha S.hn S.ht S.hm) I.kIn J ask (fun z => nomatch z) fun tk => ⟨.bl b, H, I.tok _, rfl, q⟩
  · exact h.elim
theorem k_isC {X : Cx} (K : PySem.W.Frag) {a : Addr} {oe : Obj} {cls : Value} {d : Option Addr} {pn : List (Addr × Obj)} (hz : Zc cls d oe) (hf : ∃ vs, oe.data = .fields vs) (hK : X.K = K := by rfl) : CallR (X.suite a ((a, oe) :: pn)) (.builtin "isinstance") (rIsC K cls d a) := hK ▸ c_isC hz hf
/-- the class of that name at the top -/
def clsAt (K : PySem.W.Frag) (x : Str) (C : Addr) : Prop := PySem.W.nsIn K mainGlobals x = some (some (.ref C))
theorem clsAt.one {K : PySem.W.Frag} {x : Str} {C D : Addr} (a : clsAt K x C) (b : clsAt K x D) : C = D := by
  unfold clsAt at a b
  rw [a] at b
  cases b
  rfl
/-- what is asked of the base whose __init__ is called by its name -/
structure BaseC (K : PySem.W.Frag) (B : Addr) : Prop where
  ex : ∃ mc, PySem.W.specialIn K (.ref B) "__getattribute__" = some (some (.builtin "type.__getattribute__")) ∧ PySem.W.readsIn K B mc = true ∧ PySem.W.findCls K (.ref B) mc "__init__" = some (.val (.builtin "Exception.__init__"))
/-- an error of the class x with this field leaves -/
def Rz (K : PySem.W.Frag) (x f : Str) (v : V) (H : Hp) (E : XK) : Prop := ∀ C d H2, clsAt K x C → Same H H2 → H2 d = some (.xd [(f, v)]) → E (.ref C) (some d) H2
theorem Rz.go {K : PySem.W.Frag} {x f : Str} {v : V} {H H1 H2 : Hp} {E : XK} {C d : Addr} (h : Rz K x f v H E) (c : clsAt K x C) (s : Same H H1) (n : Nw H1 d (.xd [(f, v)]) H2) : E (.ref C) (some d) H2 := h C d H2 c (s.trans n.same) n.here
/-- a list some times over -/
def zRepL : R2 := fun x y H Q => match x, y with
  | .ref l, .int k => ∃ xs, H l = some (.lst xs) ∧ -(2 ^ 63) ≤ k ∧ k < 2 ^ 63 ∧ xs.length * k.toNat ≤ sizeLine ∧ ∀ p H2, Nw H p (.lst (List.replicate k.toNat xs).flatten) H2 → Q (.ref p) H2
  | _, _ => False
theorem o_repL {X : Cx} : OpR X (binaryOp .Mult) zRepL := by
  intro pins s σ H x y v u Q I rx ry h
  unfold zRepL at h
  split at h
  · obtain ⟨xs, h1, h2, h3, h4, q⟩ := h
    exact op_rep pins s σ H _ _ v u Q I rx ry ⟨_, _, xs, rfl, rfl, h1, h2, h3, h4, fun p hp => q p _ (nw hp)⟩
  · exact h.elim
/-- what stands in a class -/
def clsB : Stmt → List Stmt
  | .ClassDef (body := inside) .. => inside
  | _ => []
theorem ct0 {P : Program} {w : World} {K : PySem.W.Frag} {mg : Str → Option Value} {base : Heap} {x : Str} {st : Stmt} {N : List Str} {k : Nat} {p : Hp → VK → XK → Prop} (D : Df K mg x st []) (S : FnScope N [] (defScope st))
    (body : ∀ (f : Addr) (cdv : Value) (A : Around) (outer : List Env) (s : Shared) (H : Hp) (Q : VK) (E : XK), Room k (A.deeper (envOfC x (defScope st) s.heap.objs.size f cdv)) → p H Q E →
      ∃ t, PSs (cxOf CX0 P w K mg base N x (defScope st) f cdv A outer s H E).nox (defBody st) t ∧ t { nx := fun _ H' => Q .non H', rt := Q } (start N []) H) : Ct P w K mg base CX0 (k + 1) x [] (fun vs H Q E => vs = [] ∧ p H Q E) := by
  obtain ⟨f, fd, F, hm, hb⟩ := D.ex
  refine ⟨f, fd, hm, F.kp, hb, F.ok S ?_ ?_, fun_at F⟩
  · intro vs H Q E h
    rw [h.1]
    rfl
  · intro cdv A outer s H vs Q E hr h
    obtain ⟨rfl, h⟩ := h
    exact body f cdv A outer s H Q E hr h
/-- d[k] = v -/
def zSetD : V → V → V → Hp → (Hp → Prop) → Prop := fun o i v H Q => match o with
  | .ref a => ∃ kvs k, H a = some (.dK kvs) ∧ i = kV k ∧ kvs.length < sizeLine ∧ ∀ H2, Wr H a (.dK (putK kvs k v)) H2 → Q H2
  | _ => False
theorem s_dict {X : Cx} (hu : X.A.units + 1 < cLine) : PSet X zSetD := by
  intro pins s σ H o i v ov iv u Q I ro ri rv h
  unfold zSetD at h
  split at h
  · obtain ⟨kvs, k, ea, rfl, hl, q⟩ := h
    cases ro
    exact d_setItem hu I (DPut.k ea hl) ri rv fun s' J => ⟨_, J, q _ wr⟩
  · exact h.elim
/-- range(a, b) -/
def tRng2 (ta : TA) : TI := fun σ H R => ta σ H fun vs H1 => match vs with
  | [.int i, .int j] => -(2 ^ 62) ≤ i ∧ i < 2 ^ 62 ∧ -(2 ^ 62) ≤ j ∧ j < 2 ^ 62 ∧ R (Itr i (j - i).toNat) H1
  | _ => False
theorem pi_rng2 {X : Cx} {tg a b : Expr} {ta : TA} {p pos : Pos} (hg : Gl X "range") (hm : X.mg "range" = none) (ha : PA X [a, b] ta) (hs : starEach [a, b] X.env = [(false, eval a X.env), (false, eval b X.env)] := by rfl) (hs2 : starEach [b] X.env = [(false, eval b X.env)] := by rfl) :
    PI X tg (.Call (.Name "range" p) [a, b] [] pos) (tRng2 ta) :=
  pi_w (pi_range2 hg hm (pa_mon ha) hs hs2) fun σ H R h => ⟨_, h, fun vs H1 h1 => by
    split at h1
    · obtain ⟨a1, a2, a3, a4, q⟩ := h1
      exact ⟨_, _, rfl, ⟨a1, a2, a3, a4⟩, q⟩
    · exact h1.elim⟩
/-! ### lists that may be shown beside a dict: they do not lie where the modules do -/
def zAddS (K : PySem.W.Frag) : R2 := fun x y H Q => match x, y with
  | .ref l, .ref b => ∃ xs zs, H l = some (.lst xs) ∧ H b = some (.lst zs) ∧ xs.length + zs.length ≤ sizeLine ∧ ∀ p H2, Nw H p (.lst (xs ++ zs)) H2 → p ≠ sysModules → Q (.ref p) H2
  | x, y => zAdd K x y H Q
theorem o_addS {X : Cx} : OpR X (binaryOp .Add) (zAddS X.K) := by
  intro pins s σ H x y v u Q I rx ry h
  unfold zAddS at h
  split at h
  · rename_i l b
    obtain ⟨xs, zs, h1, h2, hz, q⟩ := h
    cases rx
    cases ry
    obtain ⟨z1, its, n, r, hl, e⟩ := I.lstM h1
    obtain ⟨z2, its2, n2, r2, hl2, e2⟩ := I.lstM h2
    refine PySem.P.add_list e e2 ?_ (by rw [List.size_toArray, List.size_toArray]; omega)
    rw [show its.toArray ++ its2.toArray = (its ++ its2).toArray by simp]
    exact ⟨.ref _, _, I.lnew (t' := s.toks) (r.append r2) (by rw [List.length_append]; omega), rfl, q _ _ (nw I.fresh) (Nat.ne_of_gt I.big)⟩
  · exact o_add pins s σ H _ _ v u Q I rx ry h
theorem k_addS {X : Cx} (K : PySem.W.Frag) (hK : X.K = K := by rfl) : OpR X (binaryOp .Add) (zAddS K) := hK ▸ o_addS
def zListS (K : PySem.W.Frag) : List V → Hp → VK → Prop := fun vs H Q => match vs with
  | [.ref p] => ∃ ys, (SqL K H p ys ∨ SqT K H p ys) ∧ ∀ l H2, Nw H l (.lst ys) H2 → l ≠ sysModules → Q (.ref l) H2
  | _ => False
theorem c_listS {X : Cx} : CallR X (.type "list") (zListS X.K) := by
  intro pins s σ H xs us Q I r h
  unfold zListS at h
  split at h
  · rename_i p
    obtain ⟨ys, hq, q⟩ := h
    obtain ⟨u, rfl, ru⟩ := vals1 r
    cases ru
    have put : ∀ (its : List Value), Vals ys its → ys.length ≤ sizeLine → ∀ (h' : Heap) (n : Nat), (∀ b o, s.heap.get? b = some o → h'.get? b = some o) →
        h'.get? s.heap.objs.size = some { cls := .type "list", dict := none, data := .seq its.toArray n, slots := #[] } → EP X pins σ Q (.ref s.heap.objs.size) { s with heap := h' } := by
      intro its rv hz h' n kp e
      exact ⟨.ref _, _, I.laid (t' := s.toks) kp (Nat.le_refl _) (show ObjOk X.prog X.w _ h' _ (.lst ys) from ⟨hz, its, n, rv, e⟩), rfl, q _ _ (nw (I.hok.fresh (Nat.le_refl _))) (Nat.ne_of_gt I.big)⟩
    rcases hq with hq | hq
    · obtain ⟨its, rv, pl, hz⟩ := I.list hq
      have ll := rv.length
      obtain ⟨o, ho, hc, n, hd⟩ := pl.isList
      refine call_list_seq p (.inl rfl) ho hc hd (fun h' n' kp e => put its rv hz h' n' kp e) ?_
      simp only [List.size_toArray] <;> omega
    · obtain ⟨its, rv, ⟨o, ho, hc, n, hd⟩, hz⟩ := I.tuple hq
      have ll := rv.length
      refine call_list_seq p (.inr rfl) ho hc hd (fun h' n' kp e => put its rv hz h' n' kp e) ?_
      simp only [List.size_toArray] <;> omega
  · exact h.elim
theorem k_listS {X : Cx} (K : PySem.W.Frag) (hK : X.K = K := by rfl) : CallR X (.type "list") (zListS K) := hK ▸ c_listS
/-- isinstance of an error, by what the classes say of each other -/
theorem kit_sub {K : PySem.W.Frag} {C D : Addr} {b : Bool} (h : PySem.W.subIn K (.ref C) (.ref D) = some b) (self : PySem.W.subIn K (.ref C) (.ref C) = some true) (hd : PySem.W.hasDictIn K D = true) (ty : PySem.W.typeIn K (.ref D) = some (.type "type")) : PySem.W.kitOne K (.ref C) (.ref D) = some b := by
  unfold PySem.W.kitOne
  split
  · rename_i e
    have e : C = D := Value.ref.inj (eq_of_beq e)
    subst e
    rw [self] at h
    exact h
  · obtain ⟨cd, hc, _⟩ := PySem.W.any_some hd
    have e2 : ((PySem.W.clsIn K D).isSome && PySem.W.typeIn K (.ref D) == some (.type "type")) = true := by rw [hc, ty] <;> rfl
    show (if ((PySem.W.clsIn K D).isSome && PySem.W.typeIn K (.ref D) == some (.type "type")) = true then PySem.W.subIn K (.ref C) (.ref D) else none) = some b
    rw [if_pos e2]
    exact h
end Z

/-! M9: texts as lists of codes: signs, frames, their reading. -/
namespace M9
open PySem PySem.Spec PyProof.Rows L2 Z SX PySem.NumText

/-! ### signs -/
def Pr (l : List Nat) : Prop := ∀ c ∈ l, 32 ≤ c ∧ c ≤ 126
theorem pr_nil : Pr [] := fun _ h => by cases h
theorem pr_cons {c : Nat} {l : List Nat} (h : 32 ≤ c ∧ c ≤ 126) (t : Pr l) : Pr (c :: l) := fun d hd => by
  rcases List.mem_cons.mp hd with rfl | hd
  · exact h
  · exact t d hd
theorem pr_app {l m : List Nat} (a : Pr l) (b : Pr m) : Pr (l ++ m) := fun c hc => (List.mem_append.mp hc).elim (a c) (b c)
theorem pr_take {l : List Nat} (n : Nat) (a : Pr l) : Pr (l.take n) := fun c hc => a c (List.mem_of_mem_take hc)
theorem pr_drop {l : List Nat} (n : Nat) (a : Pr l) : Pr (l.drop n) := fun c hc => a c (List.mem_of_mem_drop hc)
theorem pr_rep {l : List Nat} (n : Nat) (a : Pr l) : Pr (List.replicate n l).flatten := fun c hc => by
  obtain ⟨m, hm, hc⟩ := List.mem_flatten.mp hc
  rw [(List.mem_replicate.mp hm).2] at hc
  exact a c hc
theorem pr_flat {ls : List (List Nat)} (a : ∀ l ∈ ls, Pr l) : Pr ls.flatten := fun c hc => by
  obtain ⟨m, hm, hc⟩ := List.mem_flatten.mp hc
  exact a m hm c hc
theorem pr_of {l : List Nat} (h : (l.all fun c => decide (32 ≤ c) && decide (c ≤ 126)) = true) : Pr l := fun c hc => by
  have q := (List.all_eq_true.mp h) c hc
  simpa using q
theorem printable_all : ∀ c : _root_.Fin 127, 32 ≤ c.val → Unicode.isPrintable c.val = true := by decide +kernel
theorem isascii_S {l : List Nat} (h : Pr l) : Txt.isascii (S l) = true := by
  show (l.toArray.all fun c => decide (c < 128)) = true
  rw [← Array.all_toList, List.all_eq_true]
  intro c hc
  have := h c (by simpa using hc)
  exact decide_eq_true (by omega)
theorem isprintable_S {l : List Nat} (h : Pr l) : Txt.isprintable (S l) = true := by
  show (l.toArray.all Unicode.isPrintable) = true
  rw [← Array.all_toList, List.all_eq_true]
  intro c hc
  have q := h c (by simpa using hc)
  exact printable_all ⟨c, by omega⟩ q.1
theorem S_lit {s : Str} {l : List Nat} (h : s.cps.toList = l) : s = S l := by
  rw [← h]
theorem length_S (l : List Nat) : (S l).length = l.length := S_len l
theorem cps_S (l : List Nat) : (S l).cps.toList = l := by simp [S]
theorem cut_S (l : List Nat) (lo hi : Option Int) : cutS (S l) lo hi = S ((l.drop (HT.sIx l.length 0 lo)).take (HT.sIx l.length l.length hi - HT.sIx l.length 0 lo)) := by
  unfold cutS
  rw [length_S]
theorem sIx_pos {n d : Nat} {i : Int} (h : 0 ≤ i) : HT.sIx n d (some i) = min i.toNat n := by
  show (if i < 0 then (i + (n : Int)).toNat else min i.toNat n) = min i.toNat n
  rw [if_neg (by omega)]
/-- l[a:b] for counts -/
theorem cut_nn {l : List Nat} {a b : Nat} : cutS (S l) (some (a : Int)) (some (b : Int)) = S ((l.drop a).take (b - a)) := by
  rw [cut_S, sIx_pos (by omega), sIx_pos (by omega), Int.toNat_natCast, Int.toNat_natCast]
  congr 1
  rcases Nat.le_total a l.length with h | h
  · rw [Nat.min_eq_left h]
    rcases Nat.le_total b l.length with h2 | h2
    · rw [Nat.min_eq_left h2]
    · rw [Nat.min_eq_right h2, List.take_of_length_le (by rw [List.length_drop]; omega), List.take_of_length_le (by rw [List.length_drop]; omega)]
  · rw [Nat.min_eq_right h, List.drop_of_length_le (Nat.le_refl _), List.drop_of_length_le h]
    simp
theorem cut_n {l : List Nat} {b : Nat} : cutS (S l) none (some (b : Int)) = S (l.take b) := by
  rw [cut_S, sIx_pos (by omega), Int.toNat_natCast]
  show S ((l.drop 0).take (min b l.length - 0)) = S (l.take b)
  rw [List.drop_zero, Nat.sub_zero]
  rcases Nat.le_total b l.length with h | h
  · rw [Nat.min_eq_left h]
  · rw [Nat.min_eq_right h, List.take_of_length_le (Nat.le_refl _), List.take_of_length_le h]
theorem cut_from {l : List Nat} {a : Nat} : cutS (S l) (some (a : Int)) none = S (l.drop a) := by
  rw [cut_S, sIx_pos (by omega), Int.toNat_natCast]
  show S ((l.drop (min a l.length)).take (l.length - min a l.length)) = S (l.drop a)
  rcases Nat.le_total a l.length with h | h
  · rw [Nat.min_eq_left h, List.take_of_length_le (by rw [List.length_drop]; omega)]
  · rw [Nat.min_eq_right h, List.drop_of_length_le (Nat.le_refl _), List.drop_of_length_le h]
    simp
theorem rep_S (l : List Nat) (n : Int) : rep (S l) n = S (List.replicate n.toNat l).flatten := by
  unfold rep
  rw [cps_S]
theorem rep_one (c : Nat) (n : Nat) : (List.replicate n [c]).flatten = List.replicate n c := by
  induction n with
  | zero => rfl
  | succ n ih => rw [List.replicate_succ, List.flatten_cons, ih]; rfl
theorem joinL_nil (ls : List (List Nat)) : TL.joinL [] ls = ls.flatten := by
  induction ls with
  | nil => rfl
  | cons a r ih =>
    cases r with
    | nil => simp [TL.joinL]
    | cons b r => rw [TL.joinL, ih]; simp
theorem join_flat {e : Str} (he : e = S []) (ls : List (List Nat)) : Txt.join e (ls.map S) = S ls.flatten := by
  rw [he, join_S, joinL_nil]

/-! ### frames -/
def frL (l : List Nat) : List Nat := List.replicate (5 - (TL.numL l.length).length) 48 ++ TL.numL l.length ++ [58] ++ l ++ [59]
theorem numL5 {n : Nat} (h : n < 100000) : (TL.numL n).length ≤ 5 ∧ 1 ≤ (TL.numL n).length := by
  refine ⟨TL.numL_len (by decide) (by simpa using h), ?_⟩
  rcases Nat.eq_zero_or_pos (TL.numL n).length with e | e
  · exact absurd (List.length_eq_zero_iff.mp e) (TL.numL_ne n)
  · exact e
theorem frL_len {l : List Nat} (h : l.length < 100000) : (frL l).length = l.length + 7 := by
  obtain ⟨h1, h2⟩ := numL5 h
  unfold frL
  simp only [List.length_append, List.length_replicate, List.length_singleton]
  omega
theorem numL_pr (n : Nat) : Pr (TL.numL n) := fun c hc => by
  have := TL.numL_digits n c hc
  omega
theorem frL_pr {l : List Nat} (h : Pr l) : Pr (frL l) := by
  unfold frL
  refine pr_app (pr_app (pr_app (pr_app (fun c hc => ?_) (numL_pr _)) (pr_of (by decide))) h) (pr_of (by decide))
  rw [(List.mem_replicate.mp hc).2]
  omega
/-- str(n).zfill(5) -/
theorem zfill_S {n : Nat} (h : n < 100000) : Txt.zfill (S (TL.numL n)) 5 = S (List.replicate (5 - (TL.numL n).length) 48 ++ TL.numL n) := by
  obtain ⟨h1, h2⟩ := numL5 h
  unfold Txt.zfill
  rw [length_S]
  by_cases h5 : (TL.numL n).length = 5
  · rw [if_pos (by omega), h5]
    rfl
  · rw [if_neg (by omega)]
    have e : (5 : Int).toNat - (TL.numL n).length = 5 - (TL.numL n).length := rfl
    rw [e]
    obtain ⟨c, r, hc⟩ : ∃ c r, TL.numL n = c :: r := by
      cases q : TL.numL n with
      | nil => exact absurd q (TL.numL_ne n)
      | cons c r => exact ⟨c, r, rfl⟩
    have hd := TL.numL_digits n c (by rw [hc]; exact List.mem_cons_self)
    unfold zfilled
    have e0 : (S (TL.numL n)).cps[0]? = some c := by
      rw [hc]
      simp [S]
    rw [e0]
    have pad : Builtin.Str.padded (S (TL.numL n)) (5 - (TL.numL n).length) 0 48 = S (List.replicate (5 - (TL.numL n).length) 48 ++ TL.numL n) := by
      unfold Builtin.Str.padded
      simp [S]
    split
    · rename_i q; cases q; omega
    · rename_i q; cases q; omega
    · exact pad

/-! ### reading frames -/
def digs (l : List Nat) : Bool := l.all fun c => decide (48 ≤ c) && decide (c ≤ 57)
/-- the number of a head -/
def headN (h : List Nat) : Option Nat := if h.length < 6 ∨ h[5]? ≠ some 58 ∨ digs (h.take 5) = false then none else some (digitsVal (h.take 5))
/-- the end of the frame that begins at i -/
def fEnd (l : List Nat) (i : Nat) : Option Nat := match headN ((l.drop i).take 6) with
  | none => none
  | some n => if n ≤ 80000 ∧ (l.drop (i + 6 + n)).take 1 = [59] then some (i + 6 + n + 1) else none
theorem take1 {l : List Nat} {i c : Nat} (h : (l.drop i).take 1 = [c]) : i < l.length ∧ l[i]? = some c := by
  have hl : i < l.length := by
    rcases Nat.lt_or_ge i l.length with q | q
    · exact q
    · rw [List.drop_of_length_le q] at h
      cases h
  rw [List.drop_eq_getElem_cons hl] at h
  have h2 : [l[i]] = [c] := h
  refine ⟨hl, ?_⟩
  rw [List.getElem?_eq_getElem hl]
  cases h2
  rfl
theorem fEnd_bounds {l : List Nat} {i e : Nat} (h : fEnd l i = some e) : i + 7 ≤ e ∧ e ≤ l.length := by
  unfold fEnd at h
  split at h
  · cases h
  · split at h
    · rename_i q
      cases h
      obtain ⟨h1, _⟩ := take1 q.2
      omega
    · cases h
def scan : Nat → List Nat → Nat → List (List Nat) × Nat
  | 0, _, i => ([], i)
  | f + 1, l, i => match fEnd l i with
    | none => ([], i)
    | some e => ((l.drop (i + 6)).take (e - 1 - (i + 6)) :: (scan f l e).1, (scan f l e).2)
theorem scan_stable : ∀ (f f' : Nat) (l : List Nat) (i : Nat), l.length + 1 ≤ i + f → l.length + 1 ≤ i + f' → scan f l i = scan f' l i
  | 0, 0, _, _, _, _ => rfl
  | 0, f' + 1, l, i, h, _ => by
    unfold scan
    cases q : fEnd l i with
    | none => rfl
    | some e => have := fEnd_bounds q; omega
  | f + 1, 0, l, i, _, h => by
    unfold scan
    cases q : fEnd l i with
    | none => rfl
    | some e => have := fEnd_bounds q; omega
  | f + 1, f' + 1, l, i, h, h' => by
    unfold scan
    cases q : fEnd l i with
    | none => rfl
    | some e =>
      have := fEnd_bounds q
      simp only
      rw [scan_stable f f' l e (by omega) (by omega)]
/-- the frames from i on -/
def sc (l : List Nat) (i : Nat) : List (List Nat) × Nat := scan (l.length + 1) l i
theorem sc_none {l : List Nat} {i : Nat} (h : fEnd l i = none) : sc l i = ([], i) := by
  unfold sc scan
  rw [h]
theorem sc_some {l : List Nat} {i e : Nat} (h : fEnd l i = some e) : sc l i = ((l.drop (i + 6)).take (e - 1 - (i + 6)) :: (sc l e).1, (sc l e).2) := by
  have b := fEnd_bounds h
  have e1 : scan l.length l e = scan (l.length + 1) l e := scan_stable _ _ _ _ (by omega) (by omega)
  show scan (l.length + 1) l i = _
  rw [scan, h]
  simp only
  rw [e1]
  rfl
theorem sc_le : ∀ (f : Nat) (l : List Nat) (i : Nat), i ≤ l.length → i ≤ (scan f l i).2 ∧ (scan f l i).2 ≤ l.length ∧ (scan f l i).1.length * 7 + i ≤ (scan f l i).2
  | 0, l, i, h => ⟨Nat.le_refl _, h, by simp [scan]⟩
  | f + 1, l, i, h => by
    unfold scan
    cases q : fEnd l i with
    | none => exact ⟨Nat.le_refl _, h, by simp⟩
    | some e =>
      have b := fEnd_bounds q
      have r := sc_le f l e b.2
      refine ⟨by simp only; omega, r.2.1, ?_⟩
      simp only [List.length_cons]
      omega
theorem sc_bounds {l : List Nat} {i : Nat} (h : i ≤ l.length) : i ≤ (sc l i).2 ∧ (sc l i).2 ≤ l.length ∧ (sc l i).1.length * 7 + i ≤ (sc l i).2 := sc_le _ l i h
theorem digitsVal_lt : ∀ (l : List Nat), digs l = true → digitsVal l < 10 ^ l.length := by
  intro l
  have gen : ∀ (l : List Nat) (a k : Nat), digs l = true → a < 10 ^ k → l.foldl (fun acc c => acc * 10 + (c - 48)) a < 10 ^ (k + l.length) := by
    intro l
    induction l with
    | nil => intro a k _ h; exact h
    | cons c r ih =>
      intro a k hd h
      have hd' : (decide (48 ≤ c) && decide (c ≤ 57) && digs r) = true := hd
      simp only [Bool.and_eq_true, decide_eq_true_eq] at hd'
      rw [List.foldl_cons, List.length_cons]
      have q := ih (a * 10 + (c - 48)) (k + 1) hd'.2 (by rw [Nat.pow_succ]; omega)
      rw [show k + (r.length + 1) = k + 1 + r.length by omega]
      exact q
  intro h
  have q := gen l 0 0 h (by decide)
  simpa [digitsVal] using q
theorem intText_head {h : List Nat} (h5 : h.length = 5) (hd : digs h = true) : intText? (S h) = some ((digitsVal h : Nat) : Int) := int_S hd (fun e => by rw [e] at h5; cases h5) (by omega)

/-! ### texts as data -/
def strsV (ls : List (List Nat)) : List V := (ls.map S).map V.str
theorem strsV_len (ls : List (List Nat)) : (strsV ls).length = ls.length := by simp [strsV]
theorem strsV_app (ls : List (List Nat)) (l : List Nat) : strsV (ls ++ [l]) = strsV ls ++ [.str (S l)] := by simp [strsV]
theorem strsV_at {ls : List (List Nat)} {i : Nat} {x : V} (h : (strsV ls)[i]? = some x) : ∃ l, ls[i]? = some l ∧ x = .str (S l) ∧ l ∈ ls := by
  unfold strsV at h
  rw [List.getElem?_map, List.getElem?_map] at h
  cases e : ls[i]? with
  | none => rw [e] at h; cases h
  | some l =>
    rw [e] at h
    exact ⟨l, rfl, (Option.some.inj h).symm, List.mem_of_getElem? e⟩
def strsD (ls : List (List Nat)) : PyData := .list (ls.map fun l => .str (S l))
theorem dpAll_strs {K : PySem.W.Frag} {H : Hp} : ∀ ls : List (List Nat), DpAll K H (strsV ls) (ls.map fun l => .str (S l))
  | [] => .nil
  | l :: r => .cons (.str (S l)) (dpAll_strs r)
theorem dp_strs {K : PySem.W.Frag} {H : Hp} {a : Addr} {ls : List (List Nat)} (h : SqL K H a (strsV ls)) : Dp K H (.ref a) (strsD ls) := .lst h (dpAll_strs ls)
theorem strOk_S {l : List Nat} (h : Pr l) : PyData.strOk (S l) = true := by
  show (l.toArray.all fun c => decide (c < 0x110000)) = true
  rw [← Array.all_toList, List.all_eq_true]
  intro c hc
  have := h c (by simpa using hc)
  exact decide_eq_true (by omega)
theorem lay_strs : ∀ {ls : List (List Nat)}, (∀ l ∈ ls, Pr l) → PyData.canLayAll0 (ls.map fun l => .str (S l)) = true
  | [], _ => rfl
  | l :: r, h => by
    show (PyData.strOk (S l) && PyData.canLayAll0 (r.map fun l => .str (S l))) = true
    rw [strOk_S (h l List.mem_cons_self), lay_strs fun l hl => h l (List.mem_cons_of_mem _ hl)]
    rfl
theorem depth_strs : ∀ ls : List (List Nat), PyData.depthAll (ls.map fun l => .str (S l)) = 0
  | [] => rfl
  | l :: r => by
    show max 0 (PyData.depthAll (r.map fun l => .str (S l))) = 0
    rw [depth_strs r]
    rfl
theorem shaped_strs {ls : List (List Nat)} (h : ∀ l ∈ ls, Pr l) : SeqAt.shaped (strsD ls) = true := by
  show (PyData.canLayAll0 _ && decide (PyData.depthAll (ls.map fun l => .str (S l)) + 1 ≤ 64)) = true
  rw [lay_strs h, depth_strs]
  rfl
theorem shaped_pair {d : PyData} {i : Int} (h : SeqAt.shaped d = true) (hd : d.depth ≤ 10) : SeqAt.shaped (.tuple [d, .int i]) = true := by
  have h1 : (d.canLay0 && decide (d.depth ≤ 64)) = true := h
  rw [Bool.and_eq_true] at h1
  show ((d.canLay0 && true) && decide (max d.depth (max 0 0) + 1 ≤ 64)) = true
  rw [h1.1]
  simp
  omega
theorem depth_strsD (ls : List (List Nat)) : (strsD ls).depth = 1 := by
  show PyData.depthAll (ls.map fun l => .str (S l)) + 1 = 1
  rw [depth_strs]
theorem sc_pr {l : List Nat} (h : Pr l) : ∀ (f i : Nat), ∀ m ∈ (scan f l i).1, Pr m
  | 0, _, m, hm => by cases hm
  | f + 1, i, m, hm => by
    unfold scan at hm
    cases q : fEnd l i with
    | none => rw [q] at hm; cases hm
    | some e =>
      rw [q] at hm
      rcases List.mem_cons.mp hm with rfl | hm
      · exact pr_take _ (pr_drop _ h)
      · exact sc_pr h f e m hm
theorem eqv_self {d : PyData} (h : SeqAt.shaped d = true) : PyData.eqv d d = true := SeqAt.eqv_refl d (SeqAt.canLay_of_shaped h)
theorem eqv_nil (ds : List PyData) : PyData.eqv (.list ds) (.list []) = ds.isEmpty := by
  rw [PyData.eqv]
  cases ds <;> rfl
def isdig (c : Nat) : Bool := decide (48 ≤ c) && decide (c ≤ 57)
theorem digits_list : ("0123456789" : Str).cps.toList = [48, 49, 50, 51, 52, 53, 54, 55, 56, 57] := by decide +kernel
theorem dig_in (c : Nat) : decide (c ∈ ("0123456789" : Str).cps.toList) = isdig c := by
  rw [digits_list]
  unfold isdig
  rw [Bool.eq_iff_iff]
  simp only [decide_eq_true_eq, Bool.and_eq_true, List.mem_cons, List.not_mem_nil, or_false]
  omega
theorem digs_all (l : List Nat) : digs l = (l.map isdig).all id := by
  unfold digs
  rw [List.all_map]
  rfl
theorem signs_strs (cs : List Nat) : cs.map signV = strsV (cs.map fun c => [c]) := by
  unfold strsV
  rw [List.map_map, List.map_map]
  rfl
theorem pr_one {c : Nat} (h : 32 ≤ c ∧ c ≤ 126) : Pr [c] := pr_cons h pr_nil
theorem digs_filter : ∀ l : List Nat, digs l = (l.filter fun c => !isdig c).isEmpty
  | [] => rfl
  | c :: r => by
    show (isdig c && digs r) = _
    rw [digs_filter r, List.filter_cons]
    cases isdig c <;> rfl
end M9

/-! M11: what is read in a beginning of frames. -/
namespace M9
open PySem PySem.Spec PyProof.Rows L2 Z SX PySem.NumText

theorem digitsVal_zeros (k : Nat) (l : List Nat) : digitsVal (List.replicate k 48 ++ l) = digitsVal l := by
  unfold digitsVal
  rw [List.foldl_append]
  congr 1
  induction k with
  | zero => rfl
  | succ k ih => rw [List.replicate_succ, List.foldl_cons]; exact ih
def figs (n : Nat) : List Nat := List.replicate (5 - (TL.numL n).length) 48 ++ TL.numL n
theorem figs_len {n : Nat} (h : n < 100000) : (figs n).length = 5 := by
  obtain ⟨h1, h2⟩ := numL5 h
  unfold figs
  rw [List.length_append, List.length_replicate]
  omega
theorem figs_val (n : Nat) : digitsVal (figs n) = n := by
  unfold figs
  rw [digitsVal_zeros, TL.numL_val]
theorem figs_digs (n : Nat) : digs (figs n) = true := by
  unfold digs figs
  rw [List.all_eq_true]
  intro c hc
  rcases List.mem_append.mp hc with q | q
  · rw [(List.mem_replicate.mp q).2]
    rfl
  · have := TL.numL_digits n c q
    simpa using this
theorem frL_eq (m : List Nat) : frL m = figs m.length ++ (58 :: (m ++ [59])) := by
  unfold frL figs
  simp [List.append_assoc]
theorem head_fr {m rest : List Nat} (h : m.length ≤ 80000) : headN ((frL m ++ rest).take 6) = some m.length := by
  have h5 := figs_len (n := m.length) (by omega)
  have e : (frL m ++ rest).take 6 = figs m.length ++ [58] := by
    rw [frL_eq, List.append_assoc, List.take_append, h5, List.take_of_length_le (by omega)]
    rfl
  rw [e]
  unfold headN
  rw [if_neg, List.take_append_of_le_length (by omega), List.take_of_length_le (by omega), figs_val]
  rintro (z | z | z)
  · rw [List.length_append, h5] at z
    exact absurd z (by decide)
  · rw [List.getElem?_append_right (by omega), h5] at z
    exact z rfl
  · rw [List.take_append_of_le_length (by omega), List.take_of_length_le (by omega), figs_digs] at z
    cases z
theorem drop_fr {m rest : List Nat} (h : m.length ≤ 80000) : (frL m ++ rest).drop (6 + m.length) = 59 :: rest := by
  have h5 := figs_len (n := m.length) (by omega)
  rw [frL_eq]
  have e : figs m.length ++ (58 :: (m ++ [59])) ++ rest = (figs m.length ++ (58 :: m)) ++ (59 :: rest) := by simp [List.append_assoc]
  rw [e, List.drop_append_of_le_length (by rw [List.length_append, List.length_cons, h5]; omega), List.drop_of_length_le (by rw [List.length_append, List.length_cons, h5]; omega)]
  rfl
theorem body_fr {m rest : List Nat} (h : m.length ≤ 80000) : ((frL m ++ rest).drop 6).take m.length = m := by
  have h5 := figs_len (n := m.length) (by omega)
  rw [frL_eq]
  have e : figs m.length ++ (58 :: (m ++ [59])) ++ rest = (figs m.length ++ [58]) ++ (m ++ (59 :: rest)) := by simp [List.append_assoc]
  rw [e, List.drop_append_of_le_length (by rw [List.length_append, h5]; decide), List.drop_of_length_le (by rw [List.length_append, h5]; decide), List.nil_append, List.take_append_of_le_length (Nat.le_refl _), List.take_length]
theorem fEnd_fr {l m rest : List Nat} {i : Nat} (h : m.length ≤ 80000) (e : l.drop i = frL m ++ rest) : fEnd l i = some (i + m.length + 7) := by
  unfold fEnd
  rw [e, head_fr h]
  simp only
  have d : l.drop (i + 6 + m.length) = 59 :: rest := by
    rw [Nat.add_assoc, ← List.drop_drop, e, drop_fr h]
  rw [d, if_pos ⟨h, rfl⟩]
  congr 1
  omega
theorem fEnd_cut {l m rest : List Nat} {i k : Nat} (h : m.length ≤ 80000) (hk : k < m.length + 7) (e : l.drop i = (frL m ++ rest).take k) : fEnd l i = none := by
  unfold fEnd
  rw [e, List.take_take]
  rcases Nat.lt_or_ge k 6 with q | q
  · have hn : headN ((frL m ++ rest).take (min 6 k)) = none := by
      unfold headN
      rw [if_pos]
      refine .inl ?_
      rw [List.length_take]
      omega
    rw [hn]
  · rw [Nat.min_eq_left q, head_fr h]
    simp only
    have d : l.drop (i + 6 + m.length) = [] := by
      rw [Nat.add_assoc, ← List.drop_drop, e]
      refine List.drop_of_length_le ?_
      rw [List.length_take]
      omega
    rw [d, if_neg]
    rintro ⟨_, z⟩
    cases z
theorem fEnd_nil {l : List Nat} {i : Nat} (e : l.drop i = []) : fEnd l i = none := by
  unfold fEnd
  rw [e]
  rfl
/-- how many frames are whole among the first k signs -/
def cnt : List (List Nat) → Nat → Nat
  | [], _ => 0
  | m :: r, k => if m.length + 7 ≤ k then 1 + cnt r (k - (m.length + 7)) else 0
theorem cnt_le : ∀ (ls : List (List Nat)) (k : Nat), cnt ls k ≤ ls.length
  | [], _ => Nat.le_refl 0
  | m :: r, k => by
    unfold cnt
    have := cnt_le r (k - (m.length + 7))
    rw [List.length_cons]
    split <;> omega
def fl (ls : List (List Nat)) : List Nat := (ls.map frL).flatten
theorem fl_cons (m : List Nat) (r : List (List Nat)) : fl (m :: r) = frL m ++ fl r := by simp [fl]
theorem fl_app (a b : List (List Nat)) : fl (a ++ b) = fl a ++ fl b := by simp [fl]
theorem sc_cut : ∀ (ls : List (List Nat)) (l : List Nat) (i k : Nat), (∀ m ∈ ls, m.length ≤ 80000) → l.drop i = (fl ls).take k → sc l i = (ls.take (cnt ls k), i + (fl (ls.take (cnt ls k))).length)
  | [], l, i, k, _, e => by
    have e' : l.drop i = [] := by rw [e]; simp [fl]
    rw [sc_none (fEnd_nil e')]
    simp [fl]
  | m :: r, l, i, k, h, e => by
    have hm := h m List.mem_cons_self
    have lm := frL_len (l := m) (by omega)
    rw [fl_cons] at e
    unfold cnt
    by_cases hk : m.length + 7 ≤ k
    · rw [if_pos hk]
      have e1 : l.drop i = frL m ++ (fl r).take (k - (m.length + 7)) := by
        rw [e, List.take_append, lm, List.take_of_length_le (by omega)]
      have e2 : l.drop (i + m.length + 7) = (fl r).take (k - (m.length + 7)) := by
        rw [Nat.add_assoc, ← List.drop_drop, e1, List.drop_append_of_le_length (by omega), List.drop_of_length_le (by omega), List.nil_append]
      have ih := sc_cut r l (i + m.length + 7) (k - (m.length + 7)) (fun x hx => h x (List.mem_cons_of_mem _ hx)) e2
      rw [sc_some (fEnd_fr hm e1), ih]
      have e3 : (l.drop (i + 6)).take (i + m.length + 7 - 1 - (i + 6)) = m := by
        rw [← List.drop_drop, e1, show i + m.length + 7 - 1 - (i + 6) = m.length by omega, body_fr hm]
      rw [e3, Nat.add_comm 1, List.take_succ_cons, fl_cons, List.length_append, lm]
      simp only [Prod.mk.injEq, true_and]
      omega
    · rw [if_neg hk, sc_none (fEnd_cut hm (by omega) e)]
      simp [fl]
theorem cnt_full : ∀ (ls : List (List Nat)) (k : Nat), (∀ m ∈ ls, m.length ≤ 80000) → (fl ls).length ≤ k → cnt ls k = ls.length
  | [], _, _, _ => rfl
  | m :: r, k, h, hk => by
    have lm := frL_len (l := m) (by have := h m List.mem_cons_self; omega)
    rw [fl_cons, List.length_append, lm] at hk
    unfold cnt
    rw [if_pos (by omega), cnt_full r _ (fun x hx => h x (List.mem_cons_of_mem _ hx)) (by omega), List.length_cons]
    omega
/-- one sign less: the last one is lost -/
theorem cnt_last : ∀ (ls : List (List Nat)), (∀ m ∈ ls, m.length ≤ 80000) → cnt ls ((fl ls).length - 1) = ls.length - 1
  | [], _ => rfl
  | [m], h => by
    have lm := frL_len (l := m) (by have := h m List.mem_cons_self; omega)
    unfold cnt
    rw [fl_cons, List.length_append, lm, show (fl []).length = 0 from rfl, if_neg (by omega)]
    rfl
  | m :: n :: r, h => by
    have lm := frL_len (l := m) (by have := h m List.mem_cons_self; omega)
    have ln := frL_len (l := n) (by have := h n (List.mem_cons_of_mem _ List.mem_cons_self); omega)
    have ih := cnt_last (n :: r) fun x hx => h x (List.mem_cons_of_mem _ hx)
    have l2 : (fl (n :: r)).length = n.length + 7 + (fl r).length := by rw [fl_cons, List.length_append, ln]
    rw [cnt, fl_cons, List.length_append, lm, if_pos (by omega), show m.length + 7 + (fl (n :: r)).length - 1 - (m.length + 7) = (fl (n :: r)).length - 1 by omega, ih]
    simp only [List.length_cons]
    omega
theorem fl_take {ls : List (List Nat)} (j : Nat) : (fl ls).take (fl (ls.take j)).length = fl (ls.take j) := by
  have e : fl ls = fl (ls.take j) ++ fl (ls.drop j) := by rw [← fl_app, List.take_append_drop]
  rw [e, List.take_append_of_le_length (Nat.le_refl _), List.take_length]
theorem fl_rep (n : Nat) (m : List Nat) : fl (List.replicate n m) = (List.replicate n (frL m)).flatten := by
  unfold fl
  rw [List.map_replicate]
theorem cnt_rep (n : Nat) (m : List Nat) : ∀ k, cnt (List.replicate n m) k = min n (k / (m.length + 7)) := by
  induction n with
  | zero => intro k; simp [cnt]
  | succ n ih =>
    intro k
    rw [List.replicate_succ, cnt]
    by_cases hk : m.length + 7 ≤ k
    · rw [if_pos hk, ih]
      have : k / (m.length + 7) = (k - (m.length + 7)) / (m.length + 7) + 1 := by
        rw [Nat.div_eq, if_pos ⟨by omega, hk⟩]
      omega
    · rw [if_neg hk, Nat.div_eq_of_lt (by omega)]
      simp
/-- the ends of frames -/
def endsL : Nat → List (List Nat) → List Nat
  | _, [] => []
  | a, m :: r => (a + m.length + 7) :: endsL (a + m.length + 7) r
theorem endsL_len : ∀ (a : Nat) (ls : List (List Nat)), (endsL a ls).length = ls.length
  | _, [] => rfl
  | a, m :: r => by rw [endsL, List.length_cons, endsL_len, List.length_cons]
theorem endsL_ge : ∀ (a : Nat) (ls : List (List Nat)), ∀ e ∈ endsL a ls, a + 7 ≤ e
  | _, [], e, h => by cases h
  | a, m :: r, e, h => by
    rcases List.mem_cons.mp h with rfl | h
    · omega
    · have := endsL_ge (a + m.length + 7) r e h
      omega
theorem endsL_cnt : ∀ (ls : List (List Nat)) (a k : Nat), ((endsL a ls).filter fun e => decide (e ≤ a + k)).length = cnt ls k
  | [], _, _ => rfl
  | m :: r, a, k => by
    rw [endsL, cnt, List.filter_cons]
    by_cases hk : m.length + 7 ≤ k
    · rw [if_pos (decide_eq_true (by omega)), if_pos hk, List.length_cons, ← endsL_cnt r (a + m.length + 7) (k - (m.length + 7))]
      have : a + m.length + 7 + (k - (m.length + 7)) = a + k := by omega
      rw [this]
      omega
    · rw [if_neg (by simpa using (by omega : ¬ a + m.length + 7 ≤ a + k)), if_neg hk]
      have : (endsL (a + m.length + 7) r).filter (fun e => decide (e ≤ a + k)) = [] := by
        rw [List.filter_eq_nil_iff]
        intro e he
        have := endsL_ge _ _ e he
        simp only [decide_eq_true_eq]
        omega
      rw [this]
      rfl
theorem endsL_app : ∀ (a : Nat) (ls : List (List Nat)) (m : List Nat), (∀ x ∈ ls, x.length ≤ 80000) → endsL a (ls ++ [m]) = endsL a ls ++ [a + (fl ls).length + m.length + 7]
  | a, [], m, _ => by simp [endsL, fl]
  | a, x :: r, m, h => by
    have lx := frL_len (l := x) (by have := h x List.mem_cons_self; omega)
    rw [List.cons_append, endsL, endsL_app (a + x.length + 7) r m fun y hy => h y (List.mem_cons_of_mem _ hy), endsL, fl_cons, List.length_append, lx, List.cons_append]
    congr 3
    omega
theorem endsL_at : ∀ (ls : List (List Nat)) (a j : Nat), (∀ x ∈ ls, x.length ≤ 80000) → j < ls.length → (endsL a ls)[j]? = some (a + (fl (ls.take (j + 1))).length)
  | m :: r, a, 0, h, _ => by
    have lm := frL_len (l := m) (by have := h m List.mem_cons_self; omega)
    rw [endsL, List.take_succ_cons, fl_cons, List.length_append, lm]
    simp [fl]
    omega
  | m :: r, a, j + 1, h, hj => by
    have lm := frL_len (l := m) (by have := h m List.mem_cons_self; omega)
    rw [endsL, List.getElem?_cons_succ, endsL_at r (a + m.length + 7) j (fun y hy => h y (List.mem_cons_of_mem _ hy)) (by simpa using hj), List.take_succ_cons, fl_cons, List.length_append, lm]
    congr 1
    omega
end M9

/-! M3: items and tokens judged as data. -/
namespace M3
open PySem PySem.Spec PyProof.Rows L2 Z SX M9

def asciiS (x : Str) : Bool := x.cps.toList.all fun c => decide (c < 128)
/-- a text of ASCII signs, or no text; a tuple of such -/
def asc1 : PyData → Bool
  | .str x => asciiS x && decide (x.length ≤ 100000)
  | _ => true
def asc : PyData → Bool
  | .str x => asc1 (.str x)
  | .tuple ds => ds.all asc1
  | _ => true
def intD : PyData → Bool
  | .int _ => true
  | _ => false
def within (d : PyData) (a b : Int) : Bool := match d with
  | .int i => decide (a ≤ i) && decide (i ≤ b)
  | _ => false
def prS (x : Str) : Bool := x.cps.toList.all fun c => decide (32 ≤ c) && decide (c ≤ 126)
def lowS (x : Str) : Bool := x.cps.toList.all fun c => decide (97 ≤ c) && decide (c ≤ 122)
def signsD : PyData → Bool
  | .str x => prS x
  | _ => false
def plainD (n : Nat) : PyData → Bool
  | .str x => prS x && decide (x.length ≤ n)
  | _ => false
def nameD : PyData → Bool
  | .str x => decide (1 ≤ x.length) && decide (x.length ≤ 8) && lowS x
  | _ => false
def tokenD : PyData → Bool
  | .tuple [a, b] => within a 1 999999999999 && within b 1 999999999999
  | _ => false
def itemD : PyData → Bool
  | .tuple [a, b, c, d, e, f] => nameD a && nameD b && plainD 40 c && within d 0 3 && within e 0 50 && within f 0 50
  | _ => false
def kindD : PyData → String
  | .none => "NoneType"
  | .bool _ => "bool"
  | .int _ => "int"
  | .str _ => "str"
  | .list _ => "list"
  | .tuple _ => "tuple"
  | .dict _ => "dict"
theorem Dz.kind {g : Bool} {K : PySem.W.Frag} {H : Hp} {v : V} {d : PyData} (h : Dz g H v d) : KindV K H v (kindD d) := by
  cases h with
  | non => rfl
  | bl b => rfl
  | int i => rfl
  | str x => rfl
  | lst h _ _ => exact .inl ⟨rfl, _, SqL.of h⟩
  | tup h _ => exact .inr (.inl ⟨rfl, _, SqT.of h⟩)
  | dic h _ => exact .inr (.inr ⟨rfl, .inl ⟨_, h⟩⟩)
theorem print_ascii : ∀ c : _root_.Fin 128, Unicode.isPrintable c.val = (decide (32 ≤ c.val) && decide (c.val ≤ 126)) := by decide +kernel
theorem alpha_ascii : ∀ c : _root_.Fin 128, Unicode.isAlpha c.val = ((decide (65 ≤ c.val) && decide (c.val ≤ 90)) || (decide (97 ≤ c.val) && decide (c.val ≤ 122))) := by decide +kernel
theorem lower_ascii : ∀ c : _root_.Fin 128, Unicode.isLower c.val = (decide (97 ≤ c.val) && decide (c.val ≤ 122)) := by decide +kernel
theorem upper_ascii : ∀ c : _root_.Fin 128, (Unicode.isUpper c.val || Unicode.isTitle c.val) = (decide (65 ≤ c.val) && decide (c.val ≤ 90)) := by decide +kernel
theorem all_eq {p q : Nat → Bool} : ∀ {l : List Nat}, (∀ c ∈ l, p c = q c) → l.all p = l.all q
  | [], _ => rfl
  | a :: r, h => by
    rw [List.all_cons, List.all_cons, h a List.mem_cons_self, all_eq fun c hc => h c (List.mem_cons_of_mem _ hc)]
theorem any_eq {p q : Nat → Bool} : ∀ {l : List Nat}, (∀ c ∈ l, p c = q c) → l.any p = l.any q
  | [], _ => rfl
  | a :: r, h => by
    rw [List.any_cons, List.any_cons, h a List.mem_cons_self, any_eq fun c hc => h c (List.mem_cons_of_mem _ hc)]
theorem lt_of_ascii {x : Str} (h : asciiS x = true) {c : Nat} (hc : c ∈ x.cps.toList) : c < 128 := by
  simpa using (List.all_eq_true.mp h) c hc
theorem isascii_D {x : Str} (h : asciiS x = true) : Txt.isascii x = true := by
  show (x.cps.all fun c => decide (c < 128)) = true
  rw [← Array.all_toList]
  exact h
theorem isprintable_D {x : Str} (h : asciiS x = true) : Txt.isprintable x = prS x := by
  show (x.cps.all Unicode.isPrintable) = _
  rw [← Array.all_toList]
  exact all_eq fun c hc => print_ascii ⟨c, lt_of_ascii h hc⟩
theorem isalpha_D {x : Str} (h : asciiS x = true) : Txt.isalpha x = (decide (x.length > 0) && x.cps.toList.all fun c => (decide (65 ≤ c) && decide (c ≤ 90)) || (decide (97 ≤ c) && decide (c ≤ 122))) := by
  show (decide (x.length > 0) && x.cps.all Unicode.isAlpha) = _
  rw [← Array.all_toList]
  congr 1
  exact all_eq fun c hc => alpha_ascii ⟨c, lt_of_ascii h hc⟩
theorem islower_D {x : Str} (h : asciiS x = true) : Txt.islower x = ((x.cps.toList.any fun c => decide (97 ≤ c) && decide (c ≤ 122)) && !(x.cps.toList.any fun c => decide (65 ≤ c) && decide (c ≤ 90))) := by
  show (x.cps.any Unicode.isLower && !x.cps.any fun c => Unicode.isUpper c || Unicode.isTitle c) = _
  rw [← Array.any_toList, ← Array.any_toList]
  congr 1
  · exact any_eq fun c hc => lower_ascii ⟨c, lt_of_ascii h hc⟩
  · congr 1
    exact any_eq fun c hc => upper_ascii ⟨c, lt_of_ascii h hc⟩
/-- the program's test of a name is the law's -/
theorem name_law {x : Str} (h : asciiS x = true) : (prS x && (decide (x.length ≤ 8) && (Txt.isalpha x && Txt.islower x))) = nameD (.str x) := by
  have hl : x.length = x.cps.toList.length := by rw [Array.length_toList]; rfl
  rw [isalpha_D h, islower_D h]
  unfold nameD
  rw [Bool.eq_iff_iff]
  constructor
  · intro e
    simp only [Bool.and_eq_true, decide_eq_true_eq, List.all_eq_true, Bool.or_eq_true, List.any_eq_true, Bool.not_eq_true', List.any_eq_false, lowS, prS] at e ⊢
    obtain ⟨_, h8, ⟨h1, ha⟩, _, hu⟩ := e
    refine ⟨⟨h1, h8⟩, fun c hc => ?_⟩
    rcases ha c hc with z | z
    · exact absurd z (hu c hc)
    · exact z
  · intro e
    simp only [Bool.and_eq_true, decide_eq_true_eq, List.all_eq_true, Bool.or_eq_true, List.any_eq_true, Bool.not_eq_true', List.any_eq_false, lowS, prS] at e ⊢
    obtain ⟨⟨h1, h8⟩, ha⟩ := e
    refine ⟨fun c hc => by have := ha c hc; omega, h8, ⟨h1, fun c hc => .inr (ha c hc)⟩, ?_, fun c hc => by have := ha c hc; omega⟩
    cases e : x.cps.toList with
    | nil => rw [hl, e] at h1; exact absurd h1 (by decide)
    | cons c r => exact ⟨c, List.mem_cons_self, ha c (by rw [e]; exact List.mem_cons_self)⟩
/-- what a filtered text leaves is nothing, if all its signs are good -/
theorem filter_none {p : Nat → Bool} (l : List Nat) : (l.filter fun c => !p c).isEmpty = l.all p := by
  induction l with
  | nil => rfl
  | cons a r ih =>
    rw [List.filter_cons, List.all_cons]
    cases e : p a with
    | true => simpa using ih
    | false => rfl
theorem letters_list : ("abcdefghijklmnopqrstuvwxyz" : Str).cps.toList = [97, 98, 99, 100, 101, 102, 103, 104, 105, 106, 107, 108, 109, 110, 111, 112, 113, 114, 115, 116, 117, 118, 119, 120, 121, 122] := by decide +kernel
def low (c : Nat) : Bool := decide (97 ≤ c) && decide (c ≤ 122)
def prt (c : Nat) : Bool := decide (32 ≤ c) && decide (c ≤ 126)
theorem low_in (c : Nat) : decide (c ∈ ("abcdefghijklmnopqrstuvwxyz" : Str).cps.toList) = low c := by
  rw [letters_list]
  unfold low
  rw [Bool.eq_iff_iff]
  simp only [decide_eq_true_eq, Bool.and_eq_true, List.mem_cons, List.not_mem_nil, or_false]
  omega
theorem one_lt {a b : Nat} : ([a] : List Nat) < [b] ↔ a < b := by
  rw [List.cons_lt_cons_iff]
  constructor
  · rintro (h | ⟨_, h⟩)
    · exact h
    · exact absurd h (by simp)
  · exact .inl
theorem lt_sp {c : Nat} : (⟨#[c]⟩ : Str).cps.toList < (" " : Str).cps.toList ↔ c < 32 := by
  rw [show (" " : Str).cps.toList = [32] by decide +kernel, show (⟨#[c]⟩ : Str).cps.toList = [c] from rfl]
  exact one_lt
theorem gt_tl {c : Nat} : ("~" : Str).cps.toList < (⟨#[c]⟩ : Str).cps.toList ↔ 126 < c := by
  rw [show ("~" : Str).cps.toList = [126] by decide +kernel, show (⟨#[c]⟩ : Str).cps.toList = [c] from rfl]
  exact one_lt
def signsD2 (l : List Nat) : PyData := .list (l.map fun c => .str (S [c]))
theorem signs_none {x : Str} {p : Nat → Bool} : (x.cps.toList.filter fun c => !p c).isEmpty = x.cps.toList.all p := filter_none _
theorem shaped_asc {cs : List Nat} (h : ∀ c ∈ cs, c < 128) : SeqAt.shaped (strsD (cs.map fun c => [c])) = true := by
  have lay : ∀ cs : List Nat, (∀ c ∈ cs, c < 128) → PyData.canLayAll0 ((cs.map fun c => [c]).map fun l => .str (S l)) = true := by
    intro cs
    induction cs with
    | nil => intro _; rfl
    | cons c r ih =>
      intro h
      have hc := h c List.mem_cons_self
      show (PyData.strOk (S [c]) && PyData.canLayAll0 ((r.map fun c => [c]).map fun l => .str (S l))) = true
      rw [ih fun x hx => h x (List.mem_cons_of_mem _ hx), Bool.and_true]
      show ([c].toArray.all fun c => decide (c < 0x110000)) = true
      rw [← Array.all_toList, List.all_eq_true]
      intro x hx
      have : x = c := by simpa using hx
      rw [this]
      exact decide_eq_true (by omega)
  show (PyData.canLayAll0 _ && decide (PyData.depthAll ((cs.map fun c => [c]).map fun l => .str (S l)) + 1 ≤ 64)) = true
  rw [lay cs h, depth_strs]
  rfl
theorem eqv_strs_nil (cs : List Nat) : PyData.eqv (strsD (cs.map fun c => [c])) (strsD []) = cs.isEmpty := by
  unfold strsD
  rw [List.map_nil, eqv_nil]
  cases cs <;> rfl
theorem filter_step {l : List Nat} {p : Nat → Bool} {i c : Nat} (hc : l[i]? = some c) : (l.take (i + 1)).filter (fun c => !p c) = (l.take i).filter (fun c => !p c) ++ (if p c then [] else [c]) := by
  rw [List.take_add_one, hc, List.filter_append]
  cases e : p c <;> simp [e]
/-! ### how long what is shown is -/
theorem piled_shown : ∀ ds : List PyData, piled (PyData.shownAll ds) = (ds.map fun d => d.shown.length + 2).sum
  | [] => rfl
  | d :: r => by
    rw [PyData.shownAll, piled_cons, piled_shown r, List.map_cons, List.sum_cons]
theorem len_tuple (ds : List PyData) : (PyData.tuple ds).shown.length ≤ 4 + (ds.map fun d => d.shown.length + 2).sum := by
  have e : (PyData.tuple ds).shown = tupleText (PyData.shownAll ds) := by rw [PyData.shown]
  rw [e, ← piled_shown]
  unfold tupleText
  rw [strLen_append, strLen_append]
  have h2 : (Str.ofString (if (PyData.shownAll ds).length == 1 then ",)" else ")")).length ≤ 2 := by split <;> decide
  have h1 : ("(" : Str).length = 1 := rfl
  by_cases hn : PyData.shownAll ds = []
  · rw [hn]
    decide
  · have := join_length_add _ hn
    omega
theorem len_from : ∀ (ts : List Str) (k : Nat) (acc : Str), (textFrom k acc ts).length ≤ acc.length + piled ts
  | [], k, acc => Nat.le_add_right _ _
  | t :: r, k, acc => by
    have ih := len_from r (k + 1) (acc ++ (if k > 0 then ", " else "" : String) ++ t)
    have e : (acc ++ (if k > 0 then ", " else "" : String) ++ t).length = acc.length + (if k > 0 then 2 else 0) + t.length := by
      rw [strLen_append, strLen_append]
      split <;> rfl
    rw [piled_cons]
    show (textFrom (k + 1) (acc ++ (if k > 0 then ", " else "" : String) ++ t) r).length ≤ _
    rw [e] at ih
    have hb : (if k > 0 then 2 else 0) ≤ 2 := by split <;> omega
    omega
theorem len_list (ds : List PyData) : (PyData.list ds).shown.length ≤ 4 + (ds.map fun d => d.shown.length + 2).sum := by
  have e : (PyData.list ds).shown = listText (PyData.shownAll ds) := by rw [PyData.shown]
  rw [e, ← piled_shown]
  unfold listText
  rw [strLen_append]
  have := len_from (PyData.shownAll ds) 0 "["
  have h1 : ("[" : Str).length = 1 := rfl
  have h2 : ("]" : Str).length = 1 := rfl
  omega
mutual
/-- no list in it is as long as a box -/
def nobox : PyData → Bool
  | .none | .bool _ | .int _ | .str _ => true
  | .list ds => (ds.length != 4) && noboxAll ds
  | .tuple ds => noboxAll ds
  | .dict kvs => noboxKv kvs
def noboxAll : List PyData → Bool
  | [] => true
  | d :: r => nobox d && noboxAll r
def noboxKv : List (PyData × PyData) → Bool
  | [] => true
  | (_, d) :: r => nobox d && noboxKv r
end
theorem DzAll.len {g : Bool} {H : Hp} : ∀ {xs : List V} {ds : List PyData}, DzAll g H xs ds → xs.length = ds.length
  | _, _, .nil => rfl
  | _, _, .cons _ t => by rw [List.length_cons, List.length_cons, DzAll.len t]
theorem DzAll.take {g : Bool} {H : Hp} : ∀ {xs : List V} {ds : List PyData} (n : Nat), DzAll g H xs ds → DzAll g H (xs.take n) (ds.take n)
  | _, _, 0, _ => by rw [List.take_zero, List.take_zero]; exact .nil
  | _, _, n + 1, .nil => .nil
  | _, _, n + 1, .cons h t => .cons h (DzAll.take n t)
theorem DzAll.drop {g : Bool} {H : Hp} : ∀ {xs : List V} {ds : List PyData} (n : Nat), DzAll g H xs ds → DzAll g H (xs.drop n) (ds.drop n)
  | _, _, 0, h => h
  | _, _, n + 1, .nil => .nil
  | _, _, n + 1, .cons h t => DzAll.drop n t
theorem DzAll.app {g : Bool} {H : Hp} : ∀ {xs ys : List V} {ds es : List PyData}, DzAll g H xs ds → DzAll g H ys es → DzAll g H (xs ++ ys) (ds ++ es)
  | _, _, _, _, .nil, h => h
  | _, _, _, _, .cons h t, h2 => .cons h (DzAll.app t h2)
theorem not4 {ds : List PyData} (h : (ds.length != 4) = true) : ds.length ≠ 4 := by simpa using h
mutual
/-- b is a list of four: what has none is kept where all but b is kept -/
theorem Dz.but {g : Bool} {H H2 : Hp} {b : Addr} {bs : List V} (hb : H b = some (.lst bs)) (h4 : bs.length = 4) (t : But b H H2) : ∀ {v : V} {d : PyData}, Dz g H v d → nobox d = true → Dz g H2 v d
  | _, _, .non, _ => .non
  | _, _, .bl b, _ => .bl b
  | _, _, .int i, _ => .int i
  | _, _, .str x, _ => .str x
  | _, _, .lst (ds := ds) h n a, k => by
    have k : ((ds.length != 4) && noboxAll ds) = true := k
    rw [Bool.and_eq_true] at k
    refine .lst (t _ _ (fun z => ?_) h) n (DzAll.but hb h4 t a k.2)
    rw [z, hb] at h
    have := DzAll.len a
    cases h
    exact not4 k.1 (by omega)
  | _, _, .tup h a, k => .tup (t _ _ (fun z => by rw [z, hb] at h; cases h) h) (DzAll.but hb h4 t a k)
  | _, _, .dic h a, k => .dic (t _ _ (fun z => by rw [z, hb] at h; cases h) h) (DzKv.but hb h4 t a k)
theorem DzAll.but {g : Bool} {H H2 : Hp} {b : Addr} {bs : List V} (hb : H b = some (.lst bs)) (h4 : bs.length = 4) (t : But b H H2) : ∀ {vs : List V} {ds : List PyData}, DzAll g H vs ds → noboxAll ds = true → DzAll g H2 vs ds
  | _, _, .nil, _ => .nil
  | _, _, .cons h r, k => by
    have k := Bool.and_eq_true _ _ ▸ k
    exact .cons (Dz.but hb h4 t h k.1) (DzAll.but hb h4 t r k.2)
theorem DzKv.but {g : Bool} {H H2 : Hp} {b : Addr} {bs : List V} (hb : H b = some (.lst bs)) (h4 : bs.length = 4) (t : But b H H2) : ∀ {kvs : List (Key × V)} {D : List (PyData × PyData)}, DzKv g H kvs D → noboxKv D = true → DzKv g H2 kvs D
  | _, _, .nil, _ => .nil
  | _, _, .cons h r, k => by
    have k := Bool.and_eq_true _ _ ▸ k
    exact .cons (Dz.but hb h4 t h k.1) (DzKv.but hb h4 t r k.2)
end
def oddOk (d : PyData) : Bool := asc1 d && d.showable && decide (d.depth ≤ 3) && decide (d.shown.length ≤ 2000) && nobox d
theorem oddOk_of {d : PyData} (h : oddOk d = true) : asc1 d = true ∧ d.showable = true ∧ d.depth ≤ 3 ∧ d.shown.length ≤ 2000 := by
  unfold oddOk at h
  simp only [Bool.and_eq_true, decide_eq_true_eq] at h
  exact ⟨h.1.1.1.1, h.1.1.1.2, h.1.1.2, h.1.2⟩
theorem odd_nobox {d : PyData} (h : oddOk d = true) : nobox d = true := by
  unfold oddOk at h
  rw [Bool.and_eq_true] at h
  exact h.2
theorem odd_noboxAll : ∀ {ds : List PyData}, (∀ d ∈ ds, oddOk d = true) → noboxAll ds = true
  | [], _ => rfl
  | d :: r, h => by
    show (nobox d && noboxAll r) = true
    rw [odd_nobox (h d List.mem_cons_self), odd_noboxAll fun x hx => h x (List.mem_cons_of_mem _ hx)]
    rfl
/-- a tuple of good parts -/
def Tv (H : Hp) (p : Addr) (xs : List V) (ds : List PyData) : Prop := H p = some (.tup xs) ∧ DzAll true H xs ds ∧ ∀ d ∈ ds, oddOk d = true
theorem Tv.same {H H2 : Hp} {p : Addr} {xs : List V} {ds : List PyData} (h : Tv H p xs ds) (s : Same H H2) : Tv H2 p xs ds := ⟨s _ _ h.1, DzAll.same s h.2.1, h.2.2⟩
theorem addT {K : PySem.W.Frag} {H : Hp} {l b : Addr} {xs zs : List V} {Q : VK} (h1 : H l = some (.tup xs)) (h2 : H b = some (.tup zs)) (hz : xs.length + zs.length ≤ sizeLine) (q : ∀ r H2, Same H H2 → H2 r = some (.tup (xs ++ zs)) → Q (.ref r) H2) : zAdd K (.ref l) (.ref b) H Q :=
  .inr ⟨xs, zs, SqT.of h1, SqT.of h2, hz, (fun e => q b H (Same.refl H) (by rw [e]; exact h2)), (fun _ e => q l H (Same.refl H) (by rw [e, List.append_nil]; exact h1)), fun _ _ p H2 n => q p H2 n.same n.here⟩
theorem cutV_to (xs : List V) (j : Nat) : cutV xs none (some (j : Int)) = xs.take j := by
  unfold cutV
  rw [sIx_pos (by omega), Int.toNat_natCast]
  show ((xs.drop 0).take (min j xs.length - 0)) = _
  rw [List.drop_zero, Nat.sub_zero]
  rcases Nat.le_total j xs.length with h | h
  · rw [Nat.min_eq_left h]
  · rw [Nat.min_eq_right h, List.take_length, List.take_of_length_le h]
theorem cutV_toneg (xs : List V) : cutV xs none (some (-1)) = xs.take (xs.length - 1) := by
  unfold cutV
  show ((xs.drop 0).take ((if (-1 : Int) < 0 then (-1 + (xs.length : Int)).toNat else min (-1 : Int).toNat xs.length) - 0)) = _
  rw [if_pos (by decide), List.drop_zero, Nat.sub_zero, show (-1 + (xs.length : Int)).toNat = xs.length - 1 by omega]
theorem cutV_frneg (xs : List V) : cutV xs (some (-1)) none = xs.drop (xs.length - 1) := by
  unfold cutV
  show ((xs.drop (if (-1 : Int) < 0 then (-1 + (xs.length : Int)).toNat else min (-1 : Int).toNat xs.length)).take (xs.length - (if (-1 : Int) < 0 then (-1 + (xs.length : Int)).toNat else min (-1 : Int).toNat xs.length))) = _
  rw [if_pos (by decide), show (-1 + (xs.length : Int)).toNat = xs.length - 1 by omega, List.take_of_length_le (by rw [List.length_drop]; omega)]
theorem sIx_neg {n d : Nat} : HT.sIx n d (some (-1)) = n - 1 := by
  show (if (-1 : Int) < 0 then (-1 + (n : Int)).toNat else min (-1 : Int).toNat n) = _
  rw [if_pos (by decide)]
  omega
theorem cutV_fr (xs : List V) (j : Nat) : cutV xs (some (j : Int)) none = xs.drop j := by
  unfold cutV
  rw [sIx_pos (by omega), Int.toNat_natCast]
  show ((xs.drop (min j xs.length)).take (xs.length - min j xs.length)) = _
  rcases Nat.le_total j xs.length with h | h
  · rw [Nat.min_eq_left h, List.take_of_length_le (by rw [List.length_drop]; omega)]
  · rw [Nat.min_eq_right h, List.drop_length, List.drop_eq_nil_of_le h, List.take_nil]
theorem sum_odd : ∀ {ds : List PyData}, (∀ d ∈ ds, oddOk d = true) → (ds.map fun d => d.shown.length + 2).sum ≤ ds.length * 2002
  | [], _ => Nat.zero_le _
  | d :: r, h => by
    have h1 := (oddOk_of (h d List.mem_cons_self)).2.2.2
    have h2 := sum_odd fun x hx => h x (List.mem_cons_of_mem _ hx)
    rw [List.map_cons, List.sum_cons, List.length_cons, Nat.succ_mul]
    omega
theorem depth_odd : ∀ {ds : List PyData}, (∀ d ∈ ds, oddOk d = true) → PyData.depthAll ds ≤ 3
  | [], _ => Nat.zero_le _
  | d :: r, h => by
    have h1 := (oddOk_of (h d List.mem_cons_self)).2.2.1
    have h2 := depth_odd fun x hx => h x (List.mem_cons_of_mem _ hx)
    show max d.depth (PyData.depthAll r) ≤ 3
    omega
theorem show_odd : ∀ {ds : List PyData}, (∀ d ∈ ds, oddOk d = true) → PyData.showableAll ds = true
  | [], _ => rfl
  | d :: r, h => by
    have h1 := (oddOk_of (h d List.mem_cons_self)).2.1
    have h2 := show_odd fun x hx => h x (List.mem_cons_of_mem _ hx)
    show (d.showable && PyData.showableAll r) = true
    rw [h1, h2]
    rfl
theorem asc_odd : ∀ {ds : List PyData}, (∀ d ∈ ds, oddOk d = true) → ds.all asc1 = true := fun {ds} h => List.all_eq_true.mpr fun d hd => (oddOk_of (h d hd)).1
theorem odd_int {i : Int} (h : -10000000000000 ≤ i ∧ i ≤ 10000000000000) : oddOk (.int i) = true := by
  have hl : i.natAbs.log2 < 1920 := by
    rcases Nat.eq_zero_or_pos i.natAbs with e | e
    · rw [e]; decide
    · have q : 2 ^ i.natAbs.log2 ≤ i.natAbs := Nat.log2_self_le (by omega)
      have h2 : i.natAbs < 2 ^ 60 := by omega
      have : i.natAbs.log2 < 60 := (Nat.pow_lt_pow_iff_right (by decide : 1 < 2)).mp (Nat.lt_of_le_of_lt q h2)
      omega
  have e : (PyData.int i).shown = Str.ofString (toString i) := by simp only [PyData.shown]
  unfold oddOk
  rw [e, show (PyData.int i).showable = true by simpa only [PyData.showable, decide_eq_true_eq] using hl]
  have := int_text_len_1921 hl
  show (true && true && decide (0 ≤ 3) && decide ((Str.ofString (toString i)).length ≤ 2000) && true) = true
  rw [decide_eq_true (p := (Str.ofString (toString i)).length ≤ 2000) (by omega)]
  rfl
theorem odd_str {l : List Nat} (h : Pr l) (hl : l.length ≤ 100) : oddOk (.str (S l)) = true := by
  have e : (PyData.str (S l)).shown = reprText (S l) := by simp only [PyData.shown]
  have r := PySem.StrLaws.reprText_len (S l) (fun c hc => by
    rw [cps_S] at hc
    have := h c hc
    omega)
  have ls := length_S l
  have a : asciiS (S l) = true := by
    unfold asciiS
    rw [cps_S, List.all_eq_true]
    intro c hc
    have := h c hc
    exact decide_eq_true (by omega)
  have h1 : asc1 (.str (S l)) = true := by
    show (asciiS (S l) && decide ((S l).length ≤ 100000)) = true
    rw [a, length_S, decide_eq_true (by omega)]
    rfl
  unfold oddOk
  rw [e, h1]
  show (true && true && decide (0 ≤ 3) && decide ((reprText (S l)).length ≤ 2000) && true) = true
  rw [decide_eq_true (p := (reprText (S l)).length ≤ 2000) (by omega)]
  rfl
/-- a value that may be judged and shown -/
def Good (H : Hp) (v : V) : Prop := ∃ g d, Dz g H v d ∧ (d.hasDict = true → g = true) ∧ asc d = true ∧ d.showable = true ∧ d.depth ≤ 60 ∧ d.shown.length ≤ 10000000 ∧ nobox d = true
theorem Good.same {H H2 : Hp} {v : V} (h : Good H v) (s : Same H H2) : Good H2 v := by
  obtain ⟨g, d, a, b⟩ := h
  exact ⟨g, d, Dz.same s a, b⟩
theorem good_tup {H : Hp} {p : Addr} {xs : List V} {ds : List PyData} (h : H p = some (.tup xs)) (a : DzAll true H xs ds) (ok : ∀ d ∈ ds, oddOk d = true) (l : ds.length ≤ 20) : Good H (.ref p) := by
  refine ⟨true, .tuple ds, .tup h a, fun _ => rfl, asc_odd ok, show_odd ok, ?_, ?_, odd_noboxAll ok⟩
  · show PyData.depthAll ds + 1 ≤ 60
    have := depth_odd ok
    omega
  · have h1 := len_tuple ds
    have h2 := sum_odd ok
    have h3 : ds.length * 2002 ≤ 20 * 2002 := Nat.mul_le_mul_right _ l
    omega
def atomD : PyData → Bool
  | .none | .bool _ | .int _ | .str _ => true
  | _ => false
theorem atom_dict : ∀ {ds : List PyData}, (∀ d ∈ ds, atomD d = true) → PyData.hasDictAll ds = false
  | [], _ => by simp only [PyData.hasDictAll]
  | d :: r, h => by
    have h1 := h d List.mem_cons_self
    have h2 := atom_dict fun x hx => h x (List.mem_cons_of_mem _ hx)
    have h3 : d.hasDict = false := by cases d <;> first | (simp only [PyData.hasDict]; done) | cases h1
    simp only [PyData.hasDictAll, h3, h2, Bool.or_self]
mutual
theorem Dz.weak {H : Hp} : ∀ {v : V} {d : PyData}, Dz true H v d → Dz false H v d
  | _, _, .non => .non
  | _, _, .bl b => .bl b
  | _, _, .int i => .int i
  | _, _, .str x => .str x
  | _, _, .lst h n a => .lst h (fun z => by cases z) (DzAll.weak a)
  | _, _, .tup h a => .tup h (DzAll.weak a)
  | _, _, .dic h a => .dic h (DzKv.weak a)
theorem DzAll.weak {H : Hp} : ∀ {vs : List V} {ds : List PyData}, DzAll true H vs ds → DzAll false H vs ds
  | _, _, .nil => .nil
  | _, _, .cons h t => .cons (Dz.weak h) (DzAll.weak t)
theorem DzKv.weak {H : Hp} : ∀ {kvs : List (Key × V)} {D : List (PyData × PyData)}, DzKv true H kvs D → DzKv false H kvs D
  | _, _, .nil => .nil
  | _, _, .cons h t => .cons (Dz.weak h) (DzKv.weak t)
end
theorem good_lst {H : Hp} {p : Addr} {xs : List V} {ds : List PyData} (h : H p = some (.lst xs)) (a : DzAll true H xs ds) (ok : ∀ d ∈ ds, oddOk d = true) (at' : ∀ d ∈ ds, atomD d = true) (l : ds.length ≤ 20) (l4 : ds.length ≠ 4) : Good H (.ref p) := by
  refine ⟨false, .list ds, .lst h (fun z => by cases z) (DzAll.weak a), fun z => ?_, rfl, show_odd ok, ?_, ?_, by show ((ds.length != 4) && noboxAll ds) = true; rw [odd_noboxAll ok, Bool.and_true]; simpa using l4⟩
  · have e : (PyData.list ds).hasDict = PyData.hasDictAll ds := by simp only [PyData.hasDict]
    rw [e, atom_dict at'] at z
    cases z
  · show PyData.depthAll ds + 1 ≤ 60
    have := depth_odd ok
    omega
  · have h1 := len_list ds
    have h2 := sum_odd ok
    have h3 : ds.length * 2002 ≤ 20 * 2002 := Nat.mul_le_mul_right _ l
    omega
theorem good_atom {H : Hp} {v : V} {d : PyData} (h : Dz true H v d) (ok : oddOk d = true) (a : atomD d = true) : Good H v := by
  obtain ⟨h1, h2, h3, h4⟩ := oddOk_of ok
  exact ⟨true, d, h, fun _ => rfl, (by cases d <;> first | exact h1 | rfl | cases a), h2, by omega, by omega, odd_nobox ok⟩
theorem Good.but {H H2 : Hp} {b : Addr} {bs : List V} (hb : H b = some (.lst bs)) (h4 : bs.length = 4) (t : But b H H2) {v : V} (h : Good H v) : Good H2 v := by
  obtain ⟨g, d, a, h1, h2, h3, h5, h6, h7⟩ := h
  exact ⟨g, d, Dz.but hb h4 t a h7, h1, h2, h3, h5, h6, h7⟩
/-- a tuple, or a dict, of one tuple -/
theorem good_tup1 {H : Hp} {p r : Addr} {xs : List V} {ds : List PyData} (h : H p = some (.tup xs)) (a : DzAll true H xs ds) (ok : ∀ d ∈ ds, oddOk d = true) (l : ds.length ≤ 20) (hr : H r = some (.tup [.ref p])) : Good H (.ref r) := by
  have h1 := len_tuple ds
  have h2 := sum_odd ok
  have h3 : ds.length * 2002 ≤ 20 * 2002 := Nat.mul_le_mul_right _ l
  have hd := depth_odd ok
  refine ⟨true, .tuple [.tuple ds], .tup hr (.cons (.tup h a) .nil), fun _ => rfl, rfl, ?_, ?_, ?_, by show (noboxAll ds && true) = true; rw [odd_noboxAll ok]; rfl⟩
  · show (PyData.showableAll ds && true) = true
    rw [show_odd ok]
    rfl
  · show max (PyData.depthAll ds + 1) 0 + 1 ≤ 60
    omega
  · have h4 := len_tuple [.tuple ds]
    rw [List.map_cons, List.map_nil, List.sum_cons, List.sum_nil] at h4
    omega
theorem good_dic1 {H : Hp} {p r : Addr} {xs : List V} {ds : List PyData} (h : H p = some (.tup xs)) (a : DzAll true H xs ds) (ok : ∀ d ∈ ds, oddOk d = true) (l : ds.length ≤ 20) (hr : H r = some (.dK [(.inr "a", .ref p)])) : Good H (.ref r) := by
  have h1 := len_tuple ds
  have h2 := sum_odd ok
  have h3 : ds.length * 2002 ≤ 20 * 2002 := Nat.mul_le_mul_right _ l
  have hd := depth_odd ok
  refine ⟨true, .dict [(.str "a", .tuple ds)], .dic hr (.cons (k := .inr "a") (.tup h a) .nil), fun _ => rfl, rfl, ?_, ?_, ?_, by show (noboxAll ds && true) = true; rw [odd_noboxAll ok]; rfl⟩
  · show (PyData.showable (.str "a") && PyData.showableAll ds && true) = true
    rw [show_odd ok]
    rfl
  · show _ ≤ 60
    simp only [PyData.depth, PyData.depthKv]
    omega
  · have e : (PyData.dict [(.str "a", .tuple ds)]).shown = dictText [reprText "a" ++ ": " ++ (PyData.tuple ds).shown] := by
      simp only [PyData.shown, PyData.shownKv]
    rw [e]
    unfold dictText
    rw [strLen_append, strLen_append]
    show _ + (reprText "a" ++ ": " ++ (PyData.tuple ds).shown).length + _ ≤ _
    rw [strLen_append, strLen_append]
    have e1 : ("{" : Str).length = 1 := rfl
    have e2 : ("}" : Str).length = 1 := rfl
    have e3 : (": " : Str).length = 2 := rfl
    have e4 : (reprText "a").length = 3 := by decide +kernel
    omega
end M3

/-! M10: things that are no texts with a frame, and what is shown of them. -/
namespace M10
open PySem PySem.Spec PyProof.Rows L2 Z SX M9 M3

def Vd (H : Hp) (v : V) (d : PyData) : Prop := ∃ g, Dz g H v d
theorem Vd.kind {K : PySem.W.Frag} {H : Hp} {v : V} {d : PyData} (h : Vd H v d) : KindV K H v (kindD d) := by
  obtain ⟨g, h⟩ := h
  exact Dz.kind h
theorem Vd.int {H : Hp} {v : V} {i : Int} (h : Vd H v (.int i)) : v = .int i := by
  obtain ⟨g, h⟩ := h
  cases h
  rfl
theorem Vd.str {H : Hp} {v : V} {x : Str} (h : Vd H v (.str x)) : v = .str x := by
  obtain ⟨g, h⟩ := h
  cases h
  rfl
theorem Vd.same {H H2 : Hp} {v : V} {d : PyData} (h : Vd H v d) (s : Same H H2) : Vd H2 v d := by
  obtain ⟨g, h⟩ := h
  exact ⟨g, Dz.same s h⟩
def txt : PyData → Bool
  | .str x => asciiS x && decide (x.length ≤ 1000000)
  | _ => true
def framD : PyData → Bool
  | .str x => prS x && decide (x.length ≤ 80000)
  | _ => false
def cntD : PyData → Bool
  | .int i => decide (0 ≤ i)
  | _ => false
theorem prS_of {l : List Nat} (h : Pr l) : prS (S l) = true := by
  unfold prS
  rw [cps_S, List.all_eq_true]
  intro c hc
  simpa using h c hc
theorem asc_of {l : List Nat} (h : ∀ c ∈ l, c < 128) : asciiS (S l) = true := by
  unfold asciiS
  rw [cps_S, List.all_eq_true]
  intro c hc
  exact decide_eq_true (h c hc)
theorem lt_pr {l : List Nat} (h : Pr l) : ∀ c ∈ l, c < 128 := fun c hc => by
  have := h c hc
  omega
theorem txt_S {l : List Nat} (h : ∀ c ∈ l, c < 128) (hl : l.length ≤ 1000000) : txt (.str (S l)) = true := by
  show (asciiS (S l) && decide ((S l).length ≤ 1000000)) = true
  rw [asc_of h, length_S, decide_eq_true hl]
  rfl
theorem pr_prS {x : Str} (h : prS x = true) : Pr x.cps.toList := fun c hc => by simpa using (List.all_eq_true.mp h) c hc
theorem S_cps (x : Str) : x = S x.cps.toList := by
  cases x with
  | mk a => rfl
/-- a text with a frame; a thing that has none; a thing of other signs, or no text -/
def OkI (x : V) : Prop := ∃ l, x = .str (S l) ∧ Pr l ∧ l.length ≤ 80000
def BadI (H : Hp) (x : V) : Prop := ∃ d, Vd H x d ∧ txt d = true ∧ framD d = false
def BadS (H : Hp) (x : V) : Prop := ∃ d, Vd H x d ∧ txt d = true ∧ signsD d = false
theorem BadS.i {H : Hp} {x : V} (h : BadS H x) : BadI H x := by
  obtain ⟨d, a, b, c⟩ := h
  refine ⟨d, a, b, ?_⟩
  cases d with
  | str z =>
    have c : prS z = false := c
    show (prS z && _) = false
    rw [c]
    rfl
  | _ => rfl
theorem BadI.same {H H2 : Hp} {x : V} (h : BadI H x) (s : Same H H2) : BadI H2 x := by
  obtain ⟨d, a, b⟩ := h
  exact ⟨d, a.same s, b⟩
theorem BadS.same {H H2 : Hp} {x : V} (h : BadS H x) (s : Same H H2) : BadS H2 x := by
  obtain ⟨d, a, b⟩ := h
  exact ⟨d, a.same s, b⟩
theorem _root_.Z.KindV.same {K : PySem.W.Frag} {H H2 : Hp} {x : V} {k : String} (h : KindV K H x k) (s : Same H H2) : KindV K H2 x k := by
  unfold KindV at h ⊢
  split at h
  · exact h
  · exact h
  · exact h
  · exact h
  · rcases h with ⟨e, xs, h⟩ | ⟨e, xs, h⟩ | ⟨e, ⟨kvs, h⟩ | ⟨kvs, h⟩⟩
    · exact .inl ⟨e, xs, sqL_same s h⟩
    · exact .inr (.inl ⟨e, xs, sqT_same s h⟩)
    · exact .inr (.inr ⟨e, .inl ⟨kvs, s _ _ h⟩⟩)
    · exact .inr (.inr ⟨e, .inr ⟨kvs, s _ _ h⟩⟩)
  · exact h.elim
/-- no list and no tuple -/
def NoL (K : PySem.W.Frag) (H : Hp) (v : V) : Prop := ∃ k, KindV K H v k ∧ (isK k "list" || isK k "tuple") = false
theorem NoL.same {K : PySem.W.Frag} {H H2 : Hp} {v : V} (h : NoL K H v) (s : Same H H2) : NoL K H2 v := by
  obtain ⟨k, a, b⟩ := h
  exact ⟨k, a.same s, b⟩
/-- a list or tuple: good texts, then a thing that has no frame -/
def BadL (K : PySem.W.Frag) (H : Hp) (v x : V) : Prop := ∃ a pre post, v = .ref a ∧ (SqL K H a (strsV pre ++ x :: post) ∨ SqT K H a (strsV pre ++ x :: post)) ∧ (∀ l ∈ pre, Pr l ∧ l.length ≤ 80000) ∧ BadI H x
theorem BadL.same {K : PySem.W.Frag} {H H2 : Hp} {v x : V} (h : BadL K H v x) (s : Same H H2) : BadL K H2 v x := by
  obtain ⟨a, pre, post, e, c, d, b⟩ := h
  exact ⟨a, pre, post, e, c.imp (sqL_same s) (sqT_same s), d, b.same s⟩
/-- .. good texts alone -/
def OkL (K : PySem.W.Frag) (H : Hp) (v : V) (ls : List (List Nat)) : Prop := ∃ a, v = .ref a ∧ (SqL K H a (strsV ls) ∨ SqT K H a (strsV ls)) ∧ ∀ l ∈ ls, Pr l ∧ l.length ≤ 80000
theorem OkL.same {K : PySem.W.Frag} {H H2 : Hp} {v : V} {ls : List (List Nat)} (h : OkL K H v ls) (s : Same H H2) : OkL K H2 v ls := by
  obtain ⟨a, e, c, d⟩ := h
  exact ⟨a, e, c.imp (sqL_same s) (sqT_same s), d⟩
theorem strs_pre {pre : List (List Nat)} {x y : V} {post : List V} {i : Nat} (h : (strsV pre ++ x :: post)[i]? = some y) (hi : i ≤ pre.length) : (i < pre.length ∧ ∃ l ∈ pre, y = .str (S l)) ∨ (i = pre.length ∧ y = x) := by
  rcases Nat.lt_or_ge i pre.length with lt | ge
  · left
    rw [List.getElem?_append_left (by rw [strsV_len]; exact lt)] at h
    obtain ⟨l, _, e, hm⟩ := strsV_at h
    exact ⟨lt, l, hm, e⟩
  · right
    have e : i = pre.length := by omega
    subst e
    rw [List.getElem?_append_right (by rw [strsV_len]; exact Nat.le_refl _), strsV_len, Nat.sub_self] at h
    exact ⟨rfl, (Option.some.inj h).symm⟩

/-! ### things -/
mutual
theorem Dz.atom {g g' : Bool} {H H2 : Hp} : ∀ {v : V} {d : PyData}, Dz g H v d → atomD d = true → Dz g' H2 v d
  | _, _, .non, _ => .non
  | _, _, .bl b, _ => .bl b
  | _, _, .int i, _ => .int i
  | _, _, .str x, _ => .str x
  | _, _, .lst _ _ _, z => by cases z
  | _, _, .tup _ _, z => by cases z
  | _, _, .dic _ _, z => by cases z
theorem DzAll.atom {g g' : Bool} {H H2 : Hp} : ∀ {vs : List V} {ds : List PyData}, DzAll g H vs ds → (∀ d ∈ ds, atomD d = true) → DzAll g' H2 vs ds
  | _, _, .nil, _ => .nil
  | _, _, .cons h t, z => .cons (Dz.atom h (z _ List.mem_cons_self)) (DzAll.atom t fun d hd => z d (List.mem_cons_of_mem _ hd))
end
inductive Tg (H : Hp) : V → PyData → Prop
  | flat {v : V} {d : PyData} : Dz true H v d → atomD d = true → Tg H v d
  | tup {a : Addr} {xs : List V} {ds : List PyData} : H a = some (.tup xs) → DzAll true H xs ds → (∀ d ∈ ds, atomD d = true) → Tg H (.ref a) (.tuple ds)
  | lst {a : Addr} {xs : List V} {ds : List PyData} : H a = some (.lst xs) → a ≠ sysModules → DzAll true H xs ds → (∀ d ∈ ds, atomD d = true) → Tg H (.ref a) (.list ds)
  | dic {a : Addr} : H a = some (.dK []) → Tg H (.ref a) (.dict [])
theorem Tg.dz {H : Hp} {v : V} {d : PyData} (h : Tg H v d) : Dz true H v d := by
  cases h with
  | flat h _ => exact h
  | tup h a _ => exact .tup h a
  | lst h n a _ => exact .lst h (fun _ => n) a
  | dic h => exact .dic h .nil
theorem Tg.vd {H : Hp} {v : V} {d : PyData} (h : Tg H v d) : Vd H v d := ⟨true, h.dz⟩
theorem Tg.same {H H2 : Hp} {v : V} {d : PyData} (h : Tg H v d) (s : Same H H2) : Tg H2 v d := by
  cases h with
  | flat h a => exact .flat (Dz.same s h) a
  | tup h a z => exact .tup (s _ _ h) (DzAll.same s a) z
  | lst h n a z => exact .lst (s _ _ h) n (DzAll.same s a) z
  | dic h => exact .dic (s _ _ h)
theorem Tg.but {H H2 : Hp} {b : Addr} {bs : List V} (hb : H b = some (.lst bs)) (h4 : bs.length = 4) (t : But b H H2) {v : V} {d : PyData} (h : Tg H v d) (k : nobox d = true) : Tg H2 v d := by
  have full := Dz.but hb h4 t h.dz k
  cases h with
  | flat h a => exact .flat full a
  | tup h a z => exact .tup (t _ _ (fun e => by rw [e, hb] at h; cases h) h) (DzAll.atom a z) z
  | @lst p xs ds h n a z =>
    cases full with
    | lst h2 _ a2 =>
      have e : p ≠ b := fun e => by
        have k : ((ds.length != 4) && noboxAll ds) = true := k
        rw [Bool.and_eq_true] at k
        rw [e, hb] at h
        have := DzAll.len a
        cases h
        exact not4 k.1 (by omega)
      exact .lst (t _ _ e h) n (DzAll.atom a z) z
  | dic h => exact .dic (t _ _ (fun e => by rw [e, hb] at h; cases h) h)

/-! ### how long what is shown is -/
structure Sw (k B : Nat) (d : PyData) : Prop where
  sh : d.showable = true
  dp : d.depth ≤ k
  ln : d.shown.length ≤ B
theorem Sw.mono {j k A B : Nat} {d : PyData} (h : Sw j A d) (a : j ≤ k) (b : A ≤ B) : Sw k B d := ⟨h.sh, Nat.le_trans h.dp a, Nat.le_trans h.ln b⟩
theorem sw_odd {d : PyData} (h : oddOk d = true) : Sw 3 2000 d := by
  obtain ⟨_, b, c, e⟩ := oddOk_of h
  exact ⟨b, c, e⟩
theorem sw_all {k B : Nat} : ∀ {ds : List PyData}, (∀ d ∈ ds, Sw k B d) → PyData.showableAll ds = true ∧ PyData.depthAll ds ≤ k ∧ (ds.map fun d => d.shown.length + 2).sum ≤ ds.length * (B + 2)
  | [], _ => ⟨rfl, Nat.zero_le _, Nat.zero_le _⟩
  | d :: r, h => by
    obtain ⟨a, b, c⟩ := sw_all fun x hx => h x (List.mem_cons_of_mem _ hx)
    have e := h d List.mem_cons_self
    refine ⟨?_, ?_, ?_⟩
    · show (d.showable && PyData.showableAll r) = true
      rw [e.sh, a]
      rfl
    · show max d.depth (PyData.depthAll r) ≤ k
      have := e.dp
      omega
    · have := e.ln
      rw [List.map_cons, List.sum_cons, List.length_cons, Nat.succ_mul]
      omega
theorem Sw.list {k B m : Nat} {ds : List PyData} (h : ∀ d ∈ ds, Sw k B d) (hm : ds.length ≤ m) : Sw (k + 1) (4 + m * (B + 2)) (.list ds) := by
  obtain ⟨a, b, c⟩ := sw_all h
  refine ⟨a, ?_, ?_⟩
  · show PyData.depthAll ds + 1 ≤ k + 1
    omega
  · have := len_list ds
    have e : ds.length * (B + 2) ≤ m * (B + 2) := Nat.mul_le_mul_right _ hm
    omega
theorem Sw.tuple {k B m : Nat} {ds : List PyData} (h : ∀ d ∈ ds, Sw k B d) (hm : ds.length ≤ m) : Sw (k + 1) (4 + m * (B + 2)) (.tuple ds) := by
  obtain ⟨a, b, c⟩ := sw_all h
  refine ⟨a, ?_, ?_⟩
  · show PyData.depthAll ds + 1 ≤ k + 1
    omega
  · have := len_tuple ds
    have e : ds.length * (B + 2) ≤ m * (B + 2) := Nat.mul_le_mul_right _ hm
    omega
/-- repr of data -/
theorem show_of {H : Hp} {v : V} {d : PyData} {Q : VK} {k B : Nat} (h : Dz true H v d) (s : Sw k B d) (hk : k ≤ 60) (hB : B ≤ 16000000) (q : Q (.str d.shown) H) : zRepr [v] H Q :=
  ⟨true, d, h, fun _ => rfl, s.sh, Nat.le_trans s.dp hk, sz (Nat.le_trans s.ln hB), q⟩
end M10

/-! M10b: what is found in a few texts of frames. -/
namespace M10
open PySem PySem.Spec PyProof.Rows L2 Z SX M9 M3
open PySem.NumText (digitsVal)

theorem next_fr {l m rest : List Nat} {i : Nat} (h : m.length ≤ 80000) (e : l.drop i = frL m ++ rest) : l.drop (i + m.length + 7) = rest := by
  have lm := frL_len (l := m) (by omega)
  rw [Nat.add_assoc, ← List.drop_drop, e, List.drop_append_of_le_length (by omega), List.drop_of_length_le (by omega), List.nil_append]
theorem sc_step {l m rest : List Nat} {i : Nat} (h : m.length ≤ 80000) (e : l.drop i = frL m ++ rest) : sc l i = (m :: (sc l (i + m.length + 7)).1, (sc l (i + m.length + 7)).2) := by
  rw [sc_some (fEnd_fr h e)]
  have b : (l.drop (i + 6)).take (i + m.length + 7 - 1 - (i + 6)) = m := by
    rw [← List.drop_drop, e, show i + m.length + 7 - 1 - (i + 6) = m.length by omega]
    exact body_fr h
  rw [b]
theorem fEnd_short {l : List Nat} {i : Nat} (h : (l.drop i).length < 6) : fEnd l i = none := by
  unfold fEnd
  have e : headN ((l.drop i).take 6) = none := by
    unfold headN
    rw [if_pos]
    refine .inl ?_
    rw [List.length_take]
    omega
  rw [e]
theorem sc_one {m : List Nat} (h : m.length ≤ 80000) : sc (frL m) 0 = ([m], m.length + 7) := by
  have e : (frL m).drop 0 = frL m ++ [] := by rw [List.drop_zero, List.append_nil]
  rw [sc_step h e, sc_none (fEnd_nil (next_fr h e))]
  simp
theorem sc_two {m : List Nat} (h : m.length ≤ 80000) : sc (frL m ++ frL m) 0 = ([m, m], m.length + 7 + (m.length + 7)) := by
  have e : (frL m ++ frL m).drop 0 = frL m ++ frL m := by rw [List.drop_zero]
  have e2 := next_fr h e
  have e3 : (frL m ++ frL m).drop (0 + m.length + 7) = frL m ++ [] := by rw [e2, List.append_nil]
  rw [sc_step h e, sc_step h e3, sc_none (fEnd_nil (next_fr h e3))]
  simp
  omega
theorem sc_blank {m : List Nat} (h : m.length ≤ 80000) : sc (frL m ++ [32]) 0 = ([m], m.length + 7) := by
  have e : (frL m ++ [32]).drop 0 = frL m ++ [32] := by rw [List.drop_zero]
  rw [sc_step h e, sc_none (fEnd_short (by rw [next_fr h e]; decide))]
  simp
theorem sc_big {g : List Nat} : sc ([56, 48, 48, 48, 49, 58] ++ g ++ [59]) 0 = ([], 0) := by
  rw [sc_none]
  unfold fEnd
  have e : headN ((([56, 48, 48, 48, 49, 58] ++ g ++ [59]).drop 0).take 6) = some 80001 := by
    rw [List.drop_zero, List.append_assoc, List.take_append_of_le_length (by decide)]
    decide +kernel
  rw [e]
  simp only
  rw [if_neg]
  rintro ⟨z, _⟩
  exact absurd z (by decide)
theorem frL_80000 {g : List Nat} (h : g.length = 80000) : [56, 48, 48, 48, 48, 58] ++ g ++ [59] = frL g := by
  rw [frL_eq, h, show figs 80000 = [56, 48, 48, 48, 48] by decide +kernel]
  simp
/-- a row ahead of its own frame -/
theorem row_whole {l : List Nat} (hl : l.length ≤ 6) : decide ((sc (l ++ frL l) 0).2 = (l ++ frL l).length) = (decide (l = []) || decide (l = [48, 48, 48, 49, 50, 58])) := by
  have lm := frL_len (l := l) (by omega)
  have no : fEnd (l ++ frL l) 0 = none → l ≠ [] → l ≠ [48, 48, 48, 49, 50, 58] → decide ((sc (l ++ frL l) 0).2 = (l ++ frL l).length) = (decide (l = []) || decide (l = [48, 48, 48, 49, 50, 58])) := fun e a b => by
    rw [sc_none e, decide_eq_false a, decide_eq_false b, decide_eq_false]
    · rfl
    · rw [List.length_append, lm]
      show ¬ 0 = _
      omega
  rcases Nat.eq_zero_or_pos l.length with z | pos
  · have z : l = [] := List.eq_nil_of_length_eq_zero z
    subst z
    rw [List.nil_append, sc_one (by decide), decide_eq_true (show ([] : List Nat) = [] from rfl), decide_eq_true]
    · rfl
    · rw [lm]
  · have ne : l ≠ [] := fun e => by rw [e] at pos; exact absurd pos (by decide)
    rcases Nat.lt_or_ge l.length 6 with lt | ge
    · refine no ?_ ne (fun e => by rw [e] at lt; exact absurd lt (by decide))
      unfold fEnd
      have e : headN (((l ++ frL l).drop 0).take 6) = none := by
        unfold headN
        rw [if_pos]
        refine .inr (.inl ?_)
        rw [List.drop_zero, List.getElem?_take, if_pos (by decide), List.getElem?_append_right (by omega), frL_eq]
        have f5 := figs_len (n := l.length) (by omega)
        rw [List.getElem?_append_left (by omega), List.getElem?_eq_getElem (by omega)]
        have dg := List.all_eq_true.mp (figs_digs l.length) _ (List.getElem_mem (l := figs l.length) (n := 5 - l.length) (by omega))
        simp only [Bool.and_eq_true, decide_eq_true_eq] at dg
        intro z
        have z := Option.some.inj z
        omega
      rw [e]
    · have six : l.length = 6 := by omega
      obtain ⟨a, b, c, d, e, f, rfl⟩ : ∃ a b c d e f, l = [a, b, c, d, e, f] := by
        match l, six with
        | [a, b, c, d, e, f], _ => exact ⟨a, b, c, d, e, f, rfl⟩
      have T : [a, b, c, d, e, f] ++ frL [a, b, c, d, e, f] = [a, b, c, d, e, f, 48, 48, 48, 48, 54, 58, a, b, c, d, e, f, 59] := by
        rw [frL_eq, show figs [a, b, c, d, e, f].length = [48, 48, 48, 48, 54] by show figs 6 = _; decide +kernel]
        rfl
      rw [T] at no ⊢
      have lit : [a, b, c, d, e, f] = [48, 48, 48, 49, 50, 58] → headN [a, b, c, d, e, f] = some 12 := fun z => by
        rw [z]
        decide +kernel
      cases hN : headN [a, b, c, d, e, f] with
      | none =>
        refine no ?_ ne fun z => ?_
        · unfold fEnd
          show (match headN [a, b, c, d, e, f] with | none => none | some n => _) = _
          rw [hN]
        · rw [lit z] at hN
          cases hN
      | some v =>
        have fe : fEnd [a, b, c, d, e, f, 48, 48, 48, 48, 54, 58, a, b, c, d, e, f, 59] 0 = if v ≤ 80000 ∧ ([a, b, c, d, e, f, 48, 48, 48, 48, 54, 58, a, b, c, d, e, f, 59].drop (0 + 6 + v)).take 1 = [59] then some (0 + 6 + v + 1) else none := by
          unfold fEnd
          show (match headN [a, b, c, d, e, f] with | none => none | some n => _) = _
          rw [hN]
        have hN2 := hN
        unfold headN at hN2
        split at hN2
        · cases hN2
        · rename_i q
          have hv : digitsVal [a, b, c, d, e] = v := Option.some.inj hN2
          have hf : f = 58 := by
            rcases Nat.decEq f 58 with z | z
            · exact absurd (.inr (.inl fun w => z (Option.some.inj w))) q
            · exact z
          have dg : digs [a, b, c, d, e] = true := by
            cases z : digs [a, b, c, d, e] with
            | true => rfl
            | false => exact absurd (.inr (.inr z)) q
          have bd := List.all_eq_true.mp dg
          simp only [List.mem_cons, List.not_mem_nil, or_false, Bool.and_eq_true, decide_eq_true_eq] at bd
          have ba := bd a (.inl rfl)
          have bb := bd b (.inr (.inl rfl))
          have bc := bd c (.inr (.inr (.inl rfl)))
          have bdd := bd d (.inr (.inr (.inr (.inl rfl))))
          have be := bd e (.inr (.inr (.inr (.inr rfl))))
          have hv2 : ((((0 * 10 + (a - 48)) * 10 + (b - 48)) * 10 + (c - 48)) * 10 + (d - 48)) * 10 + (e - 48) = v := hv
          by_cases v12 : v = 12
          · obtain rfl : a = 48 := by omega
            obtain rfl : b = 48 := by omega
            obtain rfl : c = 48 := by omega
            obtain rfl : d = 49 := by omega
            obtain rfl : e = 50 := by omega
            subst hf
            decide +kernel
          · refine no ?_ ne fun z => ?_
            · rw [fe, if_neg]
              rintro ⟨_, z⟩
              obtain ⟨lt, z⟩ := take1 z
              have lt : 0 + 6 + v < 19 := lt
              have small : v < 12 := by omega
              match v, small with
              | 0, _ => cases z
              | 1, _ => cases z
              | 2, _ => cases z
              | 3, _ => cases z
              | 4, _ => cases z
              | 5, _ => cases z
              | 6, _ => have z := Option.some.inj z; omega
              | 7, _ => have z := Option.some.inj z; omega
              | 8, _ => have z := Option.some.inj z; omega
              | 9, _ => have z := Option.some.inj z; omega
              | 10, _ => have z := Option.some.inj z; omega
              | 11, _ => have z := Option.some.inj z; omega
            · rw [lit z] at hN
              cases hN
              exact v12 rfl
end M10

namespace L10_
open PySem PySem.Spec PyProof.Rows L2 Z
open SX M9 M3 M10
def top (i : Nat) : Stmt := PySem.Challenge.pw_inorderonce_k10_frames_refused_and_judge.main.body.getD i (.Pass ⟨0, 0, 0, 0⟩)
-- VARS: e_InvalidText e_InvalidCount e_QueueError
structure Txt (K : PySem.W.Frag) (mg : Str → Option Value) (e_InvalidText e_InvalidCount e_QueueError : Addr) : Prop where
  g_InvalidText : mg "InvalidText" = some (.ref e_InvalidText)
  a_InvalidText : clsAt K "InvalidText" e_InvalidText
  g_InvalidCount : mg "InvalidCount" = some (.ref e_InvalidCount)
  a_InvalidCount : clsAt K "InvalidCount" e_InvalidCount
  g_QueueError : mg "QueueError" = some (.ref e_QueueError)
  a_QueueError : clsAt K "QueueError" e_QueueError
  s_InvalidText : Es K e_InvalidText
  n_InvalidText : PySem.W.findIn K (.ref e_InvalidText) "given" = some none
  x_InvalidText_InvalidText : PySem.W.subIn K (.ref e_InvalidText) (.ref e_InvalidText) = some true
  x_InvalidText_InvalidCount : PySem.W.subIn K (.ref e_InvalidText) (.ref e_InvalidCount) = some false
  t_InvalidText_InvalidText : PySem.W.kitOne K (.ref e_InvalidText) (.ref e_InvalidText) = some true
  t_InvalidText_QueueError : PySem.W.kitOne K (.ref e_InvalidText) (.ref e_QueueError) = some true
  t_InvalidText_InvalidCount : PySem.W.kitOne K (.ref e_InvalidText) (.ref e_InvalidCount) = some false
  s_InvalidCount : Es K e_InvalidCount
  n_InvalidCount : PySem.W.findIn K (.ref e_InvalidCount) "given" = some none
  x_InvalidCount_InvalidText : PySem.W.subIn K (.ref e_InvalidCount) (.ref e_InvalidText) = some false
  x_InvalidCount_InvalidCount : PySem.W.subIn K (.ref e_InvalidCount) (.ref e_InvalidCount) = some true
  t_InvalidCount_InvalidText : PySem.W.kitOne K (.ref e_InvalidCount) (.ref e_InvalidText) = some false
  t_InvalidCount_QueueError : PySem.W.kitOne K (.ref e_InvalidCount) (.ref e_QueueError) = some true
  t_InvalidCount_InvalidCount : PySem.W.kitOne K (.ref e_InvalidCount) (.ref e_InvalidCount) = some true
  q_QueueError : BaseC K e_QueueError
  n_isinstance : mg "isinstance" = none
  n_str : mg "str" = none
  n_len : mg "len" = none
  n_all : mg "all" = none
  n_int : mg "int" = none
  n_tuple : mg "tuple" = none
  n_list : mg "list" = none
  n_bool : mg "bool" = none
  n_sum : mg "sum" = none
  n_abs : mg "abs" = none
  n_range : mg "range" = none
  n_repr : mg "repr" = none
  n_dict : mg "dict" = none
  n_max : mg "max" = none
  n_min : mg "min" = none
  c_MOST_SIGNS : ∃ u, mg "MOST_SIGNS" = some u ∧ RelV (.int (80000)) u
  c_FIGURES : ∃ u, mg "FIGURES" = some u ∧ RelV (.str "0123456789") u
theorem bt_isinstance : bootBuiltins "isinstance" = some (.builtin "isinstance") := by decide +kernel
theorem bt_str : bootBuiltins "str" = some (.type "str") := by decide +kernel
theorem bt_len : bootBuiltins "len" = some (.builtin "len") := by decide +kernel
theorem bt_all : bootBuiltins "all" = some (.builtin "all") := by decide +kernel
theorem bt_int : bootBuiltins "int" = some (.type "int") := by decide +kernel
theorem bt_tuple : bootBuiltins "tuple" = some (.type "tuple") := by decide +kernel
theorem bt_list : bootBuiltins "list" = some (.type "list") := by decide +kernel
theorem bt_bool : bootBuiltins "bool" = some (.type "bool") := by decide +kernel
theorem bt_sum : bootBuiltins "sum" = some (.builtin "sum") := by decide +kernel
theorem bt_abs : bootBuiltins "abs" = some (.builtin "abs") := by decide +kernel
theorem bt_repr : bootBuiltins "repr" = some (.builtin "repr") := by decide +kernel
theorem bt_dict : bootBuiltins "dict" = some (.type "dict") := by decide +kernel
theorem bt_max : bootBuiltins "max" = some (.builtin "max") := by decide +kernel
theorem bt_min : bootBuiltins "min" = some (.builtin "min") := by decide +kernel

abbrev si_InvalidText : Stmt := (clsB (top 3)).getD 0 (.Pass ⟨0, 0, 0, 0⟩)
theorem sci_InvalidText : FnScope ["self", "given"] ["self", "given"] (defScope si_InvalidText) := ⟨rfl, rfl, rfl, by decide +kernel, rfl, by decide +kernel, by decide +kernel⟩
theorem oki_InvalidText {P : Program} {w : World} {K : PySem.W.Frag} {mg : Str → Option Value} {base : Heap} {e_InvalidText e_InvalidCount e_QueueError fI : Addr} {fd : FuncData} (T : Txt K mg e_InvalidText e_InvalidCount e_QueueError) (F : Fun K "__init__" "InvalidText.__init__" si_InvalidText fI fd) (EC : ErrC K e_InvalidText e_QueueError) : FnOk P w K mg base CX0 1 fI fd ["self", "given"] (spIni e_InvalidText "given") := by
  obtain ⟨mc, q1, q2, q3⟩ := T.q_QueueError.ex
  refine ini2 F sci_InvalidText fun cdv A outer s H u v Q E hr h => ⟨_, (pss_cons (ps_expr (pe_binit T.g_QueueError q1 q2 q3 (pa_cons (pz 0) (pa_cons pe_str pa_nil)))) (pss_one (ps_err (pz 0) (pz 1)))), ?_⟩
  obtain ⟨a, rfl, ha, q⟩ := h
  refine ⟨a, _, _, _, rfl, by show 1 ≤ 1000; decide, EC, ha, ?_⟩
  exact ⟨a, _, _, rfl, EC, T.n_InvalidText, ha, fun dx nd ne => q dx nd ne⟩

abbrev si_InvalidCount : Stmt := (clsB (top 2)).getD 0 (.Pass ⟨0, 0, 0, 0⟩)
theorem sci_InvalidCount : FnScope ["self", "given"] ["self", "given"] (defScope si_InvalidCount) := ⟨rfl, rfl, rfl, by decide +kernel, rfl, by decide +kernel, by decide +kernel⟩
theorem oki_InvalidCount {P : Program} {w : World} {K : PySem.W.Frag} {mg : Str → Option Value} {base : Heap} {e_InvalidText e_InvalidCount e_QueueError fI : Addr} {fd : FuncData} (T : Txt K mg e_InvalidText e_InvalidCount e_QueueError) (F : Fun K "__init__" "InvalidCount.__init__" si_InvalidCount fI fd) (EC : ErrC K e_InvalidCount e_QueueError) : FnOk P w K mg base CX0 1 fI fd ["self", "given"] (spIni e_InvalidCount "given") := by
  obtain ⟨mc, q1, q2, q3⟩ := T.q_QueueError.ex
  refine ini2 F sci_InvalidCount fun cdv A outer s H u v Q E hr h => ⟨_, (pss_cons (ps_expr (pe_binit T.g_QueueError q1 q2 q3 (pa_cons (pz 0) (pa_cons pe_str pa_nil)))) (pss_one (ps_err (pz 0) (pz 1)))), ?_⟩
  obtain ⟨a, rfl, ha, q⟩ := h
  refine ⟨a, _, _, _, rfl, by show 1 ≤ 1000; decide, EC, ha, ?_⟩
  exact ⟨a, _, _, rfl, EC, T.n_InvalidCount, ha, fun dx nd ne => q dx nd ne⟩


local macro_rules | `(tactic| walk_at "hp") => `(tactic| first | assumption | (refine Nw.keep (by assumption) ?_; walk_at "hp") | (refine But.at (by assumption) (by assumption) ?_; walk_at "hp") | (refine Wr.keep (by assumption) (by assumption) ?_; walk_at "hp"))
/-! ### promises -/
/-- a box of digits and draws, with at most n draws so far -/
def BoxAt (n : Nat) (H : Hp) (b : Addr) : Prop := ∃ (g : Int) (f : Bool) (s c : Int), H b = some (.lst [.int g, .bl f, .int s, .int c]) ∧ 0 ≤ g ∧ 0 ≤ s ∧ s < 2147483648 ∧ 0 ≤ c ∧ c ≤ n
theorem BoxAt.mono {n m : Nat} {H : Hp} {b : Addr} (h : BoxAt n H b) (e : n ≤ m) : BoxAt m H b := by
  obtain ⟨g, f, s, c, h1, h2, h3, h4, h5, h6⟩ := h
  exact ⟨g, f, s, c, h1, h2, h3, h4, h5, by omega⟩
theorem BoxAt.same {n : Nat} {H H2 : Hp} {b : Addr} (h : BoxAt n H b) (e : Same H H2) : BoxAt n H2 b := by
  obtain ⟨g, f, s, c, h1, h2⟩ := h
  exact ⟨g, f, s, c, e _ _ h1, h2⟩
theorem BoxAt.some {n : Nat} {H : Hp} {b : Addr} (h : BoxAt n H b) : ∃ o, H b = Option.some o := by
  obtain ⟨g, f, s, c, h1, h2⟩ := h
  exact ⟨_, h1⟩
theorem BoxAt.ne {n : Nat} {H : Hp} {b p : Addr} (h : BoxAt n H b) (e : H p = none) : b ≠ p := by
  obtain ⟨o, h⟩ := h.some
  exact ne_of_none h e
theorem BoxAt.wr {n : Nat} {H H2 : Hp} {b l : Addr} {o : HO} (h : BoxAt n H b) (e : b ≠ l) (w : Wr H l o H2) : BoxAt n H2 b := by
  obtain ⟨g, f, s, c, h1, h2⟩ := h
  exact ⟨g, f, s, c, w.keep e h1, h2⟩
theorem BoxAt.but {n : Nat} {H H2 : Hp} {b l : Addr} (h : BoxAt n H b) (e : b ≠ l) (w : But l H H2) : BoxAt n H2 b := by
  obtain ⟨g, f, s, c, h1, h2⟩ := h
  exact ⟨g, f, s, c, w.at e h1, h2⟩
def TX (n : Nat) (l : List Nat) : Prop := Pr l ∧ l.length ≤ n
def sp__law_box (K : PySem.W.Frag) : Sp := sp1 fun great H Q _ => ∃ g, great = .int g ∧ ∀ b H2, H b = none → Same H H2 → BoxAt 0 H2 b → Q (.ref b) H2
def sp__law_cell (K : PySem.W.Frag) : Sp := sp2 fun script k H Q _ => ∃ (a : Addr) (i : Int) (ns : List Int), script = .ref a ∧ k = .int i ∧ 0 ≤ i ∧ i < 1000 ∧ SqL K H a (ns.map V.int) ∧ ns.length ≤ 63 ∧ ∀ z H2, Same H H2 → Q (.int z) H2
def sp__law_take (K : PySem.W.Frag) : Sp := sp2 fun box many H Q _ => ∃ (b : Addr) (m : Int) (n : Nat), box = .ref b ∧ many = .int m ∧ 0 < m ∧ m < 1000000 ∧ BoxAt n H b ∧ n < 1000000 ∧ ∀ r H2, But b H H2 → BoxAt (n + 1) H2 b → 0 ≤ r → r < m → Q (.int r) H2
theorem lit_nil : ("" : Str) = S [] := by decide +kernel
theorem joinSz (ls : List (List Nat)) (h : ls.flatten.length ≤ 10000000) : ((ls.map S).map (·.length)).sum + (ls.map S).length * ("" : Str).length ≤ 16777216 := by
  rw [lit_nil, length_S, lens, ← List.length_flatten]
  show _ + _ * 0 ≤ _
  omega
theorem nself (x : V) : (true ^^ decide (x = x)) = false := by rw [decide_eq_true rfl]; rfl
theorem eself (x : V) : (false ^^ decide (x = x)) = true := by rw [decide_eq_true rfl]; rfl
theorem menuS (ts : List Str) {n : Nat} (ok : (ts.all fun t => (t.cps.toList.all fun c => decide (32 ≤ c) && decide (c ≤ 126)) && decide (t.cps.toList.length ≤ n)) = true) {r : Int} (h0 : 0 ≤ r) (h : r < (ts.length : Int)) :
    ∃ l, atI (ts.map V.str) r = some (.str (S l)) ∧ TX n l := by
  obtain ⟨v, h1, h2, _⟩ := atI_some (xs := ts.map V.str) h0 (by rw [List.length_map]; exact h)
  obtain ⟨t, ht, rfl⟩ := List.mem_map.mp h2
  have q := (List.all_eq_true.mp ok) t ht
  rw [Bool.and_eq_true] at q
  refine ⟨t.cps.toList, ?_, pr_of q.1, of_decide_eq_true q.2⟩
  rw [S_tl]
  exact h1
/-- the signs of the alphabets -/
theorem near_item {t : Str} (h : (t.cps.toList.all fun c => decide (32 ≤ c) && decide (c ≤ 126)) = true) {r : Int} (h0 : 0 ≤ r) (h1 : r < (t.length : Int)) : ∃ c : Nat, atI t.cps.toList r = some c ∧ 32 ≤ c ∧ c ≤ 126 := by
  obtain ⟨c, e1, e2, _⟩ := atI_some (xs := t.cps.toList) h0 (by simpa [Str.length] using h1)
  have := (List.all_eq_true.mp h) c e2
  exact ⟨c, e1, by simpa using this⟩
theorem log_small {n : Nat} (h : n < 10000000) : ((n : Nat) : Int).natAbs.log2 < 1920 := by
  rw [Int.natAbs_natCast]
  rcases Nat.eq_zero_or_pos n with e | e
  · subst e; decide
  · have q : 2 ^ n.log2 ≤ n := Nat.log2_self_le (by omega)
    have h2 : n < 2 ^ 24 := by omega
    have : n.log2 < 24 := (Nat.pow_lt_pow_iff_right (by decide : 1 < 2)).mp (Nat.lt_of_le_of_lt q h2)
    omega
theorem lit_0 : ("0" : Str) = S [48] := by decide +kernel
theorem lit_colon : (":" : Str) = S [58] := by decide +kernel
theorem lit_semi : (";" : Str) = S [59] := by decide +kernel
def optV : Option Nat → V
  | none => .non
  | some e => .int (e : Nat)
def sp__law_frame (K : PySem.W.Frag) : Sp := sp1 fun row H Q _ => ∃ l, row = .str (S l) ∧ l.length ≤ 80000 ∧ Q (.str (S (frL l))) H
def sp_is_list (K : PySem.W.Frag) : Sp := sp1 fun v H Q _ => ∃ k, KindV K H v k ∧ ∀ H2, Same H H2 → Q (.bl (isK k "list" || isK k "tuple")) H2
def sp_is_integer (K : PySem.W.Frag) : Sp := sp1 fun v H Q _ => ∃ d, Vd H v d ∧ Q (.bl (intD d)) H
def sp_is_count (K : PySem.W.Frag) : Sp := sp1 fun v H Q _ => ∃ d, Vd H v d ∧ Q (.bl (cntD d)) H
def sp_is_signs (K : PySem.W.Frag) : Sp := sp1 fun v H Q _ => ∃ d, Vd H v d ∧ txt d = true ∧ Q (.bl (signsD d)) H
def sp_has_frame (K : PySem.W.Frag) : Sp := sp1 fun v H Q _ => ∃ d, Vd H v d ∧ txt d = true ∧ Q (.bl (framD d)) H
def sp_framed (K : PySem.W.Frag) : Sp := sp1 fun v H Q E => (∃ l, v = .str (S l) ∧ Pr l ∧ l.length ≤ 80000 ∧ Q (.str (S (frL l))) H) ∨ (BadI H v ∧ Rz K "InvalidText" "given" v H E)
/-- what is wrong of texts: no list, or a thing within -/
def WrL (K : PySem.W.Frag) (v : V) (H : Hp) (E : XK) : Prop := (NoL K H v ∧ Rz K "InvalidText" "given" v H E) ∨ ∃ x, BadL K H v x ∧ Rz K "InvalidText" "given" x H E
def sp_check_texts (K : PySem.W.Frag) : Sp := sp1 fun v H Q E => (∃ ls, OkL K H v ls ∧ ∀ H2, Same H H2 → Q .non H2) ∨ WrL K v H E
def sp_all_framed (K : PySem.W.Frag) : Sp := sp1 fun v H Q E => (∃ ls, OkL K H v ls ∧ (ls.map frL).flatten.length ≤ 1000000 ∧ ∀ H2, Same H H2 → Q (.str (S (ls.map frL).flatten)) H2) ∨ WrL K v H E
def sp_frame_end (K : PySem.W.Frag) : Sp := sp2 fun v u H Q _ => ∃ (l : List Nat) (i : Nat), v = .str (S l) ∧ u = .int (i : Nat) ∧ Pr l ∧ i ≤ l.length ∧ l.length ≤ 1000000 ∧ ∀ H2, Same H H2 → Q (optV (fEnd l i)) H2
def sp_frames_in (K : PySem.W.Frag) : Sp := sp1 fun v H Q E => (∃ l, v = .str (S l) ∧ Pr l ∧ l.length ≤ 1000000 ∧
  ∀ p q H2, Same H H2 → H p = none → H q = none → H2 q = some (.lst (strsV (sc l 0).1)) → H2 p = some (.tup [.ref q, .int ((sc l 0).2 : Nat)]) → Q (.ref p) H2) ∨ (BadS H v ∧ Rz K "InvalidText" "given" v H E)
def sp_is_whole (K : PySem.W.Frag) : Sp := sp1 fun v H Q _ => (∃ l, v = .str (S l) ∧ Pr l ∧ l.length ≤ 1000000 ∧ ∀ H2, Same H H2 → Q (.bl (decide ((sc l 0).2 = l.length))) H2) ∨ (BadS H v ∧ Q (.bl false) H)
def sp_cut_at (K : PySem.W.Frag) : Sp := sp2 fun v u H Q E => (∃ ls k, OkL K H v ls ∧ u = .int (k : Nat) ∧ ∀ H2, Same H H2 → Q (.int (M9.cnt ls k : Nat)) H2) ∨ WrL K v H E ∨ ∃ ls d, OkL K H v ls ∧ Vd H u d ∧ cntD d = false ∧ Rz K "InvalidCount" "given" u H E
/-- what a door tells of a wrong thing -/
def Ref (w : Str) (x : V) (H : Hp) (Q : VK) : Prop := ∀ p H2, Same H H2 → H p = none → p ≠ sysModules → H2 p = some (.lst [.str w, x, .bl true, .bl false]) → Q (.ref p) H2
def sp__law_met (K : PySem.W.Frag) : Sp := sp3 fun door thing more H Q _ => ∃ i : Int, door = .int i ∧
  (((i = 0 ∨ i = 1) ∧ BadI H thing ∧ Ref "text" thing H Q) ∨ ((i = 2 ∨ i = 3) ∧ BadS H thing ∧ Ref "text" thing H Q) ∨
   ((i = 4 ∨ i = 5 ∨ i = 6 ∨ i = 7) ∧ ∃ x, ((NoL K H more ∧ x = more) ∨ BadL K H more x) ∧ Ref "text" x H Q) ∨
   (i = 7 ∧ (∃ ls d, OkL K H more ls ∧ Vd H thing d ∧ cntD d = false) ∧ Ref "count" thing H Q) ∨
   (i = 0 ∧ ∃ l, thing = .str (S l) ∧ Pr l ∧ l.length ≤ 80000 ∧ ∀ p H2, Same H H2 → H2 p = some (.lst [.str "told", .str (S (frL l))]) → Q (.ref p) H2) ∨
   (i = 2 ∧ ∃ l, thing = .str (S l) ∧ Pr l ∧ l.length ≤ 1000000 ∧ ∀ p q r H2, Same H H2 → H2 r = some (.lst (strsV (sc l 0).1)) → H2 q = some (.tup [.ref r, .int ((sc l 0).2 : Nat)]) → H2 p = some (.lst [.str "told", .ref q]) → Q (.ref p) H2))
theorem okL_of {K : PySem.W.Frag} {H : Hp} {v : V} {ls : List (List Nat)} (h : OkL K H v ls) : ∃ a, v = .ref a ∧ ∃ k, KindV K H v k ∧ (isK k "list" || isK k "tuple") = true := by
  obtain ⟨a, rfl, h | h, _⟩ := h
  · exact ⟨a, rfl, "list", .inl ⟨rfl, _, h⟩, rfl⟩
  · exact ⟨a, rfl, "tuple", .inr (.inl ⟨rfl, _, h⟩), rfl⟩
theorem vd_S {H : Hp} (l : List Nat) : Vd H (.str (S l)) (.str (S l)) := ⟨true, .str _⟩
theorem fram_S {l : List Nat} (h : Pr l) (hl : l.length ≤ 80000) : framD (.str (S l)) = true := by
  show (prS (S l) && decide ((S l).length ≤ 80000)) = true
  rw [prS_of h, length_S, decide_eq_true hl]
  rfl
def smallD : PyData → Bool
  | .list ds => decide (ds.length ≤ 10)
  | _ => true
/-- a thing that may be shown, also with more in it -/
def thD (d : PyData) : Bool := oddOk d && smallD d
theorem thD_of {d : PyData} (h : thD d = true) : oddOk d = true ∧ smallD d = true := by
  unfold thD at h
  rw [Bool.and_eq_true] at h
  exact h
theorem BoxAt.tg {n : Nat} {H H2 : Hp} {b : Addr} (h : BoxAt n H b) (t : But b H H2) {v : V} {d : PyData} (g : Tg H v d) (k : thD d = true) : Tg H2 v d := by
  obtain ⟨_, _, _, _, hb, _⟩ := h
  exact g.but hb rfl t (odd_nobox (thD_of k).1)
theorem BoxAt.neq {n : Nat} {H : Hp} {b p : Addr} {o : HO} (h : BoxAt n H b) (e : H p = Option.some o) (ne : ∀ g f s c, o ≠ .lst [.int g, .bl f, .int s, .int c]) : p ≠ b := fun z => by
  obtain ⟨g, f, s, c, hb, _⟩ := h
  rw [← z, e] at hb
  exact ne g f s c (Option.some.inj hb)
def sp__law_text (K : PySem.W.Frag) : Sp := sp1 fun box H Q _ => ∃ (b : Addr) (n : Nat), box = .ref b ∧ BoxAt n H b ∧ n < 800000 ∧ ∀ l H2, But b H H2 → BoxAt (n + 8) H2 b → TX 6 l → Q (.str (S l)) H2
def sp__law_bad (K : PySem.W.Frag) : Sp := sp1 fun box H Q _ => ∃ (b : Addr) (n : Nat), box = .ref b ∧ BoxAt n H b ∧ n < 700000 ∧ ∀ v d H2, But b H H2 → BoxAt (n + 12) H2 b → Tg H2 v d → thD d = true → txt d = true → signsD d = false → Q v H2
def sp__law_no_list (K : PySem.W.Frag) : Sp := sp1 fun box H Q _ => ∃ (b : Addr) (n : Nat), box = .ref b ∧ BoxAt n H b ∧ n < 700000 ∧ ∀ v d H2, But b H H2 → BoxAt (n + 1) H2 b → Tg H2 v d → thD d = true → (isK (kindD d) "list" || isK (kindD d) "tuple") = false → Q v H2
def sp__law_no_count (K : PySem.W.Frag) : Sp := sp1 fun box H Q _ => ∃ (b : Addr) (n : Nat), box = .ref b ∧ BoxAt n H b ∧ n < 700000 ∧ ∀ v d H2, But b H H2 → BoxAt (n + 1) H2 b → Tg H2 v d → thD d = true → cntD d = false → Q v H2
def sp__law_copy (K : PySem.W.Frag) : Sp := sp1 fun thing H Q _ => ∃ d, Tg H thing d ∧ ∀ v2 H2, Same H H2 → Tg H2 v2 d → (∀ a, v2 = .ref a → H a = none ∨ ∃ xs, H2 a = some (.tup xs)) → Q v2 H2
def sp__law_is_met (K : PySem.W.Frag) : Sp := sp3 fun told word thing H Q _ => ∃ p w d, told = .ref p ∧ word = .str w ∧ oddOk (.str w) = true ∧ H p = some (.lst [.str w, thing, .bl true, .bl false]) ∧ p ≠ sysModules ∧ Tg H thing d ∧ thD d = true ∧ (∀ a, thing = .ref a → a ≠ p) ∧
  ∀ H2, (∀ b o, H b = some o → (thing ≠ .ref b ∨ ∃ xs, o = .tup xs) → H2 b = some o) → Q (.bl true) H2
theorem odd_asc {l : List Nat} (h : ∀ c ∈ l, c < 128) (hl : l.length ≤ 100) : oddOk (.str (S l)) = true := by
  have e : (PyData.str (S l)).shown = reprText (S l) := by simp only [PyData.shown]
  have r := PySem.StrLaws.reprText_len (S l) (fun c hc => by
    rw [cps_S] at hc
    have := h c hc
    omega)
  have ls := length_S l
  have h1 : asc1 (.str (S l)) = true := by
    show (asciiS (S l) && decide ((S l).length ≤ 100000)) = true
    rw [asc_of h, length_S, decide_eq_true (by omega)]
    rfl
  unfold oddOk
  rw [e, h1]
  show (true && true && decide (0 ≤ 3) && decide ((reprText (S l)).length ≤ 2000) && true) = true
  rw [decide_eq_true (p := (reprText (S l)).length ≤ 2000) (by omega)]
  rfl
theorem marks {i : Int} (h0 : 0 ≤ i) (h1 : i < 2) : ∃ c : Nat, atI ("\n\t" : Str).cps.toList i = some c ∧ (c = 9 ∨ c = 10) := by
  have e : ("\n\t" : Str).cps.toList = [10, 9] := by decide +kernel
  rw [e]
  obtain ⟨c, h, hm, _⟩ := atI_some (xs := [10, 9]) h0 (by exact h1)
  refine ⟨c, h, ?_⟩
  simp only [List.mem_cons, List.not_mem_nil, or_false] at hm
  omega
/-- a text with another sign in it is no text of signs -/
theorem odd_sign {p q : List Nat} {c : Nat} (hc : c = 9 ∨ c = 10) : signsD (.str (S (p ++ [c] ++ q))) = false := by
  show prS _ = false
  unfold prS
  rw [cps_S, List.all_append, List.all_append]
  have : ([c].all fun c => decide (32 ≤ c) && decide (c ≤ 126)) = false := by
    rcases hc with rfl | rfl <;> rfl
  rw [this, Bool.and_false, Bool.false_and]
theorem asc_sign {p q : List Nat} {c : Nat} (hp : Pr p) (hq : Pr q) (hc : c = 9 ∨ c = 10) : ∀ x ∈ p ++ [c] ++ q, x < 128 := fun x hx => by
  rw [List.append_assoc, List.mem_append, List.mem_append, List.mem_singleton] at hx
  rcases hx with hx | rfl | hx
  · exact lt_pr hp x hx
  · omega
  · exact lt_pr hq x hx
theorem show_le : ∀ {ds : List PyData} {d : PyData}, d ∈ ds → PyData.showableAll ds = true → d.showable = true ∧ d.depth ≤ PyData.depthAll ds
  | x :: r, d, hd, hs => by
    have hs : (x.showable && PyData.showableAll r) = true := hs
    rw [Bool.and_eq_true] at hs
    have e : PyData.depthAll (x :: r) = max x.depth (PyData.depthAll r) := rfl
    rcases List.mem_cons.mp hd with rfl | hd
    · exact ⟨hs.1, by omega⟩
    · obtain ⟨a, b⟩ := show_le hd hs.2
      exact ⟨a, by omega⟩
theorem from_ge : ∀ (ts : List Str) (k : Nat) (acc : Str), acc.length + (ts.map (·.length)).sum ≤ (textFrom k acc ts).length
  | [], k, acc => Nat.le_refl _
  | t :: r, k, acc => by
    have ih := from_ge r (k + 1) (acc ++ (if k > 0 then ", " else "" : String) ++ t)
    rw [List.map_cons, List.sum_cons]
    show _ ≤ (textFrom (k + 1) (acc ++ (if k > 0 then ", " else "" : String) ++ t) r).length
    have e : acc.length + t.length ≤ (acc ++ (if k > 0 then ", " else "" : String) ++ t).length := by
      rw [strLen_append, strLen_append]
      omega
    omega
theorem shown_in : ∀ {ds : List PyData} {d : PyData}, d ∈ ds → d.shown.length ≤ ((PyData.shownAll ds).map (·.length)).sum
  | x :: r, d, hd => by
    rw [PyData.shownAll, List.map_cons, List.sum_cons]
    rcases List.mem_cons.mp hd with rfl | hd
    · omega
    · have := shown_in hd
      omega
theorem sw_parts {ds : List PyData} (h : oddOk (.list ds) = true) : ∀ d ∈ ds, Sw 3 2000 d := fun d hd => by
  obtain ⟨_, a, b, c⟩ := oddOk_of h
  obtain ⟨e1, e2⟩ := show_le hd (show PyData.showableAll ds = true from a)
  have b : PyData.depthAll ds + 1 ≤ 3 := b
  have e : (PyData.list ds).shown = listText (PyData.shownAll ds) := by rw [PyData.shown]
  rw [e] at c
  unfold listText at c
  rw [strLen_append] at c
  have g := from_ge (PyData.shownAll ds) 0 "["
  have i := shown_in hd
  exact ⟨e1, by omega, by omega⟩
theorem _root_.M10.Tg.some {H : Hp} {a : Addr} {d : PyData} (h : Tg H (.ref a) d) : ∃ o, H a = Option.some o := by
  cases h with
  | flat h z => cases h <;> cases z
  | tup h _ _ => exact ⟨_, h⟩
  | lst h _ _ _ => exact ⟨_, h⟩
  | dic h => exact ⟨_, h⟩
/-- what was there is kept, if but a copy of one's own is changed -/
theorem kept {H H1 H3 H4 : Hp} {t : V} (s1 : Same H H1) (s3 : Same H1 H3) (fr : ∀ a, t = .ref a → H a = none ∨ ∃ xs, H1 a = some (.tup xs)) (k : ∀ b o, H3 b = some o → (t ≠ .ref b ∨ ∃ xs, o = .tup xs) → H4 b = some o) : Same H H4 := fun b o e => by
  have e1 := s1 _ _ e
  refine k b o (s3 _ _ e1) ?_
  by_cases z : t = .ref b
  · rcases fr b z with f | ⟨xs, f⟩
    · rw [f] at e
      cases e
    · rw [f] at e1
      exact .inr ⟨xs, (Option.some.inj e1).symm⟩
  · exact .inl z
theorem keptB {b : Addr} {H H1 H3 H4 : Hp} {t : V} (s1 : Same H H1) (s3 : But b H1 H3) (fr : ∀ a, t = .ref a → H a = none ∨ ∃ xs, H1 a = some (.tup xs)) (k : ∀ b o, H3 b = some o → (t ≠ .ref b ∨ ∃ xs, o = .tup xs) → H4 b = some o) : But b H H4 := fun c o nc e => by
  have e1 := s1 _ _ e
  refine k c o (s3 c o nc e1) ?_
  by_cases z : t = .ref c
  · rcases fr c z with f | ⟨xs, f⟩
    · rw [f] at e
      cases e
    · rw [f] at e1
      exact .inr ⟨xs, (Option.some.inj e1).symm⟩
  · exact .inl z
theorem BoxAt.off {n m : Nat} {H H1 H3 H4 : Hp} {b : Addr} {t : V} (h : BoxAt n H b) (h3 : BoxAt m H3 b) (s1 : Same H H1) (fr : ∀ a, t = .ref a → H a = none ∨ ∃ xs, H1 a = Option.some (.tup xs)) (k : ∀ b o, H3 b = Option.some o → (t ≠ .ref b ∨ ∃ xs, o = .tup xs) → H4 b = Option.some o) : BoxAt m H4 b := by
  obtain ⟨g, f, s, c, e, r⟩ := h3
  refine ⟨g, f, s, c, k _ _ e (.inl fun z => ?_), r⟩
  obtain ⟨_, _, _, _, e0, _⟩ := h
  rcases fr b z with f | ⟨xs, f⟩
  · rw [f] at e0
    cases e0
  · rw [s1 _ _ e0] at f
    cases f
def sp__law_texts_refused (K : PySem.W.Frag) : Sp := sp1 fun box H Q _ => ∃ (b : Addr) (n : Nat), box = .ref b ∧ BoxAt n H b ∧ n < 500000 ∧ ∀ H2, But b H H2 → BoxAt (n + 300) H2 b → Q (.bl true) H2
def sp__law_lists_refused (K : PySem.W.Frag) : Sp := sp1 fun box H Q _ => ∃ (b : Addr) (n : Nat), box = .ref b ∧ BoxAt n H b ∧ n < 500000 ∧ ∀ H2, But b H H2 → BoxAt (n + 100) H2 b → Q (.bl true) H2
theorem shaped_ref {w : Str} {l : List Nat} (hw : PyData.strOk w = true) (h : ∀ c ∈ l, c < 128) : SeqAt.shaped (.list [.str w, .str (S l), .bool true, .bool false]) = true := by
  have e : PyData.strOk (S l) = true := by
    show ((S l).cps.all fun c => decide (c < 0x110000)) = true
    rw [← Array.all_toList, cps_S, List.all_eq_true]
    intro c hc
    exact decide_eq_true (by have := h c hc; omega)
  show ((PyData.strOk w && (PyData.strOk (S l) && (true && (true && true)))) && decide (_ ≤ 64)) = true
  rw [hw, e]
  rfl
theorem dp_ref {K : PySem.W.Frag} {H : Hp} {p : Addr} {w x : Str} (h : H p = some (.lst [.str w, .str x, .bl true, .bl false])) : Dp K H (.ref p) (.list [.str w, .str x, .bool true, .bool false]) := .lst (SqL.of h) (.cons (.str _) (.cons (.str _) (.cons (.bl _) (.cons (.bl _) .nil))))
theorem dzAll_strs {g : Bool} {H : Hp} : ∀ ls : List (List Nat), DzAll g H (strsV ls) (ls.map fun l => .str (S l))
  | [] => .nil
  | l :: r => .cons (.str _) (dzAll_strs r)
theorem strsV_take (ls : List (List Nat)) (j : Nat) : (strsV ls).take j = strsV (ls.take j) := by simp [strsV, List.map_take]
theorem strsV_drop (ls : List (List Nat)) (j : Nat) : (strsV ls).drop j = strsV (ls.drop j) := by simp [strsV, List.map_drop]
theorem dzAll_rep {g : Bool} {H : Hp} {v : V} {d : PyData} (h : Dz g H v d) : ∀ k : Nat, DzAll g H (List.replicate k [v]).flatten (List.replicate k d)
  | 0 => .nil
  | k + 1 => by
    rw [List.replicate_succ, List.flatten_cons, List.replicate_succ]
    exact .cons h (dzAll_rep h k)
/-- the list or tuple of texts with a thing within -/
theorem more_data {H : Hp} {ls : List (List Nat)} {j k : Nat} {t v2 : V} {d d2 : PyData} (ht : Dz true H t d) (h2 : Dz true H v2 d2) :
    DzAll true H (strsV (ls.take j) ++ t :: (strsV (ls.drop j) ++ (List.replicate k [v2]).flatten)) ((ls.take j).map (fun l => PyData.str (S l)) ++ d :: ((ls.drop j).map (fun l => PyData.str (S l)) ++ List.replicate k d2)) :=
  DzAll.app (dzAll_strs _) (.cons ht (DzAll.app (dzAll_strs _) (dzAll_rep h2 k)))
theorem more_sw {ls : List (List Nat)} {j k : Nat} {d d2 : PyData} (hl : ls.length ≤ 3) (hls : ∀ l ∈ ls, TX 6 l) (hk : k ≤ 1) (h1 : oddOk d = true) (h2 : oddOk d2 = true) :
    (∀ e ∈ (ls.take j).map (fun l => PyData.str (S l)) ++ d :: ((ls.drop j).map (fun l => PyData.str (S l)) ++ List.replicate k d2), Sw 3 2000 e) ∧ ((ls.take j).map (fun l => PyData.str (S l)) ++ d :: ((ls.drop j).map (fun l => PyData.str (S l)) ++ List.replicate k d2)).length ≤ 8 := by
  have ok : ∀ l ∈ ls, Sw 3 2000 (.str (S l)) := fun l hl => sw_odd (odd_str (hls l hl).1 (by have := (hls l hl).2; omega))
  constructor
  · intro e he
    rcases List.mem_append.mp he with he | he
    · obtain ⟨l, hl, rfl⟩ := List.mem_map.mp he
      exact ok l (List.mem_of_mem_take hl)
    · rcases List.mem_cons.mp he with rfl | he
      · exact sw_odd h1
      · rcases List.mem_append.mp he with he | he
        · obtain ⟨l, hl, rfl⟩ := List.mem_map.mp he
          exact ok l (List.mem_of_mem_drop hl)
        · rw [(List.mem_replicate.mp he).2]
          exact sw_odd h2
  · rw [List.length_append, List.length_cons, List.length_append, List.length_map, List.length_map, List.length_replicate, List.length_take, List.length_drop]
    omega
theorem rep_len1 (k : Nat) (v : V) : (List.replicate k [v]).flatten.length = k := by simp
def sp__law_at_the_bound (K : PySem.W.Frag) : Sp := fun vs H Q E => vs = [] ∧ (fun (H : Hp) (Q : VK) (_ : XK) => ∀ H2, Same H H2 → Q (.bl true) H2) H Q E
def sp__law_taken (K : PySem.W.Frag) : Sp := sp1 fun box H Q _ => ∃ (b : Addr) (n : Nat), box = .ref b ∧ BoxAt n H b ∧ n < 500000 ∧ ∀ H2, But b H H2 → BoxAt (n + 20) H2 b → Q (.bl true) H2
def sp_law (K : PySem.W.Frag) : Sp := sp1 fun v H Q _ => ∃ (a : Addr) (ns : List Int), v = .ref a ∧ SqL K H a (ns.map V.int) ∧ ns.length ≤ 63 ∧ ∀ H2, Q (.bl true) H2
theorem sh_told {l : List Nat} (h : Pr l) : SeqAt.shaped (.list [.str "told", .str (S l)]) = true := by
  show ((PyData.strOk "told" && (PyData.strOk (S l) && true)) && decide (_ ≤ 64)) = true
  rw [strOk_S h, show PyData.strOk "told" = true by decide +kernel]
  rfl
theorem sh_told2 {l : List Nat} {i : Int} (h : Pr l) : SeqAt.shaped (.list [.str "told", .tuple [strsD [l], .int i]]) = true := by
  show ((PyData.strOk "told" && (((PyData.strOk (S l) && true) && (true && true)) && true)) && decide (_ ≤ 64)) = true
  rw [strOk_S h, show PyData.strOk "told" = true by decide +kernel]
  rfl
theorem lit_z : ("00000:;" : Str) = S [48, 48, 48, 48, 48, 58, 59] := by decide +kernel
theorem lit_sp : (" " : Str) = S [32] := by decide +kernel
section
variable {P : Program} {w : World} {K : PySem.W.Frag} {mg : Str → Option Value} {base : Heap}
variable {e_InvalidText e_InvalidCount e_QueueError : Addr}
/-! ### is_signs(value), level 1 -/
abbrev s_is_signs : Stmt := top 8
abbrev N_is_signs : List Str := ["value"]
theorem sc_is_signs : FnScope N_is_signs ["value"] (defScope s_is_signs) := ⟨rfl, rfl, rfl, by decide +kernel, rfl, by decide +kernel, by decide +kernel⟩
theorem ok_is_signs (T : Txt K mg e_InvalidText e_InvalidCount e_QueueError) (D : Df K mg "is_signs" s_is_signs ["value"]) : Ct P w K mg base CX0 1 "is_signs" ["value"] (sp_is_signs K) := by
  refine ct1 D sc_is_signs fun f cdv A outer s H a_value Q E hr h => ⟨_, (pss_one (ps_ret (pe_andZ (pe_callB (k_isi K) (by rfl) T.n_isinstance bt_isinstance (pa_cons (pz 0) (pa_cons (pe_bltn (v := .ty "str") (by rfl) T.n_str bt_str rfl) pa_nil))) (pe_andZ (pe_ms0 PySem.F.slot_str_isascii PySem.F.type_str_isascii m_isascii (pz 0)) (pe_one (pe_ms0 PySem.F.slot_str_isprintable PySem.F.type_str_isprintable m_isprintable (pz 0))))))), ?_⟩
  obtain ⟨d, hd, ha, q⟩ := h
  refine ⟨by decide, kindD d, hd.kind, ?_⟩
  cases d with
  | str x =>
    obtain rfl := hd.str
    have hx := (Bool.and_eq_true _ _ ▸ ha : asciiS x = true ∧ _).1
    refine iteY (isascii_D hx) ?_
    show Q (.bl (Txt.isprintable x)) H
    rw [isprintable_D hx]
    exact q
  | _ => exact q

/-! ### has_frame(value), level 2 -/
abbrev s_has_frame : Stmt := top 12
abbrev N_has_frame : List Str := ["value"]
theorem sc_has_frame : FnScope N_has_frame ["value"] (defScope s_has_frame) := ⟨rfl, rfl, rfl, by decide +kernel, rfl, by decide +kernel, by decide +kernel⟩
theorem ok_has_frame (T : Txt K mg e_InvalidText e_InvalidCount e_QueueError) (C_is_signs : Ct P w K mg base CX0 1 "is_signs" ["value"] (sp_is_signs K)) (D : Df K mg "has_frame" s_has_frame ["value"]) : Ct P w K mg base CX0 2 "has_frame" ["value"] (sp_has_frame K) := by
  refine ct1 D sc_has_frame fun f cdv A outer s H a_value Q E hr h => ⟨_, (pss_one (ps_ret (pe_andZ (pe_cl C_is_signs (hr.mono (by decide)) pass0 (pa_cons (pz 0) pa_nil)) (pe_one (pe_cmpR o_le (pe_callB (k_len K) (by rfl) T.n_len bt_len (pa_cons (pz 0) pa_nil)) (pe_gk T.c_MOST_SIGNS) (nomark _)))))), ?_⟩
  obtain ⟨d, hd, ha, q⟩ := h
  refine ⟨d, hd, ha, ?_⟩
  cases d with
  | str x =>
    obtain rfl := hd.str
    have hx : x.length ≤ 1000000 := of_decide_eq_true (Bool.and_eq_true _ _ ▸ ha : asciiS x = true ∧ _).2
    have q : Q (.bl (prS x && decide (x.length ≤ 80000))) H := q
    cases hp : prS x with
    | false =>
      rw [hp] at q
      exact iteN hp q
    | true =>
      rw [hp] at q
      refine iteY hp ?_
      refine ⟨sz (by omega), ?_⟩
      show Q (.bl (decide ((x.length : Int) ≤ 80000))) H
      rw [show decide ((x.length : Int) ≤ 80000) = (true && decide (x.length ≤ 80000)) by simp; omega]
      exact q
  | _ => exact q

/-! ### framed(text), level 3 -/
abbrev s_framed : Stmt := top 14
abbrev N_framed : List Str := ["text"]
theorem sc_framed : FnScope N_framed ["text"] (defScope s_framed) := ⟨rfl, rfl, rfl, by decide +kernel, rfl, by decide +kernel, by decide +kernel⟩
theorem ok_framed (T : Txt K mg e_InvalidText e_InvalidCount e_QueueError) (R_InvalidText : Er P w K mg base 1 "InvalidText" "given" e_InvalidText) (C_has_frame : Ct P w K mg base CX0 2 "has_frame" ["value"] (sp_has_frame K)) (D : Df K mg "framed" s_framed ["text"]) : Ct P w K mg base (L2.CX P w) 3 "framed" ["text"] (sp_framed K) := by
  refine cx1 D sc_framed fun f cdv A outer s H a_text Q E hr h => ⟨_, (pss_cons (ps_if (pt_not (pt_trK K (pe_cl C_has_frame (hr.mono (by decide)) pass0 (pa_cons (pz 0) pa_nil)))) 
      (pss_one (ps_rz rfl (takes_of rfl rfl rfl rfl) R_InvalidText (hr.mono (by decide)) (pa_cons (pz 0) pa_nil))) pss_nil)
    (pss_one (ps_ret (pe_op (k_add K) (pe_op (k_add K) (pe_op (k_add K) (pe_ms PySem.F.slot_str_zfill PySem.F.type_str_zfill m_zfill (pe_callTy c_str (by rfl) T.n_str bt_str (pa_cons (pe_callB (k_len K) (by rfl) T.n_len bt_len (pa_cons (pz 0) pa_nil)) pa_nil)) (pa_cons pe_int pa_nil)) pe_str) (pz 0)) pe_str)))), ?_⟩
  rcases h with ⟨l, rfl, hp, hl, q⟩ | ⟨⟨d, b1, b2, b3⟩, rz⟩
  · obtain ⟨n1, n2⟩ := numL5 (n := l.length) (by omega)
    refine ⟨_, vd_S l, txt_S (lt_pr hp) (by omega), ?_⟩
    rw [fram_S hp hl]
    refine ⟨sz (by rw [length_S]; omega), ?_⟩
    rw [length_S]
    refine ⟨log_small (by omega), ?_⟩
    rw [num_S]
    refine ⟨by decide, ?_⟩
    rw [zfill_S (by omega), lit_colon]
    refine ⟨sz (by simp only [length_S, List.length_append, List.length_replicate, List.length_singleton]; omega), ?_⟩
    rw [S_cat]
    refine ⟨sz (by simp only [length_S, List.length_append, List.length_replicate, List.length_singleton]; omega), ?_⟩
    rw [S_cat, lit_semi]
    refine ⟨sz (by simp only [length_S, List.length_append, List.length_replicate, List.length_singleton]; omega), ?_⟩
    rw [S_cat]
    exact q
  · refine ⟨d, b1, b2, ?_⟩
    rw [b3]
    refine fun d H3 n3 => ?_
    exact rz.go T.a_InvalidText (Same.refl _) n3

/-! ### frame_end(text, start), level 1 -/
abbrev s_frame_end : Stmt := top 16
abbrev N_frame_end : List Str := ["text", "start", "head", "signs", "end", "sign"]
theorem sc_frame_end : FnScope N_frame_end ["text", "start"] (defScope s_frame_end) := ⟨rfl, rfl, rfl, by decide +kernel, rfl, by decide +kernel, by decide +kernel⟩
theorem ok_frame_end (T : Txt K mg e_InvalidText e_InvalidCount e_QueueError) (D : Df K mg "frame_end" s_frame_end ["text", "start"]) : Ct P w K mg base CX0 1 "frame_end" ["text", "start"] (sp_frame_end K) := by
  refine ct2 D sc_frame_end fun f cdv A outer s H a_text a_start Q E hr h => ⟨_, (pss_cons (ps_set (i := 2) sc_frame_end.nd rfl (Or.inl rfl) (pe_slice (k_sl K) (pz 0) (po_z (pz 1)) (po_z (pe_op (k_add K) (pz 1) pe_int))))
    (pss_cons (ps_if (PW.pt (pw_or (pt_cmpZ o_ltS (pe_callB (k_len K) (by rfl) T.n_len bt_len (pa_cons (pz 2) pa_nil)) pe_int (nomark _)) (pw_or (pt_cmpZ (k_ne K hr.units) (pe_ix (k_ix K) (pz 2) pe_int (fun _ _ => rfl)) pe_str (nomark _)) (pw_or1 (pt_not (pt_trK K (pe_callB (k_all K rfl) (by rfl) T.n_all bt_all (pa_cons (pe_lcz (own := [("sign", 5)]) (by rfl) sc_frame_end.nd (pi_sz (pe_slice (k_sl K) (pz 2) po_none (po_z pe_int))) (blkOk_by (own := [("sign", 5)]) (N := N_frame_end) (sc := defScope s_frame_end) (by decide +kernel)) (fun _ _ _ _ _ => (pg_name (i := 5) sc_frame_end.nd rfl (Or.inl rfl))) (fun _ _ _ _ _ => pts_nil) (fun _ _ _ _ _ => (pe_cmpR (k_in K) (pz 5) (pe_gk T.c_FIGURES) (by rfl)))) pa_nil)))))))) 
      (pss_one (ps_ret pe_non)) pss_nil)
    (pss_cons (ps_set (i := 3) sc_frame_end.nd rfl (Or.inl rfl) (pe_callTy c_int (by rfl) T.n_int bt_int (pa_cons (pe_slice (k_sl K) (pz 2) po_none (po_z pe_int)) pa_nil)))
    (pss_cons (ps_set (i := 4) sc_frame_end.nd rfl (Or.inl rfl) (pe_op (k_add K) (pe_op (k_add K) (pz 1) pe_int) (pz 3)))
    (pss_cons (ps_if (PW.pt (pw_or (pt_cmpZ o_gtS (pz 3) (pe_gk T.c_MOST_SIGNS) (nomark _)) (pw_or1 (pt_cmpZ (k_ne K hr.units) (pe_slice (k_sl K) (pz 0) (po_z (pz 4)) (po_z (pe_op (k_add K) (pz 4) pe_int))) pe_str (nomark _))))) 
      (pss_one (ps_ret pe_non)) pss_nil)
    (pss_one (ps_ret (pe_op (k_add K) (pz 4) pe_int)))))))), ?_⟩
  obtain ⟨l, i, rfl, rfl, hp, hi, hl, q⟩ := h
  refine ⟨sz (by rw [length_S]; omega), ?_⟩
  rw [show ((i : Nat) : Int) + 6 = ((i + 6 : Nat) : Int) by omega, cut_nn, Nat.add_sub_cancel_left]
  generalize hd : (l.drop i).take 6 = hh
  have hpr : Pr hh := by rw [← hd]; exact pr_take _ (pr_drop _ hp)
  have hlen : hh.length ≤ 6 := by rw [← hd, List.length_take]; omega
  have bad : headN hh = none → ∀ H2, Same H H2 → Q .non H2 := fun e H2 s2 => by
    have z := q H2 s2
    unfold fEnd at z
    rw [hd, e] at z
    exact z
  refine ⟨sz (by rw [length_S]; omega), ?_⟩
  refine ite2 (fun h1 => ?_) (fun h1 => ?_)
  · rw [length_S] at h1
    have h1' : hh.length < 6 := by have := dT h1; omega
    exact bad (if_pos (.inl h1')) H (Same.refl H)
  · rw [length_S] at h1
    have h6 : hh.length = 6 := by
      have := dF h1
      omega
    have e5 : hh[5]? = some hh[5] := List.getElem?_eq_getElem (by omega)
    refine ⟨hh[5], sz (by rw [length_S]; omega), by rw [cps_S]; exact atI_nat e5, ?_⟩
    refine ite2 (fun h2 => ?_) (fun h2 => ?_)
    · have h2' : hh[5] ≠ 58 := fun e => by
        rw [e] at h2
        exact absurd h2 (by decide)
      exact bad (if_pos (.inr (.inl (by rw [e5]; exact fun z => h2' (Option.some.inj z))))) H (Same.refl H)
    · have h58 : hh[5] = 58 := by
        rcases Nat.decEq hh[5] 58 with e | e
        · exfalso
          refine h2 ?_
          have : ¬ (V.str (S [hh[5]]) = V.str (":" : Str)) := fun z => by
            have z' := V.str.inj z
            rw [lit_colon] at z'
            exact e (List.cons.inj (S_inj z')).1
          show (true ^^ decide (V.str (S [hh[5]]) = V.str (":" : Str))) = true
          rw [decide_eq_false this]
          rfl
        · exact e
      refine ⟨sz (by rw [length_S]; omega), ?_⟩
      rw [show cutS (S hh) none (some 5) = S (hh.take 5) from cut_n (b := 5)]
      generalize h5 : hh.take 5 = c5
      have l5 : c5.length = 5 := by rw [← h5, List.length_take]; omega
      refine fun D hD => lc_w (wk_str (S c5)) (by rw [signsV_len, length_S]; omega) (fun i acc H3 => Same H H3 ∧ acc = ((c5.take i).map isdig).map V.bl) (fun H3 n3 => ⟨n3.same, rfl⟩) (fun _ _ _ _ => trivial)
        (fun i acc H3 p => by rw [p.2, List.length_map, List.length_map, List.length_take]; omega) ?_ ?_
      · rintro i x acc H3 hx hD3 ⟨s3, rfl⟩
        obtain ⟨c, hc, rfl⟩ := signsV_at hx
        rw [cps_S] at hc
        refine ⟨rfl, ?_⟩
        refine ⟨c, rfl, hD3, fun H5 w5 => ⟨s3.wr hD w5, ?_⟩⟩
        rw [dig_in, List.take_add_one, hc, List.map_append, List.map_append]
        simp
      · rintro acc H3 _ hD3 ⟨s3, rfl⟩
        rw [signsV_len, length_S, List.take_length] at hD3
        refine ⟨c5.map isdig, SqL.of hD3, ?_⟩
        rw [← digs_all]
        refine ite2 (fun h3 => ?_) (fun h3 => ?_)
        · have h3' : digs c5 = false := by simpa using h3
          exact bad (if_pos (.inr (.inr (by rw [h5]; exact h3')))) H3 s3
        · have h3' : digs c5 = true := by simpa using h3
          have hN : headN hh = some (PySem.NumText.digitsVal c5) := by
            unfold headN
            rw [if_neg, h5]
            rintro (z | z | z)
            · omega
            · rw [e5, h58] at z
              exact z rfl
            · rw [h5, h3'] at z
              cases z
          have hv : PySem.NumText.digitsVal c5 < 100000 := by
            have := digitsVal_lt c5 h3'
            rw [l5] at this
            omega
          refine ⟨sz (by rw [length_S]; omega), ?_⟩
          rw [show cutS (S hh) none (some 5) = S (hh.take 5) from cut_n (b := 5), h5]
          refine ⟨_, intText_head l5 h3', by rw [length_S]; omega, ?_⟩
          generalize hn : PySem.NumText.digitsVal c5 = n at hN hv
          refine ite2 (fun h4 => ?_) (fun h4 => ?_)
          · have h4' := dT h4
            have z := q H3 s3
            unfold fEnd at z
            rw [hd, hN] at z
            have z' : Q (optV (if n ≤ 80000 ∧ (l.drop (i + 6 + n)).take 1 = [59] then some (i + 6 + n + 1) else none)) H3 := z
            rw [if_neg (fun w => by omega)] at z'
            exact z'
          · have h4' := dF h4
            refine ⟨sz (by rw [length_S]; omega), ?_⟩
            rw [show ((i : Nat) : Int) + 6 + ((n : Nat) : Int) = ((i + 6 + n : Nat) : Int) by omega, show ((i + 6 + n : Nat) : Int) + 1 = ((i + 6 + n + 1 : Nat) : Int) by omega, cut_nn, Nat.add_sub_cancel_left]
            have z := q H3 s3
            unfold fEnd at z
            rw [hd, hN] at z
            have z' : Q (optV (if n ≤ 80000 ∧ (l.drop (i + 6 + n)).take 1 = [59] then some (i + 6 + n + 1) else none)) H3 := z
            refine ite2 (fun h6 => ?_) (fun h6 => ?_)
            · rw [if_neg] at z'
              · exact z'
              · rintro ⟨_, w⟩
                rw [w, lit_semi] at h6
                exact absurd h6 (by decide)
            · rw [if_pos] at z'
              · exact z'
              · refine ⟨by omega, ?_⟩
                have h6' : V.str (S ((l.drop (i + 6 + n)).take 1)) = V.str (";" : Str) := by
                  have : (true ^^ decide (V.str (S ((l.drop (i + 6 + n)).take 1)) = V.str (";" : Str))) ≠ true := h6
                  by_cases e : V.str (S ((l.drop (i + 6 + n)).take 1)) = V.str (";" : Str)
                  · exact e
                  · rw [decide_eq_false e] at this
                    exact absurd rfl this
                rw [lit_semi] at h6'
                exact S_inj (V.str.inj h6')

/-! ### frames_in(text), level 3 -/
abbrev s_frames_in : Stmt := top 17
abbrev N_frames_in : List Str := ["text", "texts", "start", "end"]
theorem sc_frames_in : FnScope N_frames_in ["text"] (defScope s_frames_in) := ⟨rfl, rfl, rfl, by decide +kernel, rfl, by decide +kernel, by decide +kernel⟩
theorem ok_frames_in (T : Txt K mg e_InvalidText e_InvalidCount e_QueueError) (R_InvalidText : Er P w K mg base 1 "InvalidText" "given" e_InvalidText) (C_is_signs : Ct P w K mg base CX0 1 "is_signs" ["value"] (sp_is_signs K)) (C_frame_end : Ct P w K mg base CX0 1 "frame_end" ["text", "start"] (sp_frame_end K)) (D : Df K mg "frames_in" s_frames_in ["text"]) : Ct P w K mg base (L2.CX P w) 3 "frames_in" ["text"] (sp_frames_in K) := by
  refine cx1 D sc_frames_in fun f cdv A outer s H a_text Q E hr h => ⟨_, (pss_cons (ps_if (pt_not (pt_trK K (pe_cl C_is_signs (hr.mono (by decide)) pass0 (pa_cons (pz 0) pa_nil)))) 
      (pss_one (ps_rz rfl (takes_of rfl rfl rfl rfl) R_InvalidText (hr.mono (by decide)) (pa_cons (pz 0) pa_nil))) pss_nil)
    (pss_cons (ps_parZ (i := 1) (j := 2) (by rfl) sc_frames_in.nd rfl rfl (by decide) rfl rfl (pa_cons (pe_lz pa_nil) (pa_cons pe_int pa_nil)) (by rfl))
    (pss_cons (ps_set (i := 3) sc_frames_in.nd rfl (Or.inl rfl) (pe_cl C_frame_end (hr.mono (by decide)) pass0 (pa_cons (pz 0) (pa_cons (pz 2) pa_nil))))
    (pss_cons (ps_while (passes_of rfl) (pt_cmpZ o_isn (pz 3) pe_non (nomark _)) 
      (pss_cons (ps_expr (pe_mlK K PySem.F.slot_list_append PySem.F.type_list_append m_append (pz 1) (pa_cons (pe_slice (k_sl K) (pz 0) (po_z (pe_op (k_add K) (pz 2) pe_int)) (po_z (pe_op o_sub (pz 3) pe_int))) pa_nil)))
      (pss_cons (ps_set (i := 2) sc_frames_in.nd rfl (Or.inl rfl) (pz 3))
      (pss_one (ps_set (i := 3) sc_frames_in.nd rfl (Or.inl rfl) (pe_cl C_frame_end (hr.mono (by decide)) pass0 (pa_cons (pz 0) (pa_cons (pz 2) pa_nil))))))))
    (pss_one (ps_ret (pe_tz (pa_cons (pz 1) (pa_cons (pz 2) pa_nil))))))))), ?_⟩
  rcases h with ⟨l, rfl, hp, hl, q⟩ | ⟨⟨d, b1, b2, b3⟩, rz⟩
  rotate_left
  · refine ⟨d, b1, b2, ?_⟩
    rw [b3]
    refine fun d H3 n3 => ?_
    exact rz.go T.a_InvalidText (Same.refl _) n3
  refine ⟨_, vd_S l, txt_S (lt_pr hp) hl, ?_⟩
  rw [show signsD (.str (S l)) = true from prS_of hp]
  refine ⟨Nat.zero_le _, fun t H2 n2 => ?_⟩
  refine ⟨l, 0, rfl, rfl, hp, Nat.zero_le _, hl, fun H3 s3 => ?_⟩
  refine ⟨fun m σ H' => ∃ (ls : List (List Nat)) (st : Nat), σ = [some (.str (S l)), some (.ref t), some (.int (st : Nat)), some (optV (fEnd l st))] ∧ H' t = some (.lst (strsV ls)) ∧ Same H H' ∧
      st ≤ l.length ∧ ls ++ (sc l st).1 = (sc l 0).1 ∧ (sc l st).2 = (sc l 0).2 ∧ ls.length ≤ st ∧ m = l.length - st, ⟨_, [], 0, rfl, s3 _ _ n2.here, n2.same.trans s3, Nat.zero_le _, rfl, rfl, Nat.zero_le _, rfl⟩, ?_⟩
  rintro m σ H' ⟨ls, st, rfl, ht, s4, hst, e1, e2, hls, rfl⟩
  cases he : fEnd l st with
  | none =>
    rw [sc_none he] at e1 e2
    refine ⟨by show 2 ≤ sizeLine; decide, fun p H4 n4 => ?_⟩
    refine q p t H4 (s4.trans n4.same) (s4.free n4.fresh) n2.fresh ?_ ?_
    · rw [n4.keep ht, ← e1, List.append_nil]
    · rw [← e2]
      exact n4.here
  | some e =>
    have bd := fEnd_bounds he
    rw [sc_some he] at e1 e2
    refine ⟨_, fun σ' H'' w => w, ?_⟩
    refine ⟨⟨_, SqL.of ht⟩, ?_⟩
    refine ⟨sz (by rw [length_S]; omega), ?_⟩
    rw [show ((st : Nat) : Int) + 6 = ((st + 6 : Nat) : Int) by omega, show ((e : Nat) : Int) - 1 = ((e - 1 : Nat) : Int) by omega, cut_nn]
    refine ⟨_, ht, szlt (by rw [strsV_len]; omega), fun H4 w4 => ?_⟩
    have s5 := s4.wr n2.fresh w4
    refine ⟨l, e, rfl, rfl, hp, bd.2, hl, fun H5 s6 => ?_⟩
    refine ⟨l.length - e, by omega, ls ++ [(l.drop (st + 6)).take (e - 1 - (st + 6))], e, rfl, ?_, s5.trans s6, bd.2, ?_, e2, ?_, rfl⟩
    · rw [strsV_app]
      exact s6 _ _ w4.here
    · rw [List.append_assoc]
      exact e1
    · rw [List.length_append, List.length_singleton]
      omega

/-! ### is_list(value), level 1 -/
abbrev s_is_list : Stmt := top 5
abbrev N_is_list : List Str := ["value"]
theorem sc_is_list : FnScope N_is_list ["value"] (defScope s_is_list) := ⟨rfl, rfl, rfl, by decide +kernel, rfl, by decide +kernel, by decide +kernel⟩
theorem ok_is_list (T : Txt K mg e_InvalidText e_InvalidCount e_QueueError) (D : Df K mg "is_list" s_is_list ["value"]) : Ct P w K mg base CX0 1 "is_list" ["value"] (sp_is_list K) := by
  refine ct1 D sc_is_list fun f cdv A outer s H a_value Q E hr h => ⟨_, (pss_one (ps_ret (pe_callB (k_isi K) (by rfl) T.n_isinstance bt_isinstance (pa_cons (pz 0) (pa_cons (pe_tz (pa_cons (pe_bltn (v := .ty "list") (by rfl) T.n_list bt_list rfl) (pa_cons (pe_bltn (v := .ty "tuple") (by rfl) T.n_tuple bt_tuple rfl) pa_nil))) pa_nil))))), ?_⟩
  obtain ⟨k, hk, q⟩ := h
  refine ⟨by show 2 ≤ sizeLine; decide, fun p H2 n2 => ?_⟩
  exact ⟨"list", "tuple", k, n2.here, by decide, by decide, hk.same n2.same, q H2 n2.same⟩

/-! ### check_texts(texts), level 3 -/
abbrev s_check_texts : Stmt := top 13
abbrev N_check_texts : List Str := ["texts", "text"]
theorem sc_check_texts : FnScope N_check_texts ["texts"] (defScope s_check_texts) := ⟨rfl, rfl, rfl, by decide +kernel, rfl, by decide +kernel, by decide +kernel⟩
theorem ok_check_texts (T : Txt K mg e_InvalidText e_InvalidCount e_QueueError) (R_InvalidText : Er P w K mg base 1 "InvalidText" "given" e_InvalidText) (C_is_list : Ct P w K mg base CX0 1 "is_list" ["value"] (sp_is_list K)) (C_has_frame : Ct P w K mg base CX0 2 "has_frame" ["value"] (sp_has_frame K)) (D : Df K mg "check_texts" s_check_texts ["texts"]) : Ct P w K mg base (L2.CX P w) 3 "check_texts" ["texts"] (sp_check_texts K) := by
  refine cx1 D sc_check_texts fun f cdv A outer s H a_texts Q E hr h => ⟨_, (pss_cons (ps_if (pt_not (pt_trK K (pe_cl C_is_list (hr.mono (by decide)) pass0 (pa_cons (pz 0) pa_nil)))) 
      (pss_one (ps_rz rfl (takes_of rfl rfl rfl rfl) R_InvalidText (hr.mono (by decide)) (pa_cons (pz 0) pa_nil))) pss_nil)
    (pss_one (ps_for (passes_of rfl) rfl (pi_or (pi_lzK K (pz 0)) (pi_tzK K (pz 0))) (pg_name (i := 1) sc_check_texts.nd rfl (Or.inl rfl)) 
      (pss_one (ps_if (pt_not (pt_trK K (pe_cl C_has_frame (hr.mono (by decide)) pass0 (pa_cons (pz 1) pa_nil)))) 
        (pss_one (ps_rz rfl (takes_of rfl rfl rfl rfl) R_InvalidText (hr.mono (by decide)) (pa_cons (pz 1) pa_nil))) pss_nil))))), ?_⟩
  have badNow : ∀ {x : V} {σ : L2.St} {H1 : Hp} {R : Hp → Prop}, BadI H1 x → True := fun _ => trivial
  rcases h with ⟨ls, hx, q⟩ | ⟨⟨k, hk, hn⟩, rz⟩ | ⟨x, ⟨a, pre, post, rfl, hx, hp, hb⟩, rz⟩
  · obtain ⟨a, rfl, k, hk, hk1⟩ := okL_of hx
    obtain ⟨a', e, hx, hls⟩ := hx
    cases e
    refine ⟨k, hk, fun H2 s2 => ?_⟩
    rw [hk1]
    rcases hx with hx | hx
    · refine .inl ⟨⟨_, sqL_same s2 hx⟩, for_w (wk_list (strsV ls)) (fun i σ H' => Same H H' ∧ ∃ v, σ = [some (.ref a), v]) ⟨s2, none, rfl⟩ (fun i σ H' p => sqL_same p.1 hx) ?_ (fun σ H' p => q H' p.1)⟩
      rintro i x σ H' hx' ⟨s3, v, rfl⟩
      obtain ⟨l, h1, rfl, hm⟩ := strsV_at hx'
      obtain ⟨p1, p2⟩ := hls l hm
      refine ⟨_, vd_S l, txt_S (lt_pr p1) (by omega), ?_⟩
      rw [fram_S p1 p2]
      exact ⟨s3, _, rfl⟩
    · refine .inr ⟨⟨_, sqT_same s2 hx⟩, for_w (wk_tup (strsV ls)) (fun i σ H' => Same H H' ∧ ∃ v, σ = [some (.ref a), v]) ⟨s2, none, rfl⟩ (fun i σ H' p => sqT_same p.1 hx) ?_ (fun σ H' p => q H' p.1)⟩
      rintro i x σ H' hx' ⟨s3, v, rfl⟩
      obtain ⟨l, h1, rfl, hm⟩ := strsV_at hx'
      obtain ⟨p1, p2⟩ := hls l hm
      refine ⟨_, vd_S l, txt_S (lt_pr p1) (by omega), ?_⟩
      rw [fram_S p1 p2]
      exact ⟨s3, _, rfl⟩
  · refine ⟨k, hk, fun H2 s2 => ?_⟩
    rw [hn]
    refine fun d H3 n3 => ?_
    exact rz.go T.a_InvalidText s2 n3
  · have kd : ∃ k, KindV K H (.ref a) k ∧ (isK k "list" || isK k "tuple") = true := by
      rcases hx with hx | hx
      · exact ⟨"list", .inl ⟨rfl, _, hx⟩, rfl⟩
      · exact ⟨"tuple", .inr (.inl ⟨rfl, _, hx⟩), rfl⟩
    obtain ⟨k, hk, hk1⟩ := kd
    refine ⟨k, hk, fun H2 s2 => ?_⟩
    rw [hk1]
    have len : (strsV pre ++ x :: post).length = pre.length + (post.length + 1) := by rw [List.length_append, strsV_len, List.length_cons]
    rcases hx with hx | hx
    case' inl => refine .inl ⟨⟨_, sqL_same s2 hx⟩, for_w (wk_list (strsV pre ++ x :: post)) (fun i σ H' => i ≤ pre.length ∧ Same H H' ∧ ∃ v, σ = [some (.ref a), v]) ⟨Nat.zero_le _, s2, none, rfl⟩ (fun i σ H' p => sqL_same p.2.1 hx) ?_ (fun σ H' p => absurd p.1 (by rw [len]; omega))⟩
    case' inr => refine .inr ⟨⟨_, sqT_same s2 hx⟩, for_w (wk_tup (strsV pre ++ x :: post)) (fun i σ H' => i ≤ pre.length ∧ Same H H' ∧ ∃ v, σ = [some (.ref a), v]) ⟨Nat.zero_le _, s2, none, rfl⟩ (fun i σ H' p => sqT_same p.2.1 hx) ?_ (fun σ H' p => absurd p.1 (by rw [len]; omega))⟩
    all_goals
      rintro i y σ H' hy ⟨hi, s3, v, rfl⟩
      rcases strs_pre hy hi with ⟨lt, l, hm, rfl⟩ | ⟨rfl, rfl⟩
      · obtain ⟨p1, p2⟩ := hp l hm
        refine ⟨_, vd_S l, txt_S (lt_pr p1) (by omega), ?_⟩
        rw [fram_S p1 p2]
        exact ⟨lt, s3, _, rfl⟩
      · obtain ⟨d, b1, b2, b3⟩ := hb.same s3
        refine ⟨d, b1, b2, ?_⟩
        rw [b3]
        refine fun d H3 n3 => ?_
        exact rz.go T.a_InvalidText s3 n3

/-! ### all_framed(texts), level 4 -/
abbrev s_all_framed : Stmt := top 15
abbrev N_all_framed : List Str := ["texts", "text"]
theorem sc_all_framed : FnScope N_all_framed ["texts"] (defScope s_all_framed) := ⟨rfl, rfl, rfl, by decide +kernel, rfl, by decide +kernel, by decide +kernel⟩
theorem ok_all_framed (C_check_texts : Ct P w K mg base (L2.CX P w) 3 "check_texts" ["texts"] (sp_check_texts K)) (C_framed : Ct P w K mg base (L2.CX P w) 3 "framed" ["text"] (sp_framed K)) (D : Df K mg "all_framed" s_all_framed ["texts"]) : Ct P w K mg base (L2.CX P w) 4 "all_framed" ["texts"] (sp_all_framed K) := by
  refine cx1 D sc_all_framed fun f cdv A outer s H a_texts Q E hr h => ⟨_, (pss_cons (ps_expr (pe_clS C_check_texts (hr.mono (by decide)) (takes_of rfl rfl rfl rfl) (pa_cons (pz 0) pa_nil)))
    (pss_one (ps_ret (pe_ms PySem.F.slot_str_join PySem.F.type_str_join (mk_join K) pe_str (pa_cons (pe_lcz (own := [("text", 1)]) (by rfl) sc_all_framed.nd (pi_or (pi_lzK K (pz 0)) (pi_tzK K (pz 0))) (blkOk_by (own := [("text", 1)]) (N := N_all_framed) (sc := defScope s_all_framed) (by decide +kernel)) (fun _ _ _ _ _ => (pg_name (i := 1) sc_all_framed.nd rfl (Or.inl rfl))) (fun _ _ _ _ _ => pts_nil) (fun _ _ _ _ _ => (pe_cl C_framed (hr.mono (by decide)) passL (pa_cons (pz 1) pa_nil)))) pa_nil))))), ?_⟩
  rcases h with ⟨ls, hx, hz, q⟩ | h
  rotate_left
  · refine .inr ?_
    exact h
  obtain ⟨a, rfl, hx, hls⟩ := hx
  have hz2 : ls.length ≤ 1000000 := by
    have : ls.length * 7 ≤ (ls.map frL).flatten.length := by
      clear hx hz q
      induction ls with
      | nil => simp
      | cons x r ih =>
        have h1 := frL_len (l := x) (by have := (hls x List.mem_cons_self).2; omega)
        have h2 := ih fun l hl => hls l (List.mem_cons_of_mem _ hl)
        rw [List.map_cons, List.flatten_cons, List.length_append, List.length_cons, h1]
        omega
    omega
  refine .inl ⟨ls, ⟨a, rfl, hx, hls⟩, fun H2 s2 => ?_⟩
  have fin : ∀ (D : Addr) (H4 : Hp), H2 D = none → H4 D = some (.lst (strsV (ls.map frL))) → Same H2 H4 → zJoin K "" [.ref D] H4 Q := fun D H4 hD h4 s4 => by
    refine ⟨(ls.map frL).map S, .inl (SqL.of h4), joinSz _ (by omega), ?_⟩
    rw [join_flat lit_nil]
    exact q H4 (s2.trans s4)
  have turn : ∀ (D : Addr) (hD : H2 D = none) (i : Nat) (x : V) (acc : List V) (H3 : Hp), (strsV ls)[i]? = some x → H3 D = some (.lst acc) → (Same H2 H3 ∧ acc = strsV ((ls.take i).map frL)) →
      gName 1 x (wipe [some (.ref a), none] [1]) H3 fun σ2 H2' => wipe σ2 [1] = wipe [some (.ref a), none] [1] ∧ tYes σ2 H2' fun b H3 => if b = true then tCl (sp_framed K) E0 (tCons (tV 1) tNil) σ2 H3 fun y H4 => H4 D = some (.lst acc) ∧ ∀ H5, Wr H4 D (.lst (acc ++ [y])) H5 → (Same H2 H5 ∧ acc ++ [y] = strsV ((ls.take (i + 1)).map frL)) else H3 D = some (.lst acc) ∧ (Same H2 H3 ∧ acc = strsV ((ls.take (i + 1)).map frL)) := by
    rintro D hD i x acc H3 hx' hD3 ⟨s3, rfl⟩
    obtain ⟨l, h1, rfl, hm⟩ := strsV_at hx'
    refine ⟨rfl, ?_⟩
    refine .inl ⟨l, rfl, (hls l hm).1, (hls l hm).2, hD3, fun H5 w5 => ⟨s3.wr hD w5, ?_⟩⟩
    rw [List.take_add_one, h1, List.map_append]
    exact (strsV_app _ _).symm
  rcases hx with hx | hx
  · refine .inl ⟨⟨_, sqL_same s2 hx⟩, fun D hD => lc_w (wk_list (strsV ls)) (by rw [strsV_len]; omega) (fun i acc H3 => Same H2 H3 ∧ acc = strsV ((ls.take i).map frL)) (fun H3 n3 => ⟨n3.same, rfl⟩) (fun i acc H3 p => sqL_same (s2.trans p.1) hx)
      (fun i acc H3 p => by rw [p.2, strsV_len, List.length_map, List.length_take]; omega) (turn D hD) (fun acc H4 _ h4 p => ?_)⟩
    obtain ⟨p1, rfl⟩ := p
    rw [strsV_len, List.take_length] at h4
    exact fin D H4 hD h4 p1
  · refine .inr ⟨⟨_, sqT_same s2 hx⟩, fun D hD => lc_w (wk_tup (strsV ls)) (by rw [strsV_len]; omega) (fun i acc H3 => Same H2 H3 ∧ acc = strsV ((ls.take i).map frL)) (fun H3 n3 => ⟨n3.same, rfl⟩) (fun i acc H3 p => sqT_same (s2.trans p.1) hx)
      (fun i acc H3 p => by rw [p.2, strsV_len, List.length_map, List.length_take]; omega) (turn D hD) (fun acc H4 _ h4 p => ?_)⟩
    obtain ⟨p1, rfl⟩ := p
    rw [strsV_len, List.take_length] at h4
    exact fin D H4 hD h4 p1

/-! ### is_integer(value), level 1 -/
abbrev s_is_integer : Stmt := top 6
abbrev N_is_integer : List Str := ["value"]
theorem sc_is_integer : FnScope N_is_integer ["value"] (defScope s_is_integer) := ⟨rfl, rfl, rfl, by decide +kernel, rfl, by decide +kernel, by decide +kernel⟩
theorem ok_is_integer (T : Txt K mg e_InvalidText e_InvalidCount e_QueueError) (D : Df K mg "is_integer" s_is_integer ["value"]) : Ct P w K mg base CX0 1 "is_integer" ["value"] (sp_is_integer K) := by
  refine ct1 D sc_is_integer fun f cdv A outer s H a_value Q E hr h => ⟨_, (pss_one (ps_ret (pe_andZ (pe_callB (k_isi K) (by rfl) T.n_isinstance bt_isinstance (pa_cons (pz 0) (pa_cons (pe_bltn (v := .ty "int") (by rfl) T.n_int bt_int rfl) pa_nil))) (pe_one (pe_notZ (pe_callB (k_isi K) (by rfl) T.n_isinstance bt_isinstance (pa_cons (pz 0) (pa_cons (pe_bltn (v := .ty "bool") (by rfl) T.n_bool bt_bool rfl) pa_nil)))))))), ?_⟩
  obtain ⟨d, hd, q⟩ := h
  refine ⟨by decide, kindD d, hd.kind, ?_⟩
  cases d with
  | bool b =>
    refine ⟨by decide, _, hd.kind, ?_⟩
    exact q
  | int i =>
    refine ⟨by decide, _, hd.kind, ?_⟩
    exact q
  | _ => exact q

/-! ### is_count(value), level 2 -/
abbrev s_is_count : Stmt := top 7
abbrev N_is_count : List Str := ["value"]
theorem sc_is_count : FnScope N_is_count ["value"] (defScope s_is_count) := ⟨rfl, rfl, rfl, by decide +kernel, rfl, by decide +kernel, by decide +kernel⟩
theorem ok_is_count (C_is_integer : Ct P w K mg base CX0 1 "is_integer" ["value"] (sp_is_integer K)) (D : Df K mg "is_count" s_is_count ["value"]) : Ct P w K mg base CX0 2 "is_count" ["value"] (sp_is_count K) := by
  refine ct1 D sc_is_count fun f cdv A outer s H a_value Q E hr h => ⟨_, (pss_one (ps_ret (pe_andZ (pe_cl C_is_integer (hr.mono (by decide)) pass0 (pa_cons (pz 0) pa_nil)) (pe_one (pe_cmpR o_ge (pz 0) pe_int (nomark _)))))), ?_⟩
  obtain ⟨d, hd, q⟩ := h
  refine ⟨d, hd, ?_⟩
  cases d with
  | int i =>
    obtain rfl := hd.int
    exact q
  | _ => exact q

/-! ### cut_at(texts, signs), level 4 -/
abbrev s_cut_at : Stmt := top 19
abbrev N_cut_at : List Str := ["texts", "signs", "many", "end", "text"]
theorem sc_cut_at : FnScope N_cut_at ["texts", "signs"] (defScope s_cut_at) := ⟨rfl, rfl, rfl, by decide +kernel, rfl, by decide +kernel, by decide +kernel⟩
theorem ok_cut_at (T : Txt K mg e_InvalidText e_InvalidCount e_QueueError) (R_InvalidCount : Er P w K mg base 1 "InvalidCount" "given" e_InvalidCount) (C_check_texts : Ct P w K mg base (L2.CX P w) 3 "check_texts" ["texts"] (sp_check_texts K)) (C_is_count : Ct P w K mg base CX0 2 "is_count" ["value"] (sp_is_count K)) (D : Df K mg "cut_at" s_cut_at ["texts", "signs"]) : Ct P w K mg base (L2.CX P w) 4 "cut_at" ["texts", "signs"] (sp_cut_at K) := by
  refine cx2 D sc_cut_at fun f cdv A outer s H a_texts a_signs Q E hr h => ⟨_, (pss_cons (ps_expr (pe_clS C_check_texts (hr.mono (by decide)) (takes_of rfl rfl rfl rfl) (pa_cons (pz 0) pa_nil)))
    (pss_cons (ps_if (pt_not (pt_trK K (pe_cl C_is_count (hr.mono (by decide)) pass0 (pa_cons (pz 1) pa_nil)))) 
      (pss_one (ps_rz rfl (takes_of rfl rfl rfl rfl) R_InvalidCount (hr.mono (by decide)) (pa_cons (pz 1) pa_nil))) pss_nil)
    (pss_cons (ps_asg (pe_tz (pa_cons pe_int (pa_cons pe_int pa_nil))) (pg_tzK K (by rfl) (pgs_cz (pg_name (i := 2) sc_cut_at.nd rfl (Or.inl rfl)) (pgs_cz (pg_name (i := 3) sc_cut_at.nd rfl (Or.inl rfl)) pgs_nz))))
    (pss_cons (ps_for (passes_of rfl) rfl (pi_or (pi_lzK K (pz 0)) (pi_tzK K (pz 0))) (pg_name (i := 4) sc_cut_at.nd rfl (Or.inl rfl)) 
      (pss_cons (ps_aug (i := 3) sc_cut_at.nd rfl (Or.inl rfl) (pe_op (k_add K) (pe_callB (k_len K) (by rfl) T.n_len bt_len (pa_cons (pz 4) pa_nil)) pe_int) ip_add)
      (pss_cons (ps_if (pt_cmpZ o_gtS (pz 3) (pz 1) (nomark _)) 
        (pss_one (ps_ret (pz 2))) pss_nil)
      (pss_one (ps_aug (i := 2) sc_cut_at.nd rfl (Or.inl rfl) pe_int ip_add)))))
    (pss_one (ps_ret (pz 2))))))), ?_⟩
  rcases h with ⟨ls, k, hok, rfl, q⟩ | h | ⟨ls, d, hok, hd, hc, rz⟩
  rotate_left
  · refine .inr ?_
    exact h
  · refine .inl ⟨ls, hok, fun H2 s2 => ?_⟩
    refine ⟨d, hd.same s2, ?_⟩
    rw [hc]
    refine fun d H3 n3 => ?_
    exact rz.go T.a_InvalidCount s2 n3
  obtain ⟨a, rfl, hx, hls⟩ := id hok
  refine .inl ⟨ls, hok, fun H2 s2 => ?_⟩
  refine ⟨.int (k : Nat), ⟨true, .int _⟩, ?_⟩
  rw [show cntD (.int (k : Nat)) = true by show decide ((0 : Int) ≤ ((k : Nat) : Int)) = true; exact decide_eq_true (by omega)]
  refine ⟨by show 2 ≤ sizeLine; decide, fun p H3 n3 => ?_⟩
  refine ⟨_, SqT.of n3.here, rfl, ?_⟩
  have s23 := s2.trans n3.same
  let Pv : Nat → L2.St → Hp → Prop := fun i σ H' => Same H H' ∧ ∃ (m e : Nat) (w : Option V), σ = [some (.ref a), some (.int (k : Nat)), some (.int (m : Nat)), some (.int (e : Nat)), w] ∧ e ≤ k ∧ cnt ls k = m + cnt (ls.drop i) (k - e)
  have h0 : Pv 0 [some (.ref a), some (.int (k : Nat)), some (.int ((0 : Nat) : Int)), some (.int ((0 : Nat) : Int)), none] H3 := ⟨s23, 0, 0, none, rfl, Nat.zero_le _, by rw [List.drop_zero, Nat.zero_add]; rfl⟩
  have fin : ∀ σ H', Pv (strsV ls).length σ H' → tV 2 σ H' Q := by
    rintro σ H' ⟨s4, m, e, w, rfl, he, hc⟩
    rw [strsV_len, List.drop_length] at hc
    show Q (.int (m : Nat)) H'
    rw [show m = M9.cnt ls k from (Nat.add_zero m ▸ hc.symm)]
    exact q H' s4
  rcases hx with hx | hx
  case' inl => refine .inl ⟨⟨_, sqL_same s23 hx⟩, for_w (wk_list (strsV ls)) Pv h0 (fun i σ H' p => sqL_same p.1 hx) ?_ (fun σ H' p => fin σ H' p)⟩
  case' inr => refine .inr ⟨⟨_, sqT_same s23 hx⟩, for_w (wk_tup (strsV ls)) Pv h0 (fun i σ H' p => sqT_same p.1 hx) ?_ (fun σ H' p => fin σ H' p)⟩
  all_goals
    rintro i x σ H' hx' ⟨s4, m, e, w, rfl, he, hc⟩
    obtain ⟨l, h1, rfl, hm⟩ := strsV_at hx'
    have hd : ls.drop i = l :: ls.drop (i + 1) := by
      obtain ⟨hi, rfl⟩ := List.getElem?_eq_some_iff.mp h1
      exact List.drop_eq_getElem_cons hi
    rw [hd, M9.cnt] at hc
    have hl := (hls l hm).2
    refine ⟨_, rfl, sz (by rw [length_S]; omega), ?_⟩
    rw [length_S]
    refine ⟨_, _, rfl, rfl, ?_⟩
    refine ite2 (fun hk => ?_) (fun hk => ?_)
    · have hk' : ((e : Nat) : Int) + (((l.length : Nat) : Int) + 7) > ((k : Nat) : Int) := dT hk
      rw [if_neg (by omega)] at hc
      show Q (.int (m : Nat)) H'
      rw [show m = M9.cnt ls k from hc.symm]
      exact q H' s4
    · have hk' : ¬ ((e : Nat) : Int) + (((l.length : Nat) : Int) + 7) > ((k : Nat) : Int) := dF hk
      rw [if_pos (by omega)] at hc
      refine ⟨_, rfl, _, _, rfl, rfl, s4, m + 1, e + (l.length + 7), _, rfl, by omega, ?_⟩
      rw [hc, show k - (e + (l.length + 7)) = k - e - (l.length + 7) by omega]
      omega

/-! ### _law_met(_law_door, _law_thing, _law_more), level 5 -/
abbrev s__law_met : Stmt := top 29
abbrev N__law_met : List Str := ["_law_door", "_law_thing", "_law_more", "e"]
theorem sc__law_met : FnScope N__law_met ["_law_door", "_law_thing", "_law_more"] (defScope s__law_met) := ⟨rfl, rfl, rfl, by decide +kernel, rfl, by decide +kernel, by decide +kernel⟩
theorem ok__law_met (T : Txt K mg e_InvalidText e_InvalidCount e_QueueError) (C_framed : Ct P w K mg base (L2.CX P w) 3 "framed" ["text"] (sp_framed K)) (C_frames_in : Ct P w K mg base (L2.CX P w) 3 "frames_in" ["text"] (sp_frames_in K)) (C_all_framed : Ct P w K mg base (L2.CX P w) 4 "all_framed" ["texts"] (sp_all_framed K)) (C_cut_at : Ct P w K mg base (L2.CX P w) 4 "cut_at" ["texts", "signs"] (sp_cut_at K)) (K_framed : CtK P w K mg base (L2.CX P w) 3 "framed" ["text"] ["text"] perm_0 (sp_framed K)) (K_frames_in : CtK P w K mg base (L2.CX P w) 3 "frames_in" ["text"] ["text"] perm_0 (sp_frames_in K)) (K_all_framed : CtK P w K mg base (L2.CX P w) 4 "all_framed" ["texts"] ["texts"] perm_0 (sp_all_framed K)) (K_cut_at_signs_texts : CtK P w K mg base (L2.CX P w) 4 "cut_at" ["texts", "signs"] ["signs", "texts"] perm_1_0 (sp_cut_at K)) (D : Df K mg "_law_met" s__law_met ["_law_door", "_law_thing", "_law_more"]) : Ct P w K mg base CX0 5 "_law_met" ["_law_door", "_law_thing", "_law_more"] (sp__law_met K) := by
  refine ct3 D sc__law_met fun f cdv A outer s H a_door a_thing a_more Q E hr h => ⟨_, (pss_one (ps_tryC rfl rfl sc__law_met.nd takes0 (fun W pn xe tk ps => 
        (pss_cons (ps_if (pt_cmpZ (k_eq K hr.units) (pz 0) pe_int (nomark _)) 
          (pss_one (ps_ret (pe_lzS (pa_cons pe_str (pa_cons (pe_clS C_framed (hr.mono (by decide)) tk (pa_cons (pz 1) pa_nil)) pa_nil))))) pss_nil)
        (pss_cons (ps_if (pt_cmpZ (k_eq K hr.units) (pz 0) pe_int (nomark _)) 
          (pss_one (ps_ret (pe_lzS (pa_cons pe_str (pa_cons (pe_clKS K_framed (hr.mono (by decide)) tk (pk_cons (pz 1) pk_nil)) pa_nil))))) pss_nil)
        (pss_cons (ps_if (pt_cmpZ (k_eq K hr.units) (pz 0) pe_int (nomark _)) 
          (pss_one (ps_ret (pe_lzS (pa_cons pe_str (pa_cons (pe_clS C_frames_in (hr.mono (by decide)) tk (pa_cons (pz 1) pa_nil)) pa_nil))))) pss_nil)
        (pss_cons (ps_if (pt_cmpZ (k_eq K hr.units) (pz 0) pe_int (nomark _)) 
          (pss_one (ps_ret (pe_lzS (pa_cons pe_str (pa_cons (pe_clKS K_frames_in (hr.mono (by decide)) tk (pk_cons (pz 1) pk_nil)) pa_nil))))) pss_nil)
        (pss_cons (ps_if (pt_cmpZ (k_eq K hr.units) (pz 0) pe_int (nomark _)) 
          (pss_one (ps_ret (pe_lzS (pa_cons pe_str (pa_cons (pe_clS C_all_framed (hr.mono (by decide)) tk (pa_cons (pz 2) pa_nil)) pa_nil))))) pss_nil)
        (pss_cons (ps_if (pt_cmpZ (k_eq K hr.units) (pz 0) pe_int (nomark _)) 
          (pss_one (ps_ret (pe_lzS (pa_cons pe_str (pa_cons (pe_clKS K_all_framed (hr.mono (by decide)) tk (pk_cons (pz 2) pk_nil)) pa_nil))))) pss_nil)
        (pss_cons (ps_if (pt_cmpZ (k_eq K hr.units) (pz 0) pe_int (nomark _)) 
          (pss_one (ps_ret (pe_lzS (pa_cons pe_str (pa_cons (pe_clS C_cut_at (hr.mono (by decide)) tk (pa_cons (pz 2) (pa_cons pe_int pa_nil))) pa_nil))))) pss_nil)
        (pss_one (ps_ret (pe_lzS (pa_cons pe_str (pa_cons (pe_clKS K_cut_at_signs_texts (hr.mono (by decide)) tk (pk_cons (pz 1) (pk_cons (pz 2) pk_nil))) pa_nil))))))))))))) (.cons (i := 3) ⟨rfl, by decide, .inl T.g_InvalidText⟩ rfl rfl (fun a oe cls d pn hz hf => 
        (pss_one (ps_ret (pe_lzS (pa_cons pe_str (pa_cons (pe_xf T.s_InvalidText.xf T.n_InvalidText hz hf (pz 3)) (pa_cons (pe_callB (k_isC K hz hf) (by rfl) T.n_isinstance bt_isinstance (pa_cons (pz 3) (pa_cons (pe_glob (v := .ref e_QueueError) (by rfl) T.g_QueueError rfl) pa_nil))) (pa_cons (pe_callB (k_isC K hz hf) (by rfl) T.n_isinstance bt_isinstance (pa_cons (pz 3) (pa_cons (pe_glob (v := .ref e_InvalidCount) (by rfl) T.g_InvalidCount rfl) pa_nil))) pa_nil)))))))) (.cons (i := 3) ⟨rfl, by decide, .inl T.g_InvalidCount⟩ rfl rfl (fun a oe cls d pn hz hf => 
        (pss_one (ps_ret (pe_lzS (pa_cons pe_str (pa_cons (pe_xf T.s_InvalidCount.xf T.n_InvalidCount hz hf (pz 3)) (pa_cons (pe_callB (k_isC K hz hf) (by rfl) T.n_isinstance bt_isinstance (pa_cons (pz 3) (pa_cons (pe_glob (v := .ref e_QueueError) (by rfl) T.g_QueueError rfl) pa_nil))) (pa_cons (pe_callB (k_isC K hz hf) (by rfl) T.n_isinstance bt_isinstance (pa_cons (pz 3) (pa_cons (pe_glob (v := .ref e_InvalidText) (by rfl) T.g_InvalidText rfl) pa_nil))) pa_nil)))))))) .nil)))), ?_⟩
  obtain ⟨i, rfl, h⟩ := h
  rcases h with ⟨hi, hb, r⟩ | ⟨hi, hb, r⟩ | ⟨hi, x, hb, r⟩ | ⟨rfl, ⟨ls, e, hok, he, hc⟩, r⟩ | ⟨rfl, l, rfl, hp, hl, r⟩ | ⟨rfl, l, rfl, hp, hl, r⟩
  · rcases hi with rfl | rfl
    case' inl => refine .inr ⟨hb, fun C d H2 hc s2 hd => ?_⟩
    case' inr => refine .inr ⟨hb, fun C d H2 hc s2 hd => ?_⟩
    all_goals
      obtain rfl := hc.one T.a_InvalidText
      refine ⟨true, T.s_InvalidText.exm T.x_InvalidText_InvalidText, fun _ a na => ?_, fun z => by cases z⟩
      refine ⟨rfl, rfl, d, _, _, rfl, hd, rfl, ?_⟩
      refine ⟨_, d, _, true, rfl, rfl, rfl, hd, T.s_InvalidText, T.t_InvalidText_QueueError, ?_⟩
      refine ⟨_, d, _, false, rfl, rfl, rfl, hd, T.s_InvalidText, T.t_InvalidText_InvalidCount, ?_⟩
      refine ⟨by show 4 ≤ sizeLine; decide, fun p H3 n3 np => ?_⟩
      exact r p H3 (s2.trans n3.same) (s2.free n3.fresh) np n3.here
  · rcases hi with rfl | rfl
    case' inl => refine .inr ⟨hb, fun C d H2 hc s2 hd => ?_⟩
    case' inr => refine .inr ⟨hb, fun C d H2 hc s2 hd => ?_⟩
    all_goals
      obtain rfl := hc.one T.a_InvalidText
      refine ⟨true, T.s_InvalidText.exm T.x_InvalidText_InvalidText, fun _ a na => ?_, fun z => by cases z⟩
      refine ⟨rfl, rfl, d, _, _, rfl, hd, rfl, ?_⟩
      refine ⟨_, d, _, true, rfl, rfl, rfl, hd, T.s_InvalidText, T.t_InvalidText_QueueError, ?_⟩
      refine ⟨_, d, _, false, rfl, rfl, rfl, hd, T.s_InvalidText, T.t_InvalidText_InvalidCount, ?_⟩
      refine ⟨by show 4 ≤ sizeLine; decide, fun p H3 n3 np => ?_⟩
      exact r p H3 (s2.trans n3.same) (s2.free n3.fresh) np n3.here
  · have wr : ∀ E : XK, Rz K "InvalidText" "given" x H E → WrL K a_more H E := fun E rz => by
      rcases hb with ⟨hn, rfl⟩ | hb
      · exact .inl ⟨hn, rz⟩
      · exact .inr ⟨x, hb, rz⟩
    rcases hi with rfl | rfl | rfl | rfl
    case' inl => refine .inr (wr _ fun C d H2 hc s2 hd => ?_)
    case' inr.inl => refine .inr (wr _ fun C d H2 hc s2 hd => ?_)
    case' inr.inr.inl => refine .inr (.inl (wr _ fun C d H2 hc s2 hd => ?_))
    case' inr.inr.inr => refine .inr (.inl (wr _ fun C d H2 hc s2 hd => ?_))
    all_goals
      obtain rfl := hc.one T.a_InvalidText
      refine ⟨true, T.s_InvalidText.exm T.x_InvalidText_InvalidText, fun _ a na => ?_, fun z => by cases z⟩
      refine ⟨rfl, rfl, d, _, _, rfl, hd, rfl, ?_⟩
      refine ⟨_, d, _, true, rfl, rfl, rfl, hd, T.s_InvalidText, T.t_InvalidText_QueueError, ?_⟩
      refine ⟨_, d, _, false, rfl, rfl, rfl, hd, T.s_InvalidText, T.t_InvalidText_InvalidCount, ?_⟩
      refine ⟨by show 4 ≤ sizeLine; decide, fun p H3 n3 np => ?_⟩
      exact r p H3 (s2.trans n3.same) (s2.free n3.fresh) np n3.here
  · refine .inr (.inr ⟨ls, e, hok, he, hc, fun C d H2 hc s2 hd => ?_⟩)
    obtain rfl := hc.one T.a_InvalidCount
    refine ⟨false, T.s_InvalidText.exm T.x_InvalidCount_InvalidText, (fun z => by cases z), fun _ => ?_⟩
    refine ⟨true, T.s_InvalidCount.exm T.x_InvalidCount_InvalidCount, fun _ a na => ?_, fun z => by cases z⟩
    refine ⟨rfl, rfl, d, _, _, rfl, hd, rfl, ?_⟩
    refine ⟨_, d, _, true, rfl, rfl, rfl, hd, T.s_InvalidCount, T.t_InvalidCount_QueueError, ?_⟩
    refine ⟨_, d, _, false, rfl, rfl, rfl, hd, T.s_InvalidCount, T.t_InvalidCount_InvalidText, ?_⟩
    refine ⟨by show 4 ≤ sizeLine; decide, fun p H3 n3 np => ?_⟩
    exact r p H3 (s2.trans n3.same) (s2.free n3.fresh) np n3.here
  · refine .inl ⟨l, rfl, hp, hl, ?_⟩
    refine ⟨by show 2 ≤ sizeLine; decide, fun p H3 n3 np => ?_⟩
    exact r p H3 n3.same n3.here
  · refine .inl ⟨l, rfl, hp, hl, fun p q H2 s2 fp fq hq hp' => ?_⟩
    refine ⟨by show 2 ≤ sizeLine; decide, fun p' H3 n3 np => ?_⟩
    exact r p' p q H3 (s2.trans n3.same) (n3.keep hq) (n3.keep hp') n3.here

/-! ### is_whole(value), level 4 -/
abbrev s_is_whole : Stmt := top 18
abbrev N_is_whole : List Str := ["value"]
theorem sc_is_whole : FnScope N_is_whole ["value"] (defScope s_is_whole) := ⟨rfl, rfl, rfl, by decide +kernel, rfl, by decide +kernel, by decide +kernel⟩
theorem ok_is_whole (T : Txt K mg e_InvalidText e_InvalidCount e_QueueError) (C_frames_in : Ct P w K mg base (L2.CX P w) 3 "frames_in" ["text"] (sp_frames_in K)) (C_is_signs : Ct P w K mg base CX0 1 "is_signs" ["value"] (sp_is_signs K)) (D : Df K mg "is_whole" s_is_whole ["value"]) : Ct P w K mg base CX0 4 "is_whole" ["value"] (sp_is_whole K) := by
  refine ct1 D sc_is_whole fun f cdv A outer s H a_value Q E hr h => ⟨_, (pss_one (ps_ret (pe_andZ (pe_cl C_is_signs (hr.mono (by decide)) pass0 (pa_cons (pz 0) pa_nil)) (pe_one (pe_cmpR (k_eq K hr.units) (pe_ix (k_ix K) (pe_cl C_frames_in (hr.mono (by decide)) passL (pa_cons (pz 0) pa_nil)) pe_int (fun _ _ => rfl)) (pe_callB (k_len K) (by rfl) T.n_len bt_len (pa_cons (pz 0) pa_nil)) (nomark _)))))), ?_⟩
  rcases h with ⟨l, rfl, hp, hl, k⟩ | ⟨⟨d, b1, b2, b3⟩, q⟩
  rotate_left
  · refine ⟨d, b1, b2, ?_⟩
    rw [b3]
    exact q
  refine ⟨_, vd_S l, txt_S (lt_pr hp) hl, ?_⟩
  rw [show signsD (.str (S l)) = true from prS_of hp]
  refine .inl ⟨l, rfl, hp, hl, fun p q H2 s2 fp fq h2 h2p => ?_⟩
  refine ⟨_, _, .inr (SqT.of h2p), rfl, ?_⟩
  refine ⟨sz (by rw [length_S]; omega), ?_⟩
  rw [length_S]
  have e : (false ^^ decide (V.int ((sc l 0).2 : Nat) = V.int (l.length : Nat))) = decide ((sc l 0).2 = l.length) := by
    by_cases z : (sc l 0).2 = l.length
    · rw [z, decide_eq_true rfl, decide_eq_true rfl]
      rfl
    · rw [decide_eq_false z, decide_eq_false fun w => z (by have := V.int.inj w; omega)]
      rfl
  show Q (.bl (false ^^ decide (V.int ((sc l 0).2 : Nat) = V.int (l.length : Nat)))) H2
  rw [e]
  exact k H2 s2

/-! ### _law_at_the_bound(), level 6 -/
abbrev s__law_at_the_bound : Stmt := top 35
abbrev N__law_at_the_bound : List Str := ["_law_great", "_law_twice", "_law_more", "_law_door"]
theorem sc__law_at_the_bound : FnScope N__law_at_the_bound [] (defScope s__law_at_the_bound) := ⟨rfl, rfl, rfl, by decide +kernel, rfl, by decide +kernel, by decide +kernel⟩
theorem ok__law_at_the_bound (C__law_met : Ct P w K mg base CX0 5 "_law_met" ["_law_door", "_law_thing", "_law_more"] (sp__law_met K)) (C_is_whole : Ct P w K mg base CX0 4 "is_whole" ["value"] (sp_is_whole K)) (C_frames_in : Ct P w K mg base (L2.CX P w) 3 "frames_in" ["text"] (sp_frames_in K)) (D : Df K mg "_law_at_the_bound" s__law_at_the_bound []) : Ct P w K mg base CX0 6 "_law_at_the_bound" [] (sp__law_at_the_bound K) := by
  refine ct0 D sc__law_at_the_bound fun f cdv A outer s H  Q E hr h => ⟨_, (pss_cons (ps_set (i := 0) sc__law_at_the_bound.nd rfl (Or.inl rfl) (pe_op o_mul pe_str pe_int))
    (pss_cons (ps_if (pt_cmpZ (k_ne K hr.units) (pe_cl C__law_met (hr.mono (by decide)) pass0 (pa_cons pe_int (pa_cons (pz 0) (pa_cons (pe_lz pa_nil) pa_nil)))) (pe_lz (pa_cons pe_str (pa_cons (pe_op (k_add K) (pe_op (k_add K) pe_str (pz 0)) pe_str) pa_nil))) (nomark _)) 
      (pss_one (ps_ret pe_bl)) pss_nil)
    (pss_cons (ps_if (pt_cmpZ (k_ne K hr.units) (pe_cl C__law_met (hr.mono (by decide)) pass0 (pa_cons pe_int (pa_cons (pe_op (k_add K) (pe_op (k_add K) pe_str (pz 0)) pe_str) (pa_cons (pe_lz pa_nil) pa_nil)))) (pe_lz (pa_cons pe_str (pa_cons (pe_tz (pa_cons (pe_lz (pa_cons (pz 0) pa_nil)) (pa_cons pe_int pa_nil))) pa_nil))) (nomark _)) 
      (pss_one (ps_ret pe_bl)) pss_nil)
    (pss_cons (ps_set (i := 1) sc__law_at_the_bound.nd rfl (Or.inl rfl) (pe_op o_mul (pe_op (k_add K) (pe_op (k_add K) pe_str (pz 0)) pe_str) pe_int))
    (pss_cons (ps_if (PW.pt (pw_or (pt_cmpZ (k_ne K hr.units) (pe_ix (k_ix K) (pe_cl C_frames_in (hr.mono (by decide)) passL (pa_cons (pz 1) pa_nil)) pe_int (fun _ _ => rfl)) pe_int (nomark _)) (pw_or1 (pt_cmpZ o_isn (pe_cl C_is_whole (hr.mono (by decide)) pass0 (pa_cons (pz 1) pa_nil)) pe_bl (nomark _))))) 
      (pss_one (ps_ret pe_bl)) pss_nil)
    (pss_cons (ps_set (i := 2) sc__law_at_the_bound.nd rfl (Or.inl rfl) (pe_op (k_add K) (pz 0) pe_str))
    (pss_cons (ps_if (PW.pt (pw_or (pt_cmpZ (k_ne K hr.units) (pe_cl C_frames_in (hr.mono (by decide)) passL (pa_cons (pe_op (k_add K) (pe_op (k_add K) pe_str (pz 2)) pe_str) pa_nil)) (pe_tz (pa_cons (pe_lz pa_nil) (pa_cons pe_int pa_nil))) (nomark _)) (pw_or1 (pt_cmpZ o_isn (pe_cl C_is_whole (hr.mono (by decide)) pass0 (pa_cons (pe_op (k_add K) (pe_op (k_add K) pe_str (pz 2)) pe_str) pa_nil)) pe_bl (nomark _))))) 
      (pss_one (ps_ret pe_bl)) pss_nil)
    (pss_cons (ps_for PassesOwn.never rfl (pi_lzK K (pe_lz (pa_cons pe_int (pa_cons pe_int (pa_cons pe_int pa_nil))))) (pg_name (i := 3) sc__law_at_the_bound.nd rfl (Or.inl rfl)) 
      (pss_one (ps_if (pt_cmpZ (k_ne K hr.units) (pe_cl C__law_met (hr.mono (by decide)) pass0 (pa_cons (pz 3) (pa_cons (pz 2) (pa_cons (pe_lz (pa_cons pe_str (pa_cons (pz 2) (pa_cons pe_non pa_nil)))) pa_nil)))) (pe_lz (pa_cons pe_str (pa_cons (pz 2) (pa_cons pe_bl (pa_cons pe_bl pa_nil))))) (nomark _)) 
        (pss_one (ps_ret pe_bl)) pss_nil)))
    (pss_one (ps_ret pe_bl)))))))))), ?_⟩
  refine ⟨by decide, by decide, by show 1 * 80000 ≤ _; decide, ?_⟩
  rw [show ("x" : Str) = S [120] by decide +kernel, rep_S, rep_one]
  have pg : Pr (List.replicate (80000 : Int).toNat 120) := fun c hc => by rw [(List.mem_replicate.mp hc).2]; decide
  have lg : (List.replicate (80000 : Int).toNat 120).length = 80000 := by rw [List.length_replicate]; decide
  generalize List.replicate (80000 : Int).toNat 120 = g at pg lg
  have lit8 : ("80000:" : Str) = S [56, 48, 48, 48, 48, 58] := by decide +kernel
  have lf : (frL g).length = 80007 := by rw [frL_len (by omega), lg]
  have pf := frL_pr pg
  refine ⟨by show 0 ≤ sizeLine; decide, fun p0 H1 n1 => ?_⟩
  refine ⟨0, rfl, .inr (.inr (.inr (.inr (.inl ⟨rfl, g, rfl, pg, by omega, fun p H2 s2 hp => ?_⟩))))⟩
  have mk : ∀ {R : V → Prop}, R (.str (S (frL g))) → R (.str (S ([56, 48, 48, 48, 48, 58] ++ g ++ [59]))) := fun r => by
    rw [frL_80000 lg]
    exact r
  try rw [lit8]
  refine ⟨sz (by rw [length_S, length_S]; show 6 + _ ≤ _; omega), ?_⟩
  rw [S_cat]
  try rw [lit_semi]
  refine ⟨sz (by rw [length_S, length_S, List.length_append]; show 6 + _ + 1 ≤ _; omega), ?_⟩
  rw [S_cat, frL_80000 lg]
  refine ⟨by show 2 ≤ sizeLine; decide, fun p2 H3 n3 => ?_⟩
  refine ⟨_, _, .lst (SqL.of (n3.keep hp)) (.cons (.str _) (.cons (.str _) .nil)), .lst (SqL.of n3.here) (.cons (.str _) (.cons (.str _) .nil)), sh_told pf, sh_told pf, ?_⟩
  rw [eqv_self (sh_told pf)]
  refine ⟨sz (by rw [length_S, length_S]; show 6 + _ ≤ _; omega), ?_⟩
  rw [S_cat]
  refine ⟨sz (by rw [length_S, length_S, List.length_append]; show 6 + _ + 1 ≤ _; omega), ?_⟩
  rw [S_cat, frL_80000 lg]
  refine ⟨by show 0 ≤ sizeLine; decide, fun p4 H4 n4 => ?_⟩
  have hsc : sc (frL g) 0 = ([g], 80007) := by rw [sc_one (by omega), lg]
  refine ⟨2, rfl, .inr (.inr (.inr (.inr (.inr ⟨rfl, frL g, rfl, pf, by omega, fun p q r H5 s5 hr hq hp => ?_⟩))))⟩
  rw [hsc] at hr hq
  have hq : H5 q = some (.tup [.ref r, .int 80007]) := hq
  refine ⟨by show 1 ≤ sizeLine; decide, fun a1 H6 n6 => ?_⟩
  refine ⟨by show 2 ≤ sizeLine; decide, fun a2 H7 n7 => ?_⟩
  refine ⟨by show 2 ≤ sizeLine; decide, fun a3 H8 n8 => ?_⟩
  have s58 := (n6.same.trans n7.same).trans n8.same
  refine ⟨_, _, .lst (SqL.of (s58 _ _ hp)) (.cons (.str _) (.cons (.tup (SqT.of (s58 _ _ hq)) (.cons (dp_strs (SqL.of (s58 _ _ hr))) (.cons (.int _) .nil))) .nil)),
    .lst (SqL.of n8.here) (.cons (.str _) (.cons (.tup (SqT.of (n8.keep n7.here)) (.cons (dp_strs (ls := [g]) (SqL.of (n8.keep (n7.keep n6.here)))) (.cons (.int _) .nil))) .nil)), sh_told2 pg, sh_told2 pg, ?_⟩
  rw [eqv_self (sh_told2 pg)]
  refine ⟨sz (by rw [length_S, length_S]; show 6 + _ ≤ _; omega), ?_⟩
  rw [S_cat]
  refine ⟨sz (by rw [length_S, length_S, List.length_append]; show 6 + _ + 1 ≤ _; omega), ?_⟩
  rw [S_cat, frL_80000 lg]
  refine ⟨by decide, by decide, by rw [length_S]; show _ * 2 ≤ _; omega, ?_⟩
  rw [rep_S, show (List.replicate (2 : Int).toNat (frL g)).flatten = frL g ++ frL g by show (List.replicate 2 (frL g)).flatten = _; simp]
  have hsc2 : sc (frL g ++ frL g) 0 = ([g, g], 160014) := by rw [sc_two (by omega), lg]
  have l2 : (frL g ++ frL g).length = 160014 := by rw [List.length_append, lf]
  have p2' := pr_app pf pf
  generalize frL g ++ frL g = tw at hsc2 l2 p2'
  refine .inl ⟨tw, rfl, p2', by omega, fun p' q' H9 s9 _ _ hq' hp' => ?_⟩
  rw [hsc2] at hp'
  refine ⟨_, _, .inr (SqT.of hp'), rfl, ?_⟩
  refine .inl ⟨tw, rfl, p2', by omega, fun H10 s10 => ?_⟩
  rw [hsc2, l2, decide_eq_true rfl]
  refine ⟨sz (by rw [length_S]; show _ + 1 ≤ _; omega), ?_⟩
  try rw [show ("x" : Str) = S [120] by decide +kernel]
  rw [S_cat]
  have pm : Pr (g ++ [120]) := pr_app pg (pr_one (by decide))
  have lm : (g ++ [120]).length = 80001 := by rw [List.length_append, lg]; rfl
  generalize g ++ [120] = m at pm lm
  have lit9 : ("80001:" : Str) = S [56, 48, 48, 48, 49, 58] := by decide +kernel
  try rw [lit9]
  refine ⟨sz (by rw [length_S, length_S]; show 6 + _ ≤ _; omega), ?_⟩
  rw [S_cat]
  refine ⟨sz (by rw [length_S, length_S, List.length_append]; show 6 + _ + 1 ≤ _; omega), ?_⟩
  rw [S_cat]
  have hsc3 := sc_big (g := m)
  have p3 : Pr ([56, 48, 48, 48, 49, 58] ++ m ++ [59]) := pr_app (pr_app (pr_of (by decide)) pm) (pr_one (by decide))
  have l3 : ([56, 48, 48, 48, 49, 58] ++ m ++ [59]).length = 80008 := by rw [List.length_append, List.length_append, lm]; rfl
  refine .inl ⟨_, rfl, p3, by omega, fun p' q' H11 s11 _ _ hq' hp' => ?_⟩
  rw [hsc3] at hq' hp'
  refine ⟨by show 0 ≤ sizeLine; decide, fun a4 H12 n12 => ?_⟩
  refine ⟨by show 2 ≤ sizeLine; decide, fun a5 H13 n13 => ?_⟩
  have s1113 := n12.same.trans n13.same
  refine ⟨_, _, .tup (SqT.of (s1113 _ _ hp')) (.cons (dp_strs (ls := []) (SqL.of (s1113 _ _ hq'))) (.cons (.int _) .nil)), .tup (SqT.of n13.here) (.cons (dp_strs (ls := []) (SqL.of (n13.keep n12.here))) (.cons (.int _) .nil)), rfl, rfl, ?_⟩
  refine ⟨sz (by rw [length_S, length_S]; show 6 + _ ≤ _; omega), ?_⟩
  rw [S_cat]
  refine ⟨sz (by rw [length_S, length_S, List.length_append]; show 6 + _ + 1 ≤ _; omega), ?_⟩
  rw [S_cat]
  refine .inl ⟨_, rfl, p3, by omega, fun H14 s14 => ?_⟩
  rw [hsc3, l3, show decide ((([], 0) : List (List Nat) × Nat).2 = 80008) = false from rfl]
  refine ⟨by show 3 ≤ sizeLine; decide, fun lp H15 n15 => ?_⟩
  have all : Same H H15 := ((((((((((((n1.same.trans s2).trans n3.same).trans n4.same).trans s5).trans s58).trans s9).trans s10).trans s11).trans s1113).trans s14).trans n15.same))
  refine ⟨⟨_, SqL.of n15.here⟩, for_w (wk_list [V.int 0, .int 5, .int 6]) (fun i σ H' => Same H15 H' ∧ ∃ w : Option V, σ = [some (.str (S g)), some (.str (S tw)), some (.str (S m)), w]) ⟨Same.refl _, _, rfl⟩ (fun _ _ _ p => sqL_same p.1 (SqL.of n15.here)) ?_ ?_⟩
  · rintro i x σ H' hx ⟨s, w, rfl⟩
    have asc := lt_pr pm
    have bad : ∀ Hx : Hp, BadI Hx (.str (S m)) := fun Hx => ⟨_, vd_S m, txt_S asc (by omega), by
      show (prS (S m) && decide ((S m).length ≤ 80000)) = false
      rw [length_S, decide_eq_false (by omega), Bool.and_false]⟩
    have hx : x = .int 0 ∨ x = .int 5 ∨ x = .int 6 := by
      have := List.mem_of_getElem? hx
      simpa using this
    rcases hx with rfl | rfl | rfl
    case' inl => refine ⟨by show 3 ≤ sizeLine; decide, fun p5 H16 n16 => ⟨0, rfl, .inl ⟨.inl rfl, bad _, fun p6 H17 s17 fp np h6 => ?_⟩⟩⟩
    case' inr.inl =>
      refine ⟨by show 3 ≤ sizeLine; decide, fun p5 H16 n16 => ?_⟩
      have n16' := n16.here
      rw [lit_nil] at n16'
      refine ⟨5, rfl, .inr (.inr (.inl ⟨by decide, _, .inr ⟨p5, [[]], [.non], rfl, .inl (SqL.of n16'), (fun l hl => by rw [List.mem_singleton.mp hl]; exact ⟨pr_nil, by decide⟩), bad _⟩, fun p6 H17 s17 fp np h6 => ?_⟩))⟩
    case' inr.inr =>
      refine ⟨by show 3 ≤ sizeLine; decide, fun p5 H16 n16 => ?_⟩
      have n16' := n16.here
      rw [lit_nil] at n16'
      refine ⟨6, rfl, .inr (.inr (.inl ⟨by decide, _, .inr ⟨p5, [[]], [.non], rfl, .inl (SqL.of n16'), (fun l hl => by rw [List.mem_singleton.mp hl]; exact ⟨pr_nil, by decide⟩), bad _⟩, fun p6 H17 s17 fp np h6 => ?_⟩))⟩
    all_goals
      refine ⟨by show 4 ≤ sizeLine; decide, fun p7 H18 n18 => ?_⟩
      refine ⟨_, _, dp_ref (n18.keep h6), dp_ref n18.here, shaped_ref (by decide +kernel) asc, shaped_ref (by decide +kernel) asc, ?_⟩
      rw [eqv_self (shaped_ref (by decide +kernel) asc)]
      exact ⟨((s.trans n16.same).trans s17).trans n18.same, _, rfl⟩
  · rintro σ H' ⟨s, w, rfl⟩
    exact h H' (all.trans s)

/-! ### _law_cell(_law_script, _law_k), level 1 -/
abbrev s__law_cell : Stmt := top 21
abbrev N__law_cell : List Str := ["_law_script", "_law_k"]
theorem sc__law_cell : FnScope N__law_cell ["_law_script", "_law_k"] (defScope s__law_cell) := ⟨rfl, rfl, rfl, by decide +kernel, rfl, by decide +kernel, by decide +kernel⟩
theorem ok__law_cell (T : Txt K mg e_InvalidText e_InvalidCount e_QueueError) (D : Df K mg "_law_cell" s__law_cell ["_law_script", "_law_k"]) : Ct P w K mg base CX0 1 "_law_cell" ["_law_script", "_law_k"] (sp__law_cell K) := by
  refine ct2 D sc__law_cell fun f cdv A outer s H a_script a_k Q E hr h => ⟨_, (pss_one (ps_ret (pe_ifExp (pt_cmpZ o_ltS (pz 1) (pe_callB (k_len K) (by rfl) T.n_len bt_len (pa_cons (pz 0) pa_nil)) (nomark _)) (pe_ix (k_ix K) (pz 0) (pz 1) (fun _ _ => rfl)) (pe_op (k_add K) (pe_op o_mul pe_int (pz 1)) (pe_op o_mod (pe_callB (k_sum K rfl) (by rfl) T.n_sum bt_sum (pa_cons (pe_slice (k_sl K) (pz 0) po_none (po_z pe_int)) pa_nil)) pe_int))))), ?_⟩
  obtain ⟨a, i, ns, rfl, rfl, h0, h1, hS, hl, k⟩ := h
  refine .inl ⟨_, .inl hS, ?_⟩
  refine ite2 (fun hc => ?_) (fun hc => ?_)
  · have hi : i < (ns.map V.int).length := by simpa using hc
    rw [List.length_map] at hi
    refine ⟨_, V.int (ns.getD i.toNat 0), .inl hS, ?_, k _ _ (Same.refl _)⟩
    have e : i = ((i.toNat : Nat) : Int) := by omega
    rw [e]
    refine atI_nat ?_
    rw [Int.toNat_natCast, List.getElem?_map, List.getElem?_eq_getElem (by omega)]
    simp [List.getD, List.getElem?_eq_getElem (show i.toNat < ns.length by omega)]
  · refine ⟨.inr ⟨by omega, by omega⟩, .inl ⟨_, hS, fun p H2 n => ?_⟩⟩
    have e : cutV (ns.map V.int) none (some 1) = (ns.take 1).map V.int := by
      cases ns with
      | nil => rfl
      | cons x r => simp [cutV, HT.sIx]
    rw [e] at n
    exact ⟨_, SqL.of n.here, by show (0 : Int) < _; decide, k _ _ n.same⟩

/-! ### _law_box(_law_great), level 1 -/
abbrev s__law_box : Stmt := top 22
abbrev N__law_box : List Str := ["_law_great"]
theorem sc__law_box : FnScope N__law_box ["_law_great"] (defScope s__law_box) := ⟨rfl, rfl, rfl, by decide +kernel, rfl, by decide +kernel, by decide +kernel⟩
theorem ok__law_box (T : Txt K mg e_InvalidText e_InvalidCount e_QueueError) (D : Df K mg "_law_box" s__law_box ["_law_great"]) : Ct P w K mg base CX0 1 "_law_box" ["_law_great"] (sp__law_box K) := by
  refine ct1 D sc__law_box fun f cdv A outer s H a_great Q E hr h => ⟨_, (pss_one (ps_ret (pe_lz (pa_cons (pe_callB c_abs (by rfl) T.n_abs bt_abs (pa_cons (pz 0) pa_nil)) (pa_cons (pe_cmpR o_ge (pe_callB c_abs (by rfl) T.n_abs bt_abs (pa_cons (pz 0) pa_nil)) (pe_op o_pow pe_int pe_int) (nomark _)) (pa_cons (pe_op o_mod (pe_callTy c_int (by rfl) T.n_int bt_int (pa_cons (pe_callB c_abs (by rfl) T.n_abs bt_abs (pa_cons (pz 0) pa_nil)) pa_nil)) pe_int) (pa_cons pe_int pa_nil))))))), ?_⟩
  obtain ⟨g, rfl, k⟩ := h
  refine ⟨⟨by decide, by decide, by decide⟩, by show (0 : Int) < _; decide, by show 4 ≤ sizeLine; decide, fun b H2 n => ?_⟩
  refine k b H2 n.fresh n.same ⟨_, _, _, _, n.here, ?_, ?_, ?_, by decide, by decide⟩
  · split <;> omega
  · exact Int.emod_nonneg _ (by decide)
  · have := Int.emod_lt_of_pos (if g < 0 then -g else g) (show (0 : Int) < 2147483629 by decide)
    omega

/-! ### _law_take(_law_box_here, _law_many), level 1 -/
abbrev s__law_take : Stmt := top 23
abbrev N__law_take : List Str := ["_law_box_here", "_law_many", "_law_digit", "_law_mixed"]
theorem sc__law_take : FnScope N__law_take ["_law_box_here", "_law_many"] (defScope s__law_take) := ⟨rfl, rfl, rfl, by decide +kernel, rfl, by decide +kernel, by decide +kernel⟩
theorem ok__law_take (T : Txt K mg e_InvalidText e_InvalidCount e_QueueError) (D : Df K mg "_law_take" s__law_take ["_law_box_here", "_law_many"]) : Ct P w K mg base CX0 1 "_law_take" ["_law_box_here", "_law_many"] (sp__law_take K) := by
  refine ct2 D sc__law_take fun f cdv A outer s H a_box_here a_many Q E hr h => ⟨_, (pss_cons (ps_if (PW.pt (pw_and (pt_trK K (pe_ix (k_ix K) (pz 0) pe_int (fun _ _ => rfl))) (pw_and1 (pt_cmpZ o_gtS (pe_ix (k_ix K) (pz 0) pe_int (fun _ _ => rfl)) pe_int (nomark _))))) 
      (pss_cons (ps_set (i := 2) sc__law_take.nd rfl (Or.inl rfl) (pe_op o_mod (pe_callTy c_int (by rfl) T.n_int bt_int (pa_cons (pe_ix (k_ix K) (pz 0) pe_int (fun _ _ => rfl)) pa_nil)) (pz 1)))
      (pss_cons (ps_asg (pe_op o_fdiv (pe_ix (k_ix K) (pz 0) pe_int (fun _ _ => rfl)) (pz 1)) (pg_sub (pz 0) pe_int s_list))
      (pss_one (ps_ret (pz 2))))) pss_nil)
    (pss_cons (ps_asg (pe_op (k_add K) (pe_ix (k_ix K) (pz 0) pe_int (fun _ _ => rfl)) pe_int) (pg_sub (pz 0) pe_int s_list))
    (pss_cons (ps_set (i := 3) sc__law_take.nd rfl (Or.inl rfl) (pe_op o_mod (pe_callTy c_int (by rfl) T.n_int bt_int (pa_cons (pe_op o_pow (pe_op (k_add K) (pe_op (k_add K) (pe_ix (k_ix K) (pz 0) pe_int (fun _ _ => rfl)) (pe_op o_mul pe_int (pe_ix (k_ix K) (pz 0) pe_int (fun _ _ => rfl)))) pe_int) pe_int) pa_nil)) pe_int))
    (pss_one (ps_ret (pe_op o_mod (pe_op o_fdiv (pe_op o_mod (pe_callTy c_int (by rfl) T.n_int bt_int (pa_cons (pe_op o_pow (pe_op (k_add K) (pe_op o_mul (pz 3) pe_int) (pe_op o_mul pe_int (pe_ix (k_ix K) (pz 0) pe_int (fun _ _ => rfl)))) pe_int) pa_nil)) pe_int) pe_int) (pz 1))))))), ?_⟩
  obtain ⟨b, m, n, rfl, rfl, hm, hm2, hB, hn, k⟩ := h
  obtain ⟨g, f1, s1, c, hb, g0, s0, s2, c0, c1⟩ := id hB
  have two : (2 : Int) ^ 64 = 18446744073709551616 := by decide
  refine ⟨_, _, .inl (SqL.of hb), rfl, ?_⟩
  refine ite2 (fun h1 => ?_) (fun h1 => ?_)
  · refine ⟨_, _, .inl (SqL.of hb), rfl, ?_⟩
    refine ite2 (fun h2 => ?_) (fun h2 => ?_)
    · refine ⟨_, _, .inl (SqL.of hb), rfl, hm, ?_⟩
      refine ⟨_, _, .inl (SqL.of hb), rfl, ⟨hm, by omega⟩, ?_⟩
      refine ⟨_, 0, hb, rfl, fun H2 w => ?_⟩
      have hg : 0 < g := by simpa using h2
      exact k _ H2 w.but ⟨_, _, _, _, w.here, Int.ediv_nonneg g0 (by omega), s0, s2, c0, by omega⟩ (Int.emod_nonneg _ (by omega)) (Int.emod_lt_of_pos _ hm)
    · refine ⟨_, _, .inl (SqL.of hb), rfl, ?_⟩
      refine ⟨_, 3, hb, rfl, fun H2 w => ?_⟩
      refine ⟨_, _, .inl (SqL.of w.here), rfl, ?_⟩
      refine ⟨_, _, .inl (SqL.of w.here), rfl, .inl ⟨by omega, by omega⟩, ?_⟩
      refine ⟨⟨by decide, by decide, by omega⟩, by show (0 : Int) < _; decide, ?_⟩
      have q1 := Int.emod_nonneg ((s1 + 15485863 * (c + 1) + 179424697) ^ (5 : Int).toNat) (show (2147483647 : Int) ≠ 0 by decide)
      have q2 := Int.emod_lt_of_pos ((s1 + 15485863 * (c + 1) + 179424697) ^ (5 : Int).toNat) (show (0 : Int) < 2147483647 by decide)
      refine ⟨.inr ⟨by omega, by omega⟩, ?_⟩
      refine ⟨_, _, .inl (SqL.of w.here), rfl, .inl ⟨by omega, by omega⟩, ?_⟩
      generalize (s1 + 15485863 * (c + 1) + 179424697) ^ (5 : Int).toNat % 2147483647 = z at q1 q2 ⊢
      refine ⟨⟨by decide, by decide, by omega⟩, by show (0 : Int) < _; decide, ⟨by show (0 : Int) < _; decide, by show _ < (1073741824 : Int); decide⟩, hm, ?_⟩
      exact k _ H2 w.but ⟨_, _, _, _, w.here, g0, s0, s2, by omega, by omega⟩ (Int.emod_nonneg _ (by omega)) (Int.emod_lt_of_pos _ hm)
  · refine iteF ?_
    refine ⟨_, _, .inl (SqL.of hb), rfl, ?_⟩
    refine ⟨_, 3, hb, rfl, fun H2 w => ?_⟩
    refine ⟨_, _, .inl (SqL.of w.here), rfl, ?_⟩
    refine ⟨_, _, .inl (SqL.of w.here), rfl, .inl ⟨by omega, by omega⟩, ?_⟩
    refine ⟨⟨by decide, by decide, by omega⟩, by show (0 : Int) < _; decide, ?_⟩
    have q1 := Int.emod_nonneg ((s1 + 15485863 * (c + 1) + 179424697) ^ (5 : Int).toNat) (show (2147483647 : Int) ≠ 0 by decide)
    have q2 := Int.emod_lt_of_pos ((s1 + 15485863 * (c + 1) + 179424697) ^ (5 : Int).toNat) (show (0 : Int) < 2147483647 by decide)
    refine ⟨.inr ⟨by omega, by omega⟩, ?_⟩
    refine ⟨_, _, .inl (SqL.of w.here), rfl, .inl ⟨by omega, by omega⟩, ?_⟩
    generalize (s1 + 15485863 * (c + 1) + 179424697) ^ (5 : Int).toNat % 2147483647 = z at q1 q2 ⊢
    refine ⟨⟨by decide, by decide, by omega⟩, by show (0 : Int) < _; decide, ⟨by show (0 : Int) < _; decide, by show _ < (1073741824 : Int); decide⟩, hm, ?_⟩
    exact k _ H2 w.but ⟨_, _, _, _, w.here, g0, s0, s2, by omega, by omega⟩ (Int.emod_nonneg _ (by omega)) (Int.emod_lt_of_pos _ hm)

/-! ### _law_text(_law_box_here), level 2 -/
abbrev s__law_text : Stmt := top 24
abbrev N__law_text : List Str := ["_law_box_here", "_law_signs", "_law_turn"]
theorem sc__law_text : FnScope N__law_text ["_law_box_here"] (defScope s__law_text) := ⟨rfl, rfl, rfl, by decide +kernel, rfl, by decide +kernel, by decide +kernel⟩
theorem ok__law_text (T : Txt K mg e_InvalidText e_InvalidCount e_QueueError) (C__law_take : Ct P w K mg base CX0 1 "_law_take" ["_law_box_here", "_law_many"] (sp__law_take K)) (D : Df K mg "_law_text" s__law_text ["_law_box_here"]) : Ct P w K mg base CX0 2 "_law_text" ["_law_box_here"] (sp__law_text K) := by
  refine ct1 D sc__law_text fun f cdv A outer s H a_box_here Q E hr h => ⟨_, (pss_cons (ps_set (i := 1) sc__law_text.nd rfl (Or.inr rfl) pe_str)
    (pss_one (ps_ret (pe_ms PySem.F.slot_str_join PySem.F.type_str_join (mk_join K) pe_str (pa_cons (pe_lcz (own := [("_law_turn", 2)]) (by rfl) sc__law_text.nd (pi_rngZ (by rfl) T.n_range (pa_cons (pe_cl C__law_take (hr.mono (by decide)) pass0 (pa_cons (pz 0) (pa_cons pe_int pa_nil))) pa_nil)) (blkOk_by (own := [("_law_turn", 2)]) (N := N__law_text) (sc := defScope s__law_text) (by decide +kernel)) (fun _ _ _ _ _ => (pg_name (i := 2) sc__law_text.nd rfl (Or.inl rfl))) (fun _ _ _ _ _ => pts_nil) (fun _ _ _ _ _ => (pe_ix (k_ix K) (pz 1) (pe_cl C__law_take (hr.mono (by decide)) pass0 (pa_cons (pz 0) (pa_cons pe_int pa_nil))) (fun _ _ => rfl)))) pa_nil))))), ?_⟩
  obtain ⟨b, n, rfl, hB, hn, q⟩ := h
  refine ⟨b, 7, n, rfl, rfl, by decide, by decide, hB, by omega, fun r H2 t2 B2 r0 r1 => ?_⟩
  refine ⟨by omega, by omega, fun D hD => lc_w (wk_rng 0 r.toNat) (by rw [rngV_len]; omega)
      (fun i acc H' => ∃ ls : List (List Nat), acc = strsV ls ∧ ls.length = i ∧ (∀ l ∈ ls, TX 1 l) ∧ But b H2 H' ∧ BoxAt (n + 1 + i) H' b)
      (fun H4 n4 => ⟨[], rfl, rfl, (fun _ h => by cases h), n4.but, (B2.same n4.same)⟩) (fun _ _ _ _ => trivial) (fun i acc H' ⟨ls, e, l, _⟩ => by rw [e, strsV_len]; omega) ?_ ?_⟩
  · rintro i x acc H4 hx hD4 ⟨ls, rfl, hl, ht, t4, B4⟩
    obtain ⟨hi, rfl⟩ := rngV_at hx
    have nD : D ≠ b := (B2.ne hD).symm
    refine ⟨rfl, ?_⟩
    refine ⟨b, 16, n + 1 + i, rfl, rfl, by decide, by decide, B4, by omega, fun r3 H5 t5 B5 r30 r31 => ?_⟩
    obtain ⟨c, e, hc⟩ := near_item (t := "ab :;0123456789~") (by decide) r30 r31
    refine ⟨c, by decide, e, t5.at nD hD4, fun H6 w6 => ?_⟩
    refine ⟨ls ++ [[c]], strsV_app ls [c] ▸ rfl, by rw [List.length_append, hl]; rfl, fun l hl => ?_, (t4.trans t5).wr hD w6, (B5.wr nD.symm w6)⟩
    rcases List.mem_append.mp hl with hl | hl
    · exact ht l hl
    · rw [List.mem_singleton.mp hl]
      exact ⟨pr_cons hc pr_nil, Nat.le_refl 1⟩
  · rintro acc H4 _ hD4 ⟨ls, rfl, hl, ht, t4, B4⟩
    rw [rngV_len] at hl
    rw [rngV_len] at B4
    have lenF : ls.flatten.length ≤ ls.length := by
      have gen : ∀ ls : List (List Nat), (∀ l ∈ ls, TX 1 l) → ls.flatten.length ≤ ls.length := by
        intro ls
        induction ls with
        | nil => intro _; exact Nat.le_refl 0
        | cons a r ih =>
          intro h
          have h1 := (h a List.mem_cons_self).2
          have h2 := ih fun l hl => h l (List.mem_cons_of_mem _ hl)
          rw [List.flatten_cons, List.length_append, List.length_cons]
          omega
      exact gen ls ht
    refine ⟨ls.map S, .inl (SqL.of hD4), ?_, ?_⟩
    · exact joinSz _ (by omega)
    rw [join_flat lit_nil]
    exact q _ H4 (t2.trans t4) (B4.mono (by omega)) ⟨pr_flat fun l hl => (ht l hl).1, by omega⟩

/-! ### _law_frame(_law_row), level 1 -/
abbrev s__law_frame : Stmt := top 33
abbrev N__law_frame : List Str := ["_law_row", "_law_count"]
theorem sc__law_frame : FnScope N__law_frame ["_law_row"] (defScope s__law_frame) := ⟨rfl, rfl, rfl, by decide +kernel, rfl, by decide +kernel, by decide +kernel⟩
theorem ok__law_frame (T : Txt K mg e_InvalidText e_InvalidCount e_QueueError) (D : Df K mg "_law_frame" s__law_frame ["_law_row"]) : Ct P w K mg base CX0 1 "_law_frame" ["_law_row"] (sp__law_frame K) := by
  refine ct1 D sc__law_frame fun f cdv A outer s H a_row Q E hr h => ⟨_, (pss_cons (ps_set (i := 1) sc__law_frame.nd rfl (Or.inl rfl) (pe_callTy c_str (by rfl) T.n_str bt_str (pa_cons (pe_callB (k_len K) (by rfl) T.n_len bt_len (pa_cons (pz 0) pa_nil)) pa_nil)))
    (pss_one (ps_ret (pe_op (k_add K) (pe_op (k_add K) (pe_op (k_add K) (pe_op (k_add K) (pe_op o_mul pe_str (pe_op o_sub pe_int (pe_callB (k_len K) (by rfl) T.n_len bt_len (pa_cons (pz 1) pa_nil)))) (pz 1)) pe_str) (pz 0)) pe_str)))), ?_⟩
  obtain ⟨l, rfl, hl, q⟩ := h
  obtain ⟨n1, n2⟩ := numL5 (n := l.length) (by omega)
  refine ⟨sz (by rw [length_S]; omega), ?_⟩
  rw [length_S]
  refine ⟨log_small (by omega), ?_⟩
  rw [num_S]
  refine ⟨sz (by rw [length_S]; omega), ?_⟩
  rw [length_S]
  refine ⟨by omega, by omega, by show 1 * _ ≤ 1000000; omega, ?_⟩
  rw [lit_0, rep_S, show (5 - ((TL.numL l.length).length : Int)).toNat = 5 - (TL.numL l.length).length by omega, rep_one]
  refine ⟨sz (by rw [length_S, length_S, List.length_replicate]; omega), ?_⟩
  rw [S_cat]
  refine ⟨sz (by rw [length_S, List.length_append, List.length_replicate]; show _ + 1 ≤ 16000000; omega), ?_⟩
  rw [lit_colon, S_cat]
  refine ⟨sz (by simp only [length_S, List.length_append, List.length_replicate, List.length_singleton]; omega), ?_⟩
  rw [S_cat]
  refine ⟨sz (by simp only [length_S, List.length_append, List.length_replicate, List.length_singleton]; show _ + 1 ≤ 16000000; omega), ?_⟩
  rw [lit_semi, S_cat]
  exact q

/-! ### _law_taken(_law_box_here), level 5 -/
abbrev s__law_taken : Stmt := top 34
abbrev N__law_taken : List Str := ["_law_box_here", "_law_row", "_law_signs", "_law_found", "_law_due", "_law_judged"]
theorem sc__law_taken : FnScope N__law_taken ["_law_box_here"] (defScope s__law_taken) := ⟨rfl, rfl, rfl, by decide +kernel, rfl, by decide +kernel, by decide +kernel⟩
theorem ok__law_taken (T : Txt K mg e_InvalidText e_InvalidCount e_QueueError) (C__law_take : Ct P w K mg base CX0 1 "_law_take" ["_law_box_here", "_law_many"] (sp__law_take K)) (C__law_text : Ct P w K mg base CX0 2 "_law_text" ["_law_box_here"] (sp__law_text K)) (C_frames_in : Ct P w K mg base (L2.CX P w) 3 "frames_in" ["text"] (sp_frames_in K)) (C__law_frame : Ct P w K mg base CX0 1 "_law_frame" ["_law_row"] (sp__law_frame K)) (C_all_framed : Ct P w K mg base (L2.CX P w) 4 "all_framed" ["texts"] (sp_all_framed K)) (C_framed : Ct P w K mg base (L2.CX P w) 3 "framed" ["text"] (sp_framed K)) (C_cut_at : Ct P w K mg base (L2.CX P w) 4 "cut_at" ["texts", "signs"] (sp_cut_at K)) (C_is_whole : Ct P w K mg base CX0 4 "is_whole" ["value"] (sp_is_whole K)) (K_cut_at_signs_texts : CtK P w K mg base (L2.CX P w) 4 "cut_at" ["texts", "signs"] ["signs", "texts"] perm_1_0 (sp_cut_at K)) (D : Df K mg "_law_taken" s__law_taken ["_law_box_here"]) : Cg P w K mg base CX0 5 "_law_taken" ["_law_box_here"] (sp__law_taken K) := by
  refine cg1 D sc__law_taken fun f cdv A outer s H a_box_here Q E hr h => ⟨_, (pss_cons (ps_parZ (i := 1) (j := 2) (by rfl) sc__law_taken.nd rfl rfl (by decide) rfl rfl (pa_cons (pe_cl C__law_text (hr.room.mono (by decide)) pass0 (pa_cons (pz 0) pa_nil)) (pa_cons (pe_cl C__law_take (hr.room.mono (by decide)) pass0 (pa_cons (pz 0) (pa_cons pe_int pa_nil))) pa_nil)) (by rfl))
    (pss_cons (ps_set (i := 3) sc__law_taken.nd rfl (Or.inl rfl) (pe_lz (pa_cons (pe_cl C_framed (hr.room.mono (by decide)) passL (pa_cons (pz 1) pa_nil)) (pa_cons (pe_cl C_all_framed (hr.room.mono (by decide)) passL (pa_cons (pe_lz pa_nil) pa_nil)) (pa_cons (pe_cl C_all_framed (hr.room.mono (by decide)) passL (pa_cons (pe_tz pa_nil) pa_nil)) (pa_cons (pe_cl C_all_framed (hr.room.mono (by decide)) passL (pa_cons (pe_lz (pa_cons pe_str (pa_cons (pz 1) pa_nil))) pa_nil)) (pa_cons (pe_cl C_frames_in (hr.room.mono (by decide)) passL (pa_cons (pe_cl C__law_frame (hr.room.mono (by decide)) pass0 (pa_cons (pz 1) pa_nil)) pa_nil)) pa_nil)))))))
    (pss_cons (ps_set (i := 4) sc__law_taken.nd rfl (Or.inl rfl) (pe_lz (pa_cons (pe_cl C__law_frame (hr.room.mono (by decide)) pass0 (pa_cons (pz 1) pa_nil)) (pa_cons pe_str (pa_cons pe_str (pa_cons (pe_op (k_add K) pe_str (pe_cl C__law_frame (hr.room.mono (by decide)) pass0 (pa_cons (pz 1) pa_nil))) (pa_cons (pe_tz (pa_cons (pe_lz (pa_cons (pz 1) pa_nil)) (pa_cons (pe_op (k_add K) (pe_callB (k_len K) (by rfl) T.n_len bt_len (pa_cons (pz 1) pa_nil)) pe_int) pa_nil))) pa_nil)))))))
    (pss_cons (ps_set (i := 3) sc__law_taken.nd rfl (Or.inl rfl) (pe_op (k_add K) (pz 3) (pe_lz (pa_cons (pe_cl C_cut_at (hr.room.mono (by decide)) passL (pa_cons (pe_lz pa_nil) (pa_cons (pz 2) pa_nil))) (pa_cons (pe_cl C_cut_at (hr.room.mono (by decide)) passL (pa_cons (pe_tz pa_nil) (pa_cons pe_int pa_nil))) (pa_cons (pe_cl C_cut_at (hr.room.mono (by decide)) passL (pa_cons (pe_lz (pa_cons pe_str pa_nil)) (pa_cons (pz 2) pa_nil))) (pa_cons (pe_clK K_cut_at_signs_texts (hr.room.mono (by decide)) passL (pk_cons (pe_op o_pow pe_int pe_int) (pk_cons (pe_lz (pa_cons (pz 1) (pa_cons pe_str pa_nil))) pk_nil))) pa_nil)))))))
    (pss_cons (ps_set (i := 4) sc__law_taken.nd rfl (Or.inl rfl) (pe_op (k_add K) (pz 4) (pe_lz (pa_cons pe_int (pa_cons pe_int (pa_cons (pe_callTy c_int (by rfl) T.n_int bt_int (pa_cons (pe_cmpR o_gtS (pz 2) pe_int (nomark _)) pa_nil)) (pa_cons pe_int pa_nil)))))))
    (pss_cons (ps_set (i := 5) sc__law_taken.nd rfl (Or.inl rfl) (pe_lz (pa_cons (pe_cl C_is_whole (hr.room.mono (by decide)) pass0 (pa_cons (pe_cl C__law_frame (hr.room.mono (by decide)) pass0 (pa_cons (pz 1) pa_nil)) pa_nil)) (pa_cons (pe_cl C_is_whole (hr.room.mono (by decide)) pass0 (pa_cons (pe_op (k_add K) (pz 1) (pe_cl C__law_frame (hr.room.mono (by decide)) pass0 (pa_cons (pz 1) pa_nil))) pa_nil)) (pa_cons (pe_cl C_is_whole (hr.room.mono (by decide)) pass0 (pa_cons pe_str pa_nil)) (pa_cons (pe_cl C_is_whole (hr.room.mono (by decide)) pass0 (pa_cons (pe_op (k_add K) (pe_cl C__law_frame (hr.room.mono (by decide)) pass0 (pa_cons (pz 1) pa_nil)) pe_str) pa_nil)) pa_nil))))))
    (pss_one (ps_ret (pe_andZ (pe_cmpR (k_eq K hr.room.units) (pz 3) (pz 4) (nomark _)) (pe_one (pe_cmpR (k_eq K hr.room.units) (pe_callB (c_repr hr) (by rfl) T.n_repr bt_repr (pa_cons (pz 5) pa_nil)) (pe_callB (c_repr hr) (by rfl) T.n_repr bt_repr (pa_cons (pe_lz (pa_cons pe_bl (pa_cons (pe_cmpR (k_in K) (pz 1) (pe_lz (pa_cons pe_str (pa_cons pe_str pa_nil))) (by rfl)) (pa_cons pe_bl (pa_cons pe_bl pa_nil))))) pa_nil)) (nomark _)))))))))))), ?_⟩
  obtain ⟨b, n, rfl, hB, hn, q⟩ := h
  refine ⟨b, n, rfl, hB, by omega, fun l H1 t1 B1 tl => ?_⟩
  refine ⟨b, 9, _, rfl, rfl, by decide, by decide, B1, by omega, fun g H2 t2 B2 g0 g1 => ?_⟩
  obtain ⟨k, rfl⟩ : ∃ k : Nat, g = (k : Int) := ⟨g.toNat, by omega⟩
  obtain ⟨pl, l6⟩ := tl
  have lf := frL_len (l := l) (by omega)
  have pf := frL_pr pl
  have ok0 : ∀ m ∈ ([] : List (List Nat)), Pr m ∧ m.length ≤ 80000 := fun m h => by cases h
  have ok1 : ∀ m ∈ [([] : List Nat)], Pr m ∧ m.length ≤ 80000 := fun m h => by rw [List.mem_singleton.mp h]; exact ⟨pr_nil, by decide⟩
  have ok2 : ∀ m ∈ [[], l], Pr m ∧ m.length ≤ 80000 := fun m h => by
    simp only [List.mem_cons, List.not_mem_nil, or_false] at h
    rcases h with rfl | rfl
    · exact ⟨pr_nil, by decide⟩
    · exact ⟨pl, by omega⟩
  have ok3 : ∀ m ∈ [l, []], Pr m ∧ m.length ≤ 80000 := fun m h => by
    simp only [List.mem_cons, List.not_mem_nil, or_false] at h
    rcases h with rfl | rfl
    · exact ⟨pl, by omega⟩
    · exact ⟨pr_nil, by decide⟩
  have nil7 : frL [] = [48, 48, 48, 48, 48, 58, 59] := by decide +kernel
  have fl2 : ([[], l].map frL).flatten = [48, 48, 48, 48, 48, 58, 59] ++ frL l := by
    rw [List.map_cons, List.map_cons, List.map_nil, List.flatten_cons, List.flatten_cons, List.flatten_nil, List.append_nil, nil7]
  refine .inl ⟨l, rfl, pl, by omega, ?_⟩
  refine ⟨by show 0 ≤ sizeLine; decide, fun p1 H3 n3 => ?_⟩
  refine .inl ⟨[], ⟨p1, rfl, .inl (SqL.of n3.here), ok0⟩, by decide, fun H4 s4 => ?_⟩
  refine ⟨by show 0 ≤ sizeLine; decide, fun p2 H5 n5 => ?_⟩
  refine .inl ⟨[], ⟨p2, rfl, .inr (SqT.of n5.here), ok0⟩, by decide, fun H6 s6 => ?_⟩
  refine ⟨by show 2 ≤ sizeLine; decide, fun p3 H7 n7 => ?_⟩
  have h7 := n7.here
  rw [lit_nil] at h7
  refine .inl ⟨[[], l], ⟨p3, rfl, .inl (SqL.of h7), ok2⟩, by rw [fl2, List.length_append, lf]; show 7 + _ ≤ _; omega, fun H8 s8 => ?_⟩
  refine ⟨l, rfl, by omega, ?_⟩
  refine .inl ⟨frL l, rfl, pf, by omega, fun p r H9 s9 _ _ hr hp => ?_⟩
  rw [sc_one (by omega)] at hr hp
  refine ⟨by show 5 ≤ sizeLine; decide, fun f1 H10 n10 => ?_⟩
  refine ⟨l, rfl, by omega, ?_⟩
  refine ⟨l, rfl, by omega, ?_⟩
  rw [lit_z]
  refine ⟨sz (by rw [length_S, length_S, lf]; show 7 + _ ≤ _; omega), ?_⟩
  rw [S_cat]
  refine ⟨by show 1 ≤ sizeLine; decide, fun a1 H11 n11 => ?_⟩
  refine ⟨sz (by rw [length_S]; omega), ?_⟩
  rw [length_S]
  refine ⟨by show 2 ≤ sizeLine; decide, fun a2 H12 n12 => ?_⟩
  refine ⟨by show 5 ≤ sizeLine; decide, fun f2 H13 n13 => ?_⟩
  refine ⟨by show 0 ≤ sizeLine; decide, fun c1 H14 n14 => ?_⟩
  refine .inl ⟨[], k, ⟨c1, rfl, .inl (SqL.of n14.here), ok0⟩, rfl, fun H15 s15 => ?_⟩
  refine ⟨by show 0 ≤ sizeLine; decide, fun c2 H16 n16 => ?_⟩
  refine .inl ⟨[], 0, ⟨c2, rfl, .inr (SqT.of n16.here), ok0⟩, rfl, fun H17 s17 => ?_⟩
  refine ⟨by show 1 ≤ sizeLine; decide, fun c3 H18 n18 => ?_⟩
  have h18 := n18.here
  rw [lit_nil] at h18
  refine .inl ⟨[[]], k, ⟨c3, rfl, .inl (SqL.of h18), ok1⟩, rfl, fun H19 s19 => ?_⟩
  refine ⟨⟨by decide, by decide, by decide⟩, ?_⟩
  refine ⟨by show 2 ≤ sizeLine; decide, fun c4 H20 n20 => ?_⟩
  have h20 := n20.here
  rw [lit_nil] at h20
  refine .inl ⟨[l, []], 100000000000000, ⟨c4, rfl, .inl (SqL.of h20), ok3⟩, by decide, fun H21 s21 => ?_⟩
  refine ⟨by show 4 ≤ sizeLine; decide, fun c5 H22 n22 => ?_⟩
  have s1322 := ((((((((n14.same.trans s15).trans n16.same).trans s17).trans n18.same).trans s19).trans n20.same).trans s21).trans n22.same)
  have s1022 := (n11.same.trans n12.same).trans (n13.same.trans s1322)
  refine .inl ⟨_, _, s1022 _ _ n10.here, n22.here, by show 9 ≤ sizeLine; decide, fun f3 H23 n23 => ?_⟩
  refine ⟨by show 4 ≤ sizeLine; decide, fun d1 H24 n24 => ?_⟩
  refine .inl ⟨_, _, n24.keep (n23.keep (s1322 _ _ n13.here)), n24.here, by show 9 ≤ sizeLine; decide, fun d2 H25 n25 => ?_⟩
  refine ⟨l, rfl, by omega, ?_⟩
  refine .inl ⟨frL l, rfl, pf, by omega, fun H26 s26 => ?_⟩
  refine ⟨l, rfl, by omega, ?_⟩
  refine ⟨sz (by rw [length_S, length_S, lf]; omega), ?_⟩
  rw [S_cat]
  refine .inl ⟨l ++ frL l, rfl, pr_app pl pf, by rw [List.length_append, lf]; omega, fun H27 s27 => ?_⟩
  refine .inl ⟨[], by rw [← lit_nil], pr_nil, by decide, fun H28 s28 => ?_⟩
  refine ⟨l, rfl, by omega, ?_⟩
  rw [lit_sp]
  refine ⟨sz (by rw [length_S, length_S, lf]; show _ + 1 ≤ _; omega), ?_⟩
  rw [S_cat]
  refine .inl ⟨frL l ++ [32], rfl, pr_app pf (pr_one (by decide)), by rw [List.length_append, lf]; show _ + 1 ≤ _; omega, fun H29 s29 => ?_⟩
  refine ⟨by show 4 ≤ sizeLine; decide, fun j1 H30 n30 => ?_⟩
  have h23 := n23.here
  have h25 := n25.here
  have h30 := n30.here
  clear h7 h18 h20
  have cc1 : ((M9.cnt [[]] k : Nat) : Int) = if decide (6 < (k : Int)) = true then 1 else 0 := by
    show (((if 0 + 7 ≤ k then 1 + 0 else 0 : Nat) : Nat) : Int) = _
    by_cases z : 7 ≤ k
    · rw [if_pos (by omega), if_pos (decide_eq_true (by omega))]
      rfl
    · rw [if_neg (by omega), if_neg (by simp; omega)]
      rfl
  have cc2 : ((M9.cnt [l, []] 100000000000000 : Nat) : Int) = 2 := by
    show (((if l.length + 7 ≤ 100000000000000 then 1 + (if 0 + 7 ≤ 100000000000000 - (l.length + 7) then 1 + 0 else 0) else 0 : Nat) : Nat) : Int) = 2
    rw [if_pos (by omega), if_pos (by omega)]
    rfl
  generalize hc : (if decide (6 < (k : Int)) = true then (1 : Int) else 0) = c at cc1 h25
  have h23' : H23 f3 = some (.lst [.str (S (frL l)), .str (S []), .str (S []), .str (S ([48, 48, 48, 48, 48, 58, 59] ++ frL l)), .ref p, .int 0, .int 0, .int c, .int 2]) := by
    rw [h23, fl2, cc1, cc2]
    rfl
  have h25' : H25 d2 = some (.lst [.str (S (frL l)), .str (S []), .str (S []), .str (S ([48, 48, 48, 48, 48, 58, 59] ++ frL l)), .ref a2, .int 0, .int 0, .int c, .int 2]) := by
    rw [h25, lit_nil]
    rfl
  have s2530 := s26.trans (s27.trans (s28.trans (s29.trans n30.same)))
  have s2330 := (n24.same.trans n25.same).trans s2530
  have s1330 := (s1322.trans n23.same).trans s2330
  have s1030 := (n11.same.trans n12.same).trans (n13.same.trans s1330)
  have e7 : ((l.length + 7 : Nat) : Int) = (l.length : Int) + 7 := by omega
  rw [e7] at hp
  have sh9 : SeqAt.shaped (.list [.str (S (frL l)), .str (S []), .str (S []), .str (S ([48, 48, 48, 48, 48, 58, 59] ++ frL l)), .tuple [strsD [l], .int ((l.length : Int) + 7)], .int 0, .int 0, .int c, .int 2]) = true := by
    show ((PyData.strOk (S (frL l)) && (PyData.strOk (S []) && (PyData.strOk (S []) && (PyData.strOk (S ([48, 48, 48, 48, 48, 58, 59] ++ frL l)) && (((PyData.strOk (S l) && true) && (true && true)) && (true && (true && (true && (true && true))))))))) && decide (_ ≤ 64)) = true
    rw [strOk_S pf, strOk_S pr_nil, strOk_S (pr_app (pr_of (by decide)) pf), strOk_S pl]
    rfl
  have dp9 : ∀ {pp aa rr : Addr}, H30 pp = some (.lst [.str (S (frL l)), .str (S []), .str (S []), .str (S ([48, 48, 48, 48, 48, 58, 59] ++ frL l)), .ref aa, .int 0, .int 0, .int c, .int 2]) → H30 aa = some (.tup [.ref rr, .int ((l.length : Int) + 7)]) → H30 rr = some (.lst (strsV [l])) →
      Dp K H30 (.ref pp) (.list [.str (S (frL l)), .str (S []), .str (S []), .str (S ([48, 48, 48, 48, 48, 58, 59] ++ frL l)), .tuple [strsD [l], .int ((l.length : Int) + 7)], .int 0, .int 0, .int c, .int 2]) := fun a b d =>
    .lst (SqL.of a) (.cons (.str _) (.cons (.str _) (.cons (.str _) (.cons (.str _) (.cons (.tup (SqT.of b) (.cons (dp_strs (SqL.of d)) (.cons (.int _) .nil))) (.cons (.int _) (.cons (.int _) (.cons (.int _) (.cons (.int _) .nil)))))))))
  refine ⟨_, _, dp9 (s2330 _ _ h23') (s1030 _ _ (n10.keep hp)) (s1030 _ _ (n10.keep hr)), dp9 (s2530 _ _ h25') (s1330 _ _ (n13.keep n12.here)) (s1330 _ _ (n13.keep (n12.keep n11.here))), sh9, sh9, ?_⟩
  rw [eqv_self sh9]
  obtain ⟨R, hR⟩ : ∃ R, R = (decide (l = []) || decide (l = [48, 48, 48, 49, 50, 58])) := ⟨_, rfl⟩
  have h30' : H30 j1 = some (.lst [.bl true, .bl R, .bl true, .bl false]) := by
    have b1 : decide ((sc (frL l) 0).snd = (frL l).length) = true := by
      rw [sc_one (by omega), lf]
      exact decide_eq_true rfl
    have b4 : decide ((sc (frL l ++ [32]) 0).snd = (frL l ++ [32]).length) = false := by
      rw [sc_blank (by omega)]
      exact decide_eq_false (by rw [List.length_append, lf]; show ¬ l.length + 7 = l.length + 7 + 1; omega)
    rw [h30, b1, row_whole l6, ← hR, b4]
    rfl
  have at4 : ∀ d ∈ [PyData.bool true, .bool R, .bool true, .bool false], atomD d = true := fun d hd => by
    simp only [List.mem_cons, List.not_mem_nil, or_false] at hd
    rcases hd with rfl | rfl | rfl | rfl <;> rfl
  have sw4 : Sw 4 (4 + 4 * (2000 + 2)) (.list [.bool true, .bool R, .bool true, .bool false]) := Sw.list (fun d hd => sw_odd (by
    simp only [List.mem_cons, List.not_mem_nil, or_false] at hd
    rcases hd with rfl | rfl | rfl | rfl
    · decide +kernel
    · cases R <;> decide +kernel
    · decide +kernel
    · decide +kernel)) (Nat.le_refl 4)
  have nod : (PyData.list [.bool true, .bool R, .bool true, .bool false]).hasDict = true → false = true := fun z => by
    rw [show (PyData.list [.bool true, .bool R, .bool true, .bool false]).hasDict = PyData.hasDictAll [.bool true, .bool R, .bool true, .bool false] by simp only [PyData.hasDict], atom_dict at4] at z
    exact z
  have dz4 : ∀ {Hx : Hp} {pp : Addr}, Hx pp = some (.lst [.bl true, .bl R, .bl true, .bl false]) → Dz false Hx (.ref pp) (.list [.bool true, .bool R, .bool true, .bool false]) := fun e => .lst e (fun z => by cases z) (.cons (.bl _) (.cons (.bl _) (.cons (.bl _) (.cons (.bl _) .nil))))
  refine ⟨false, _, dz4 h30', nod, sw4.sh, Nat.le_trans sw4.dp (by decide), sz (Nat.le_trans sw4.ln (by decide)), ?_⟩
  refine ⟨by show 2 ≤ sizeLine; decide, fun m1 H31 n31 => ?_⟩
  refine ⟨_, .inl (SqL.of n31.here), rfl, rfl, ?_⟩
  refine ⟨by show 4 ≤ sizeLine; decide, fun j2 H32 n32 => ?_⟩
  have h32 := n32.here
  have inR : (false ^^ inV (V.str (S l)) [.str "", .str "00012:"]) = R := by
    have e1 : ∀ m : List Nat, eqV (.str (S m)) (.str (S l)) = decide (l = m) := fun m => by
      show (S m == S l) = _
      rw [S_beq_eq]
      by_cases z : l = m
      · rw [decide_eq_true z, decide_eq_true z.symm]
      · rw [decide_eq_false z, decide_eq_false fun w => z w.symm]
    rw [hR, Bool.false_xor]
    unfold inV
    rw [List.any_cons, List.any_cons, List.any_nil, lit_nil, show ("00012:" : Str) = S [48, 48, 48, 49, 50, 58] by decide +kernel, e1, e1, Bool.or_false]
  rw [inR] at h32
  refine ⟨false, _, dz4 h32, nod, sw4.sh, Nat.le_trans sw4.dp (by decide), sz (Nat.le_trans sw4.ln (by decide)), ?_⟩
  show Q (.bl (false ^^ decide _)) H32
  rw [decide_eq_true rfl]
  have s210 := (((((((n3.same.trans s4).trans n5.same).trans s6).trans n7.same).trans s8).trans s9).trans n10.same)
  have s232 := ((s210.trans s1030).trans n31.same).trans n32.same
  exact q H32 ((t1.trans t2).trans (But.of s232)) ((B2.same s232).mono (by omega))

/-! ### _law_copy(_law_thing), level 1 -/
abbrev s__law_copy : Stmt := top 28
abbrev N__law_copy : List Str := ["_law_thing"]
theorem sc__law_copy : FnScope N__law_copy ["_law_thing"] (defScope s__law_copy) := ⟨rfl, rfl, rfl, by decide +kernel, rfl, by decide +kernel, by decide +kernel⟩
theorem ok__law_copy (T : Txt K mg e_InvalidText e_InvalidCount e_QueueError) (D : Df K mg "_law_copy" s__law_copy ["_law_thing"]) : Ct P w K mg base CX0 1 "_law_copy" ["_law_thing"] (sp__law_copy K) := by
  refine ct1 D sc__law_copy fun f cdv A outer s H a_thing Q E hr h => ⟨_, (pss_cons (ps_if (pt_trK K (pe_callB (k_isi K) (by rfl) T.n_isinstance bt_isinstance (pa_cons (pz 0) (pa_cons (pe_bltn (v := .ty "list") (by rfl) T.n_list bt_list rfl) pa_nil)))) 
      (pss_one (ps_ret (pe_callTy (k_listS K) (by rfl) T.n_list bt_list (pa_cons (pz 0) pa_nil)))) pss_nil)
    (pss_one (ps_ret (pe_ifExp (pt_trK K (pe_callB (k_isi K) (by rfl) T.n_isinstance bt_isinstance (pa_cons (pz 0) (pa_cons (pe_bltn (v := .ty "dict") (by rfl) T.n_dict bt_dict rfl) pa_nil)))) (pe_callTy (k_dict K rfl) (by rfl) T.n_dict bt_dict (pa_cons (pz 0) pa_nil)) (pz 0))))), ?_⟩
  obtain ⟨d, hd, q⟩ := h
  have kd := hd.vd.kind (K := K)
  cases hd with
  | flat h a =>
    have n1 : isK (kindD d) "list" = false := by cases d <;> first | rfl | cases a
    have n2 : isK (kindD d) "dict" = false := by cases d <;> first | rfl | cases a
    refine ⟨by decide, kindD d, kd, ?_⟩
    rw [n1]
    refine ⟨by decide, kindD d, kd, ?_⟩
    rw [n2]
    refine q _ H (Same.refl H) (.flat h a) fun b e => ?_
    subst e
    cases h <;> cases a
  | @tup a xs ds h hx z =>
    refine ⟨by decide, _, kd, ?_⟩
    refine ⟨by decide, _, kd, ?_⟩
    refine q _ H (Same.refl H) (.tup h hx z) fun b e => ?_
    cases e
    exact .inr ⟨xs, h⟩
  | @lst a xs ds h n hx z =>
    refine ⟨by decide, _, kd, ?_⟩
    refine ⟨xs, .inl (SqL.of h), fun l H2 n2 m2 => ?_⟩
    refine q _ H2 n2.same (.lst n2.here m2 (DzAll.atom hx z) z) fun b e => ?_
    cases e
    exact .inl n2.fresh
  | @dic a h =>
    refine ⟨by decide, _, kd, ?_⟩
    refine ⟨by decide, _, kd, ?_⟩
    refine .inr ⟨[], h, fun p H2 n2 => ?_⟩
    refine q _ H2 n2.same (.dic n2.here) fun b e => ?_
    cases e
    exact .inl n2.fresh

/-! ### _law_no_list(_law_box_here), level 2 -/
abbrev s__law_no_list : Stmt := top 26
abbrev N__law_no_list : List Str := ["_law_box_here"]
theorem sc__law_no_list : FnScope N__law_no_list ["_law_box_here"] (defScope s__law_no_list) := ⟨rfl, rfl, rfl, by decide +kernel, rfl, by decide +kernel, by decide +kernel⟩
theorem ok__law_no_list (C__law_take : Ct P w K mg base CX0 1 "_law_take" ["_law_box_here", "_law_many"] (sp__law_take K)) (D : Df K mg "_law_no_list" s__law_no_list ["_law_box_here"]) : Ct P w K mg base CX0 2 "_law_no_list" ["_law_box_here"] (sp__law_no_list K) := by
  refine ct1 D sc__law_no_list fun f cdv A outer s H a_box_here Q E hr h => ⟨_, (pss_one (ps_ret (pe_ix (k_ix K) (pe_lzS (pa_cons pe_non (pa_cons pe_bl (pa_cons pe_int (pa_cons pe_int (pa_cons pe_str (pa_cons pe_str (pa_cons pe_dnewK (pa_cons pe_str pa_nil))))))))) (pe_cl C__law_take (hr.mono (by decide)) pass0 (pa_cons (pz 0) (pa_cons pe_int pa_nil))) (fun _ _ => rfl)))), ?_⟩
  obtain ⟨b, n, rfl, hB, hn, q⟩ := h
  refine fun a3 h3 => ?_
  have n4 := nw (o := .dK []) h3
  generalize upd H a3 (.dK []) = H4 at n4
  refine ⟨by show 8 ≤ sizeLine; decide, fun p H5 n5 m5 => ?_⟩
  have s5 := n4.same.trans n5.same
  have B5 := hB.same s5
  have np : p ≠ b := (hB.ne (n4.same.free n5.fresh)).symm
  refine ⟨b, 8, n, rfl, rfl, by decide, by decide, B5, by omega, fun r H6 t6 B6 r0 r1 => ?_⟩
  obtain ⟨w, e, hw, _⟩ := atI_some (xs := [V.non, .bl true, .int 0, .int 12, .str "abc", .str "", .ref a3, .str "00001:x;"]) r0 (by exact r1)
  refine ⟨_, w, .inl (SqL.of (t6.at np n5.here)), e, ?_⟩
  have go : ∀ d, Tg H6 w d → thD d = true → (isK (kindD d) "list" || isK (kindD d) "tuple") = false → Q w H6 := fun d g k1 k2 => q w d H6 ((But.of s5).trans t6) B6 g k1 k2
  simp only [List.mem_cons, List.not_mem_nil, or_false] at hw
  rcases hw with rfl | rfl | rfl | rfl | rfl | rfl | rfl | rfl
  · exact go .none (.flat .non rfl) (by decide +kernel) rfl
  · exact go (.bool true) (.flat (.bl _) rfl) (by decide +kernel) rfl
  · exact go (.int 0) (.flat (.int _) rfl) (by decide +kernel) rfl
  · exact go (.int 12) (.flat (.int _) rfl) (by decide +kernel) rfl
  · exact go (.str "abc") (.flat (.str _) rfl) (by decide +kernel) rfl
  · exact go (.str "") (.flat (.str _) rfl) (by decide +kernel) rfl
  · exact go (.dict []) (.dic (t6.at (hB.ne h3).symm (n5.keep n4.here))) (by decide +kernel) rfl
  · exact go (.str "00001:x;") (.flat (.str _) rfl) (by decide +kernel) rfl

/-! ### _law_is_met(_law_told, _law_word, _law_thing), level 1 -/
abbrev s__law_is_met : Stmt := top 30
abbrev N__law_is_met : List Str := ["_law_told", "_law_word", "_law_thing", "_law_due"]
theorem sc__law_is_met : FnScope N__law_is_met ["_law_told", "_law_word", "_law_thing"] (defScope s__law_is_met) := ⟨rfl, rfl, rfl, by decide +kernel, rfl, by decide +kernel, by decide +kernel⟩
theorem ok__law_is_met (T : Txt K mg e_InvalidText e_InvalidCount e_QueueError) (D : Df K mg "_law_is_met" s__law_is_met ["_law_told", "_law_word", "_law_thing"]) : Cg P w K mg base CX0 1 "_law_is_met" ["_law_told", "_law_word", "_law_thing"] (sp__law_is_met K) := by
  refine cg3 D sc__law_is_met fun f cdv A outer s H a_told a_word a_thing Q E hr h => ⟨_, (pss_cons (ps_set (i := 3) sc__law_is_met.nd rfl (Or.inl rfl) (pe_lzS (pa_cons (pz 1) (pa_cons (pz 2) (pa_cons pe_bl (pa_cons pe_bl pa_nil))))))
    (pss_cons (ps_if (pt_cmpZ (k_ne K hr.room.units) (pe_callB (c_repr hr) (by rfl) T.n_repr bt_repr (pa_cons (pz 0) pa_nil)) (pe_callB (c_repr hr) (by rfl) T.n_repr bt_repr (pa_cons (pz 3) pa_nil)) (nomark _)) 
      (pss_one (ps_ret pe_bl)) pss_nil)
    (pss_cons (ps_if (pt_trK K (pe_callB (k_isi K) (by rfl) T.n_isinstance bt_isinstance (pa_cons (pz 2) (pa_cons (pe_bltn (v := .ty "list") (by rfl) T.n_list bt_list rfl) pa_nil)))) 
      (pss_one (ps_expr (pe_mlK K PySem.F.slot_list_append PySem.F.type_list_append m_append (pz 2) (pa_cons pe_str pa_nil)))) pss_nil)
    (pss_cons (ps_if (pt_trK K (pe_callB (k_isi K) (by rfl) T.n_isinstance bt_isinstance (pa_cons (pz 2) (pa_cons (pe_bltn (v := .ty "dict") (by rfl) T.n_dict bt_dict rfl) pa_nil)))) 
      (pss_one (ps_asg pe_int (pg_sub (pz 2) pe_str (s_dict (hu_of hr.room))))) pss_nil)
    (pss_one (ps_ret (pe_cmpR (k_eq K hr.room.units) (pe_callB (c_repr hr) (by rfl) T.n_repr bt_repr (pa_cons (pz 0) pa_nil)) (pe_callB (c_repr hr) (by rfl) T.n_repr bt_repr (pa_cons (pz 3) pa_nil)) (nomark _)))))))), ?_⟩
  obtain ⟨p, w, d, rfl, rfl, hw, hp, np, hd, hk, apart, q⟩ := h
  obtain ⟨ho, hsm⟩ := thD_of hk
  refine ⟨by show 4 ≤ sizeLine; decide, fun p2 H2 n2 m2 => ?_⟩
  have hp2 := n2.keep hp
  have hd2 := hd.same n2.same
  have all : ∀ {Hx : Hp} {pp : Addr} {e : PyData}, Hx pp = some (.lst [.str w, a_thing, .bl true, .bl false]) → pp ≠ sysModules → Dz true Hx a_thing e → Dz true Hx (.ref pp) (.list [.str w, e, .bool true, .bool false]) := fun h n g => .lst h (fun _ => n) (.cons (.str _) (.cons g (.cons (.bl _) (.cons (.bl _) .nil))))
  have sw : ∀ {k B : Nat} {e : PyData}, 3 ≤ k → 2000 ≤ B → Sw k B e → Sw (k + 1) (4 + 4 * (B + 2)) (.list [.str w, e, .bool true, .bool false]) := fun hk hB s => Sw.list (fun x hx => by
    simp only [List.mem_cons, List.not_mem_nil, or_false] at hx
    rcases hx with rfl | rfl | rfl | rfl
    · exact (sw_odd hw).mono hk hB
    · exact s
    · exact (sw_odd (d := .bool true) (by decide +kernel)).mono hk hB
    · exact (sw_odd (d := .bool false) (by decide +kernel)).mono hk hB) (Nat.le_refl 4)
  have s0 := sw (Nat.le_refl 3) (Nat.le_refl 2000) (sw_odd ho)
  refine ⟨true, _, all hp2 np hd2.dz, fun _ => rfl, s0.sh, Nat.le_trans s0.dp (by decide), sz (Nat.le_trans s0.ln (by decide)), ?_⟩
  refine ⟨true, _, all n2.here m2 hd2.dz, fun _ => rfl, s0.sh, Nat.le_trans s0.dp (by decide), sz (Nat.le_trans s0.ln (by decide)), ?_⟩
  refine iteN (nself _) ?_
  have kd := hd2.vd.kind (K := K)
  -- behind the change: the same is shown of both
  have fin : ∀ (Hx : Hp) (e : PyData) {k B : Nat}, 3 ≤ k → 2000 ≤ B → k + 1 ≤ 60 → 4 + 4 * (B + 2) ≤ 16000000 → Hx p = some (.lst [.str w, a_thing, .bl true, .bl false]) → Hx p2 = some (.lst [.str w, a_thing, .bl true, .bl false]) → Dz true Hx a_thing e → Sw k B e → Q (.bl true) Hx →
      tRet (tOp (zEq K false) (tCB zRepr (tCons (tV 0) tNil)) (tCB zRepr (tCons (tV 3) tNil))) { nx := fun _ H' => Q .non H', rt := Q } [some (.ref p), some (.str w), some a_thing, some (.ref p2)] Hx := fun Hx e {k B} hk hB hk2 hB2 e1 e2 g s qq => by
    have t := sw hk hB s
    refine ⟨true, _, all e1 np g, fun _ => rfl, t.sh, Nat.le_trans t.dp hk2, sz (Nat.le_trans t.ln hB2), ?_⟩
    refine ⟨true, _, all e2 m2 g, fun _ => rfl, t.sh, Nat.le_trans t.dp hk2, sz (Nat.le_trans t.ln hB2), ?_⟩
    show Q (.bl (false ^^ decide _)) Hx
    rw [decide_eq_true rfl]
    exact qq
  cases hd2 with
  | flat h a =>
    have x1 : isK (kindD d) "list" = false := by cases d <;> first | rfl | cases a
    have x2 : isK (kindD d) "dict" = false := by cases d <;> first | rfl | cases a
    refine ⟨by decide, kindD d, kd, ?_⟩
    rw [x1]
    refine ⟨by decide, kindD d, kd, ?_⟩
    rw [x2]
    exact fin H2 d (by decide) (by decide) (by decide) (by decide) hp2 n2.here h (sw_odd ho) (q H2 fun b o e _ => n2.keep e)
  | @tup a xs ds h hx z =>
    refine ⟨by decide, _, kd, ?_⟩
    refine ⟨by decide, _, kd, ?_⟩
    exact fin H2 _ (by decide) (by decide) (by decide) (by decide) hp2 n2.here (.tup h hx) (sw_odd ho) (q H2 fun b o e _ => n2.keep e)
  | @lst a xs ds h n hx z =>
    refine ⟨by decide, _, kd, ?_⟩
    have len : ds.length ≤ 10 := of_decide_eq_true hsm
    have lx := DzAll.len hx
    refine ⟨⟨xs, SqL.of h⟩, xs, h, szlt (by omega), fun H3 w3 => ?_⟩
    have na : a ≠ p := apart a rfl
    have na2 : a ≠ p2 := fun e => by
      rw [e, n2.here] at h
      cases h
      cases hx with
      | cons _ hx =>
        cases hx with
        | cons h1 _ => cases h1 <;> cases z _ (List.mem_cons_of_mem _ List.mem_cons_self)
    have kd3 : KindV K H3 (.ref a) "list" := .inl ⟨rfl, _, SqL.of w3.here⟩
    refine ⟨by decide, _, kd3, ?_⟩
    have at3 : ∀ d ∈ ds ++ [PyData.str "more"], atomD d = true := fun d hd => by
      rcases List.mem_append.mp hd with hd | hd
      · exact z d hd
      · rw [List.mem_singleton.mp hd]; rfl
    have g3 : Dz true H3 (.ref a) (.list (ds ++ [.str "more"])) := .lst w3.here (fun _ => n) (DzAll.app (DzAll.atom hx z) (.cons (.str _) .nil))
    have od : ∀ d ∈ ds ++ [PyData.str "more"], Sw 3 2000 d := fun d hd => by
      rcases List.mem_append.mp hd with hd | hd
      · exact sw_parts ho d hd
      · rw [List.mem_singleton.mp hd]
        exact sw_odd (by decide +kernel)
    have s3 : Sw 4 (4 + 11 * (2000 + 2)) (.list (ds ++ [.str "more"])) := Sw.list od (by rw [List.length_append]; show _ + 1 ≤ 11; omega)
    refine fin H3 _ (by decide) (by decide) (by decide) (by decide) (w3.keep (Ne.symm na) hp2) (w3.keep (Ne.symm na2) n2.here) g3 s3 (q H3 fun b o e c => ?_)
    have nb : b ≠ a := fun eb => by
      subst eb
      rcases c with c | ⟨ys, rfl⟩
      · exact c rfl
      · rw [n2.keep e] at h
        cases h
    exact w3.keep nb (n2.keep e)
  | @dic a h =>
    refine ⟨by decide, _, kd, ?_⟩
    refine ⟨by decide, _, kd, ?_⟩
    refine ⟨[], .inr "more", h, rfl, szlt (by decide), fun H3 w3 => ?_⟩
    have na : a ≠ p := apart a rfl
    have na2 : a ≠ p2 := fun e => by
      rw [e, n2.here] at h
      cases h
    have g3 : Dz true H3 (.ref a) (.dict [(.str "more", .int 1)]) := .dic w3.here (.cons (k := .inr "more") (.int _) .nil)
    refine fin H3 _ (by decide) (by decide) (by decide) (by decide) (w3.keep (Ne.symm na) hp2) (w3.keep (Ne.symm na2) n2.here) g3 (sw_odd (by decide +kernel)) (q H3 fun b o e c => ?_)
    have nb : b ≠ a := fun eb => by
      subst eb
      rcases c with c | ⟨ys, rfl⟩
      · exact c rfl
      · rw [n2.keep e] at h
        cases h
    exact w3.keep nb (n2.keep e)

/-! ### _law_no_count(_law_box_here), level 2 -/
abbrev s__law_no_count : Stmt := top 27
abbrev N__law_no_count : List Str := ["_law_box_here"]
theorem sc__law_no_count : FnScope N__law_no_count ["_law_box_here"] (defScope s__law_no_count) := ⟨rfl, rfl, rfl, by decide +kernel, rfl, by decide +kernel, by decide +kernel⟩
theorem ok__law_no_count (C__law_take : Ct P w K mg base CX0 1 "_law_take" ["_law_box_here", "_law_many"] (sp__law_take K)) (D : Df K mg "_law_no_count" s__law_no_count ["_law_box_here"]) : Ct P w K mg base CX0 2 "_law_no_count" ["_law_box_here"] (sp__law_no_count K) := by
  refine ct1 D sc__law_no_count fun f cdv A outer s H a_box_here Q E hr h => ⟨_, (pss_one (ps_ret (pe_ix (k_ix K) (pe_lzS (pa_cons pe_non (pa_cons pe_bl (pa_cons pe_bl (pa_cons (pe_un un_negZ pe_int) (pa_cons (pe_un un_negZ (pe_op o_pow pe_int pe_int)) (pa_cons pe_str (pa_cons (pe_lzS (pa_cons pe_int pa_nil)) (pa_cons (pe_lzS pa_nil) (pa_cons (pe_tz pa_nil) (pa_cons pe_dnewK pa_nil))))))))))) (pe_cl C__law_take (hr.mono (by decide)) pass0 (pa_cons (pz 0) (pa_cons pe_int pa_nil))) (fun _ _ => rfl)))), ?_⟩
  obtain ⟨b, n, rfl, hB, hn, q⟩ := h
  refine ⟨⟨by decide, by decide, by decide⟩, ?_⟩
  refine ⟨by show 1 ≤ sizeLine; decide, fun a1 H1 n1 m1 => ?_⟩
  refine ⟨by show 0 ≤ sizeLine; decide, fun a2 H2 n2 m2 => ?_⟩
  refine ⟨by show 0 ≤ sizeLine; decide, fun a3 H3 n3 => ?_⟩
  refine fun a4 h4 => ?_
  have n4 := nw (o := .dK []) h4
  generalize upd H3 a4 (.dK []) = H4 at n4
  refine ⟨by show 10 ≤ sizeLine; decide, fun p H5 n5 m5 => ?_⟩
  have s5 := (((n1.same.trans n2.same).trans n3.same).trans n4.same).trans n5.same
  have B5 := hB.same s5
  have nb : ∀ {a : Addr} {o : HO}, H5 a = some o → H a = none → a ≠ b := fun h f => (hB.ne f).symm
  have f2 := n1.same.free n2.fresh
  have f3 := (n1.same.trans n2.same).free n3.fresh
  have f4 := ((n1.same.trans n2.same).trans n3.same).free n4.fresh
  have f5 := (((n1.same.trans n2.same).trans n3.same).trans n4.same).free n5.fresh
  refine ⟨b, 10, n, rfl, rfl, by decide, by decide, B5, by omega, fun r H6 t6 B6 r0 r1 => ?_⟩
  obtain ⟨w, e, hw, _⟩ := atI_some (xs := [V.non, .bl true, .bl false, .int (-1), .int (-(10 ^ (14 : Int).toNat)), .str "3", .ref a1, .ref a2, .ref a3, .ref a4]) r0 (by exact r1)
  refine ⟨_, w, .inl (SqL.of (t6.at (nb n5.here f5) n5.here)), e, ?_⟩
  have go : ∀ d, Tg H6 w d → thD d = true → cntD d = false → Q w H6 := fun d g k1 k2 => q w d H6 ((But.of s5).trans t6) B6 g k1 k2
  simp only [List.mem_cons, List.not_mem_nil, or_false] at hw
  have h1 := n5.keep (n4.keep (n3.keep (n2.keep n1.here)))
  have h2 := n5.keep (n4.keep (n3.keep n2.here))
  have h3 := n5.keep (n4.keep n3.here)
  have h4' := n5.keep n4.here
  rcases hw with rfl | rfl | rfl | rfl | rfl | rfl | rfl | rfl | rfl | rfl
  · exact go .none (.flat .non rfl) (by decide +kernel) rfl
  · exact go (.bool true) (.flat (.bl _) rfl) (by decide +kernel) rfl
  · exact go (.bool false) (.flat (.bl _) rfl) (by decide +kernel) rfl
  · exact go (.int (-1)) (.flat (.int _) rfl) (by decide +kernel) rfl
  · exact go (.int (-(10 ^ (14 : Int).toNat))) (.flat (.int _) rfl) (by decide +kernel) (by decide +kernel)
  · exact go (.str "3") (.flat (.str _) rfl) (by decide +kernel) rfl
  · exact go (.list [.int 3]) (.lst (t6.at (nb h1 n1.fresh) h1) m1 (.cons (.int _) .nil) (fun d hd => by rw [List.mem_singleton.mp hd]; rfl)) (by decide +kernel) rfl
  · exact go (.list []) (.lst (t6.at (nb h2 f2) h2) m2 .nil (fun d hd => by cases hd)) (by decide +kernel) rfl
  · exact go (.tuple []) (.tup (t6.at (nb h3 f3) h3) .nil (fun d hd => by cases hd)) (by decide +kernel) rfl
  · exact go (.dict []) (.dic (t6.at (nb h4' f4) h4')) (by decide +kernel) rfl

/-! ### _law_lists_refused(_law_box_here), level 6 -/
abbrev s__law_lists_refused : Stmt := top 32
abbrev N__law_lists_refused : List Str := ["_law_box_here", "_law_door", "_law_thing", "_law_rows", "_law_turn"]
theorem sc__law_lists_refused : FnScope N__law_lists_refused ["_law_box_here"] (defScope s__law_lists_refused) := ⟨rfl, rfl, rfl, by decide +kernel, rfl, by decide +kernel, by decide +kernel⟩
theorem ok__law_lists_refused (T : Txt K mg e_InvalidText e_InvalidCount e_QueueError) (C__law_copy : Ct P w K mg base CX0 1 "_law_copy" ["_law_thing"] (sp__law_copy K)) (C__law_no_list : Ct P w K mg base CX0 2 "_law_no_list" ["_law_box_here"] (sp__law_no_list K)) (C__law_is_met : Cg P w K mg base CX0 1 "_law_is_met" ["_law_told", "_law_word", "_law_thing"] (sp__law_is_met K)) (C__law_met : Ct P w K mg base CX0 5 "_law_met" ["_law_door", "_law_thing", "_law_more"] (sp__law_met K)) (C__law_take : Ct P w K mg base CX0 1 "_law_take" ["_law_box_here", "_law_many"] (sp__law_take K)) (C__law_text : Ct P w K mg base CX0 2 "_law_text" ["_law_box_here"] (sp__law_text K)) (C__law_no_count : Ct P w K mg base CX0 2 "_law_no_count" ["_law_box_here"] (sp__law_no_count K)) (D : Df K mg "_law_lists_refused" s__law_lists_refused ["_law_box_here"]) : Cg P w K mg base CX0 6 "_law_lists_refused" ["_law_box_here"] (sp__law_lists_refused K) := by
  refine cg1 D sc__law_lists_refused fun f cdv A outer s H a_box_here Q E hr h => ⟨_, (pss_cons (ps_for PassesOwn.never rfl (pi_rng2 (by rfl) T.n_range (pa_cons pe_int (pa_cons pe_int pa_nil))) (pg_name (i := 1) sc__law_lists_refused.nd rfl (Or.inl rfl)) 
      (pss_cons (ps_set (i := 2) sc__law_lists_refused.nd rfl (Or.inl rfl) (pe_cl C__law_copy (hr.room.mono (by decide)) pass0 (pa_cons (pe_cl C__law_no_list (hr.room.mono (by decide)) pass0 (pa_cons (pz 0) pa_nil)) pa_nil)))
      (pss_one (ps_if (pt_not (pt_trK K (pe_cg C__law_is_met (hr.mono (by decide)) pass0 (pa_cons (pe_cl C__law_met (hr.room.mono (by decide)) pass0 (pa_cons (pz 1) (pa_cons pe_str (pa_cons (pz 2) pa_nil)))) (pa_cons pe_str (pa_cons (pz 2) pa_nil)))))) 
        (pss_one (ps_ret pe_bl)) pss_nil))))
    (pss_cons (ps_setLcz (i := 3) (own := [("_law_turn", 4)]) (by rfl) sc__law_lists_refused.nd rfl rfl (sw_true rfl rfl rfl (by decide +kernel)) (pi_rngZ (by rfl) T.n_range (pa_cons (pe_cl C__law_take (hr.room.mono (by decide)) pass0 (pa_cons (pz 0) (pa_cons pe_int pa_nil))) pa_nil)) (blkOk_by (own := [("_law_turn", 4)]) (N := N__law_lists_refused) (sc := defScope s__law_lists_refused) (by decide +kernel)) (fun _ _ _ _ _ => (pg_name (i := 4) sc__law_lists_refused.nd rfl (Or.inl rfl))) (fun _ _ _ _ _ => pts_nil) (fun _ _ _ _ _ => (pe_cl C__law_text (hr.room.mono (by decide)) pass0 (pa_cons (pz 0) pa_nil))))
    (pss_cons (ps_for PassesOwn.never rfl (pi_rngZ (by rfl) T.n_range (pa_cons pe_int pa_nil)) (pg_name (i := 4) sc__law_lists_refused.nd rfl (Or.inl rfl)) 
      (pss_cons (ps_set (i := 2) sc__law_lists_refused.nd rfl (Or.inl rfl) (pe_cl C__law_copy (hr.room.mono (by decide)) pass0 (pa_cons (pe_cl C__law_no_count (hr.room.mono (by decide)) pass0 (pa_cons (pz 0) pa_nil)) pa_nil)))
      (pss_one (ps_if (pt_not (pt_trK K (pe_cg C__law_is_met (hr.mono (by decide)) pass0 (pa_cons (pe_cl C__law_met (hr.room.mono (by decide)) pass0 (pa_cons pe_int (pa_cons (pz 2) (pa_cons (pe_ix (k_ix K) (pe_lzS (pa_cons (pe_callTy (k_listS K) (by rfl) T.n_list bt_list (pa_cons (pz 3) pa_nil)) (pa_cons (pe_callTy (k_tuple K) (by rfl) T.n_tuple bt_tuple (pa_cons (pz 3) pa_nil)) pa_nil))) (pz 4) (fun _ _ => rfl)) pa_nil)))) (pa_cons pe_str (pa_cons (pz 2) pa_nil)))))) 
        (pss_one (ps_ret pe_bl)) pss_nil))))
    (pss_one (ps_ret pe_bl))))), ?_⟩
  obtain ⟨b, n, rfl, hB, hn, q⟩ := h
  have apart : ∀ {Hx : Hp} {t : V} {d : PyData} {p : Addr}, Tg Hx t d → Hx p = none → ∀ a, t = .ref a → a ≠ p := fun g f a e z => by
    subst e
    obtain ⟨o, ho⟩ := g.some
    rw [z, f] at ho
    cases ho
  refine ⟨by decide, by decide, by decide, by decide, for_w (wk_rng 4 4) (fun i σ H' => But b H H' ∧ BoxAt (n + 1 * i) H' b ∧ ∃ w1 w2 : Option V, σ = [some (.ref b), w1, w2, none, none]) ⟨But.refl _ _, hB, _, _, rfl⟩ (fun _ _ _ _ => trivial) ?_ ?_⟩
  · rintro i x σ H' hx ⟨tt, B', w1, w2, rfl⟩
    obtain ⟨hi, rfl⟩ := rngV_at hx
    refine ⟨b, _, rfl, B', by omega, fun v d H1 t1 B1 g k nl => ?_⟩
    refine ⟨d, g, fun t H2 s2 gt fr => ?_⟩
    have nol : NoL K H2 t := ⟨_, gt.vd.kind, nl⟩
    refine ⟨_, rfl, .inr (.inr (.inl ⟨by omega, t, .inl ⟨nol, rfl⟩, fun p H3 s3 fp np hp => ?_⟩))⟩
    refine ⟨p, "text", d, rfl, rfl, by decide +kernel, hp, np, gt.same s3, k, apart gt fp, fun H4 k4 => ?_⟩
    exact ⟨(tt.trans t1).trans (keptB s2 (But.of s3) fr k4), BoxAt.off B1 (((B1.same s2).same s3).mono (by omega)) s2 fr k4, _, _, rfl⟩
  rintro σ H1 ⟨t1, B1, w1, w2, rfl⟩
  rw [rngV_len] at B1
  refine ⟨b, 4, _, rfl, rfl, by decide, by decide, B1, by omega, fun r4 H10 t10 B10 r40 r41 => ?_⟩
  refine ⟨by omega, by omega, fun D hD => lc_w (wk_rng 0 r4.toNat) (by rw [rngV_len]; omega)
      (fun i' acc Hx => ∃ ls : List (List Nat), acc = strsV ls ∧ ls.length = i' ∧ (∀ l ∈ ls, TX 6 l) ∧ But b H10 Hx ∧ BoxAt (n + 10 + 8 * i') Hx b)
      (fun H4 n4 => ⟨[], rfl, rfl, (fun _ h => by cases h), n4.but, ((B10.same n4.same).mono (by omega))⟩) (fun _ _ _ _ => trivial) (fun i' acc Hx ⟨ls, e, l, _⟩ => by rw [e, strsV_len]; omega) ?_ ?_⟩
  · rintro i' x acc H11 hx' hD11 ⟨ls, rfl, hl, ht, t11, B11⟩
    obtain ⟨hi', rfl⟩ := rngV_at hx'
    have nD : D ≠ b := (B10.ne hD).symm
    refine ⟨rfl, ?_⟩
    refine ⟨b, _, rfl, B11, by omega, fun l H12 t12 B12 tl => ⟨t12.at nD hD11, fun H13 w13 => ?_⟩⟩
    refine ⟨ls ++ [l], strsV_app ls l ▸ rfl, by rw [List.length_append, hl]; rfl, fun l' hl' => ?_, (t11.trans t12).wr hD w13, (B12.wr nD.symm w13).mono (by omega)⟩
    rcases List.mem_append.mp hl' with hl' | hl'
    · exact ht l' hl'
    · rw [List.mem_singleton.mp hl']
      exact tl
  rintro acc H11 _ hD11 ⟨ls, rfl, hl, ht, t11, B11⟩
  rw [rngV_len] at hl B11
  have nD : D ≠ b := (B10.ne hD).symm
  have good : ∀ l ∈ ls, Pr l ∧ l.length ≤ 80000 := fun l hl => by
    have := ht l hl
    exact ⟨this.1, by have := this.2; omega⟩
  refine ⟨by decide, by decide, for_w (wk_rng 0 2) (fun i σ H' => But b H11 H' ∧ BoxAt (n + 40 + 1 * i) H' b ∧ ∃ w1 w2 w4 : Option V, σ = [some (.ref b), w1, w2, some (.ref D), w4]) ⟨But.refl _ _, B11.mono (by omega), _, _, _, rfl⟩ (fun _ _ _ _ => trivial) ?_ ?_⟩
  rotate_left
  · rintro σ H12 ⟨t12, B12, w1, w2, w4, rfl⟩
    rw [rngV_len] at B12
    exact q H12 ((t1.trans t10).trans (t11.trans t12)) (B12.mono (by omega))
  rintro i x σ H' hx ⟨tt, B', w1, w2, w4, rfl⟩
  obtain ⟨hi, rfl⟩ := rngV_at hx
  refine ⟨b, _, rfl, B', by omega, fun v d H12 t12 B12 g k nc => ?_⟩
  refine ⟨d, g, fun t H13 s13 gt fr => ?_⟩
  have hD13 := s13 _ _ (t12.at nD (tt.at nD hD11))
  refine ⟨_, .inl (SqL.of hD13), fun c1 H14 n14 _ => ?_⟩
  refine ⟨_, .inl ⟨SqL.of (n14.keep hD13), fun c2 H15 n15 => ?_⟩⟩
  refine ⟨by show 2 ≤ sizeLine; decide, fun c3 H16 n16 _ => ?_⟩
  have s1316 := (n14.same.trans n15.same).trans n16.same
  obtain ⟨w, e, hw, _⟩ := atI_some (xs := [V.ref c1, .ref c2]) (r := 0 + (i : Nat)) (by omega) (by show _ < (2 : Int); omega)
  refine ⟨_, w, .inl (SqL.of n16.here), e, ?_⟩
  have hok : OkL K H16 w ls := by
    simp only [List.mem_cons, List.not_mem_nil, or_false] at hw
    rcases hw with rfl | rfl
    · exact ⟨_, rfl, .inl (SqL.of (n16.keep (n15.keep n14.here))), good⟩
    · exact ⟨_, rfl, .inr (SqT.of (n16.keep n15.here)), good⟩
  have gt16 := gt.same s1316
  refine ⟨7, rfl, .inr (.inr (.inr (.inl ⟨rfl, ⟨ls, d, hok, gt16.vd, nc⟩, fun p H17 s17 fp np hp => ?_⟩)))⟩
  refine ⟨p, "count", d, rfl, rfl, by decide +kernel, hp, np, gt16.same s17, k, apart gt16 fp, fun H18 k18 => ?_⟩
  exact ⟨(tt.trans t12).trans (keptB s13 (But.of (s1316.trans s17)) fr k18), BoxAt.off B12 ((((B12.same s13).same s1316).same s17).mono (by omega)) s13 fr k18, _, _, _, rfl⟩

/-! ### _law_bad(_law_box_here), level 3 -/
abbrev s__law_bad : Stmt := top 25
abbrev N__law_bad : List Str := ["_law_box_here", "_law_way", "_law_row", "_law_spot"]
theorem sc__law_bad : FnScope N__law_bad ["_law_box_here"] (defScope s__law_bad) := ⟨rfl, rfl, rfl, by decide +kernel, rfl, by decide +kernel, by decide +kernel⟩
theorem ok__law_bad (T : Txt K mg e_InvalidText e_InvalidCount e_QueueError) (C__law_take : Ct P w K mg base CX0 1 "_law_take" ["_law_box_here", "_law_many"] (sp__law_take K)) (C__law_text : Ct P w K mg base CX0 2 "_law_text" ["_law_box_here"] (sp__law_text K)) (D : Df K mg "_law_bad" s__law_bad ["_law_box_here"]) : Ct P w K mg base CX0 3 "_law_bad" ["_law_box_here"] (sp__law_bad K) := by
  refine ct1 D sc__law_bad fun f cdv A outer s H a_box_here Q E hr h => ⟨_, (pss_cons (ps_set (i := 1) sc__law_bad.nd rfl (Or.inl rfl) (pe_cl C__law_take (hr.mono (by decide)) pass0 (pa_cons (pz 0) (pa_cons pe_int pa_nil))))
    (pss_cons (ps_if (pt_cmpZ o_ltS (pz 1) pe_int (nomark _)) 
      (pss_cons (ps_set (i := 2) sc__law_bad.nd rfl (Or.inl rfl) (pe_cl C__law_text (hr.mono (by decide)) pass0 (pa_cons (pz 0) pa_nil)))
      (pss_cons (ps_set (i := 3) sc__law_bad.nd rfl (Or.inl rfl) (pe_cl C__law_take (hr.mono (by decide)) pass0 (pa_cons (pz 0) (pa_cons (pe_op (k_add K) (pe_callB (k_len K) (by rfl) T.n_len bt_len (pa_cons (pz 2) pa_nil)) pe_int) pa_nil))))
      (pss_one (ps_ret (pe_op (k_add K) (pe_op (k_add K) (pe_slice (k_sl K) (pz 2) po_none (po_z (pz 3))) (pe_ix (k_ix K) pe_str (pe_op o_mod (pz 1) pe_int) (fun _ _ => rfl))) (pe_slice (k_sl K) (pz 2) (po_z (pz 3)) po_none)))))) pss_nil)
    (pss_one (ps_ret (pe_ix (k_ix K) (pe_lzS (pa_cons pe_non (pa_cons pe_bl (pa_cons pe_bl (pa_cons pe_int (pa_cons pe_int (pa_cons (pe_lzS (pa_cons pe_str pa_nil)) (pa_cons (pe_tz (pa_cons pe_str (pa_cons pe_str pa_nil))) (pa_cons pe_dnewK pa_nil))))))))) (pe_op o_sub (pz 1) pe_int) (fun _ _ => rfl)))))), ?_⟩
  obtain ⟨b, n, rfl, hB, hn, q⟩ := h
  refine ⟨b, 12, n, rfl, rfl, by decide, by decide, hB, by omega, fun way H1 t1 B1 w0 w1 => ?_⟩
  refine ite2 (fun hw => ?_) (fun hw => ?_)
  · refine ⟨b, n + 1, rfl, B1, by omega, fun l H2 t2 B2 tl => ?_⟩
    refine ⟨sz (by rw [length_S]; have := tl.2; omega), ?_⟩
    rw [length_S]
    have l6 := tl.2
    refine ⟨b, _, _, rfl, rfl, by omega, by omega, B2, by omega, fun r H3 t3 B3 r0 r1 => ?_⟩
    obtain ⟨j, rfl⟩ : ∃ j : Nat, r = (j : Int) := ⟨r.toNat, by omega⟩
    refine ⟨sz (by rw [length_S]; omega), ?_⟩
    rw [cut_n]
    refine ⟨show (0 : Int) < 2 by decide, ?_⟩
    obtain ⟨c, e, hc⟩ := marks (i := way % 2) (by omega) (by omega)
    refine ⟨c, by decide, e, ?_⟩
    rw [show (⟨#[c]⟩ : Str) = S [c] from rfl]
    refine ⟨sz (by rw [length_S, length_S, List.length_take]; show _ + 1 ≤ _; omega), ?_⟩
    rw [S_cat]
    refine ⟨sz (by rw [length_S]; omega), ?_⟩
    rw [cut_from]
    refine ⟨sz (by rw [length_S, length_S, List.length_append, List.length_take, List.length_drop]; show _ + 1 + _ ≤ _; omega), ?_⟩
    rw [S_cat]
    have asc := asc_sign (pr_take j tl.1) (pr_drop j tl.1) hc
    have len : (l.take j ++ [c] ++ l.drop j).length ≤ 7 := by
      rw [List.length_append, List.length_append, List.length_take, List.length_drop]
      show _ + 1 + _ ≤ 7
      omega
    refine q _ _ H3 ((t1.trans t2).trans t3) (B3.mono (by omega)) (.flat (.str _) rfl) ?_ (txt_S asc (by omega)) (odd_sign hc)
    show (oddOk _ && true) = true
    rw [odd_asc asc (by omega)]
    rfl
  · have hw' : ¬ way < 4 := dF hw
    refine ⟨by show 1 ≤ sizeLine; decide, fun a1 H2 n2 m2 => ?_⟩
    refine ⟨by show 2 ≤ sizeLine; decide, fun a2 H3 n3 => ?_⟩
    refine fun a3 h3 => ?_
    have n4 := nw (o := .dK []) h3
    generalize upd H3 a3 (.dK []) = H4 at n4
    refine ⟨by show 8 ≤ sizeLine; decide, fun p H5 n5 m5 => ?_⟩
    obtain ⟨w, e, hw, _⟩ := atI_some (xs := [V.non, .bl true, .bl false, .int 0, .int 7, .ref a1, .ref a2, .ref a3]) (r := way - 4) (by omega) (by show _ < 8; omega)
    refine ⟨_, w, .inl (SqL.of n5.here), e, ?_⟩
    have s15 := ((n2.same.trans n3.same).trans n4.same).trans n5.same
    have go : ∀ d, Tg H5 w d → thD d = true → txt d = true → signsD d = false → Q w H5 := fun d g k1 k2 k3 => q w d H5 (t1.trans (But.of s15)) ((B1.same s15).mono (by omega)) g k1 k2 k3
    simp only [List.mem_cons, List.not_mem_nil, or_false] at hw
    rcases hw with rfl | rfl | rfl | rfl | rfl | rfl | rfl | rfl
    · exact go .none (.flat .non rfl) (by decide +kernel) rfl rfl
    · exact go (.bool true) (.flat (.bl _) rfl) (by decide +kernel) rfl rfl
    · exact go (.bool false) (.flat (.bl _) rfl) (by decide +kernel) rfl rfl
    · exact go (.int 0) (.flat (.int _) rfl) (by decide +kernel) rfl rfl
    · exact go (.int 7) (.flat (.int _) rfl) (by decide +kernel) rfl rfl
    · exact go (.list [.str "a"]) (.lst (n5.keep (n4.keep (n3.keep n2.here))) m2 (.cons (.str _) .nil) (fun d hd => by rw [List.mem_singleton.mp hd]; rfl)) (by decide +kernel) rfl rfl
    · exact go (.tuple [.str "a", .str "b"]) (.tup (n5.keep (n4.keep n3.here)) (.cons (.str _) (.cons (.str _) .nil)) (fun d hd => by
        simp only [List.mem_cons, List.not_mem_nil, or_false] at hd
        rcases hd with rfl | rfl <;> rfl)) (by decide +kernel) rfl rfl
    · exact go (.dict []) (.dic (n5.keep n4.here)) (by decide +kernel) rfl rfl

/-! ### _law_texts_refused(_law_box_here), level 6 -/
abbrev s__law_texts_refused : Stmt := top 31
abbrev N__law_texts_refused : List Str := ["_law_box_here", "_law_bad_here", "_law_other", "_law_door", "_law_thing", "_law_row", "_law_mark", "_law_spot", "_law_rows", "_law_more", "_law_kept", "_law_told", "_law_turn"]
theorem sc__law_texts_refused : FnScope N__law_texts_refused ["_law_box_here"] (defScope s__law_texts_refused) := ⟨rfl, rfl, rfl, by decide +kernel, rfl, by decide +kernel, by decide +kernel⟩
theorem ok__law_texts_refused (T : Txt K mg e_InvalidText e_InvalidCount e_QueueError) (C__law_bad : Ct P w K mg base CX0 3 "_law_bad" ["_law_box_here"] (sp__law_bad K)) (C__law_copy : Ct P w K mg base CX0 1 "_law_copy" ["_law_thing"] (sp__law_copy K)) (C__law_is_met : Cg P w K mg base CX0 1 "_law_is_met" ["_law_told", "_law_word", "_law_thing"] (sp__law_is_met K)) (C__law_met : Ct P w K mg base CX0 5 "_law_met" ["_law_door", "_law_thing", "_law_more"] (sp__law_met K)) (C__law_take : Ct P w K mg base CX0 1 "_law_take" ["_law_box_here", "_law_many"] (sp__law_take K)) (C__law_frame : Ct P w K mg base CX0 1 "_law_frame" ["_law_row"] (sp__law_frame K)) (C_is_whole : Ct P w K mg base CX0 4 "is_whole" ["value"] (sp_is_whole K)) (C__law_text : Ct P w K mg base CX0 2 "_law_text" ["_law_box_here"] (sp__law_text K)) (K_is_whole : CtK P w K mg base CX0 4 "is_whole" ["value"] ["value"] perm_0 (sp_is_whole K)) (D : Df K mg "_law_texts_refused" s__law_texts_refused ["_law_box_here"]) : Cg P w K mg base CX0 6 "_law_texts_refused" ["_law_box_here"] (sp__law_texts_refused K) := by
  refine cg1 D sc__law_texts_refused fun f cdv A outer s H a_box_here Q E hr h => ⟨_, (pss_cons (ps_parZ (i := 1) (j := 2) (by rfl) sc__law_texts_refused.nd rfl rfl (by decide) rfl rfl (pa_cons (pe_cl C__law_bad (hr.room.mono (by decide)) pass0 (pa_cons (pz 0) pa_nil)) (pa_cons (pe_cl C__law_bad (hr.room.mono (by decide)) pass0 (pa_cons (pz 0) pa_nil)) pa_nil)) (by rfl))
    (pss_cons (ps_for PassesOwn.never rfl (pi_rngZ (by rfl) T.n_range (pa_cons pe_int pa_nil)) (pg_name (i := 3) sc__law_texts_refused.nd rfl (Or.inl rfl)) 
      (pss_cons (ps_set (i := 4) sc__law_texts_refused.nd rfl (Or.inl rfl) (pe_cl C__law_copy (hr.room.mono (by decide)) pass0 (pa_cons (pz 1) pa_nil)))
      (pss_one (ps_if (pt_not (pt_trK K (pe_cg C__law_is_met (hr.mono (by decide)) pass0 (pa_cons (pe_cl C__law_met (hr.room.mono (by decide)) pass0 (pa_cons (pz 3) (pa_cons (pz 4) (pa_cons (pe_lzS pa_nil) pa_nil)))) (pa_cons pe_str (pa_cons (pz 4) pa_nil)))))) 
        (pss_one (ps_ret pe_bl)) pss_nil))))
    (pss_cons (ps_parZ (i := 5) (j := 6) (by rfl) sc__law_texts_refused.nd rfl rfl (by decide) rfl rfl (pa_cons (pe_cl C__law_frame (hr.room.mono (by decide)) pass0 (pa_cons (pe_op o_mul pe_str (pe_cl C__law_take (hr.room.mono (by decide)) pass0 (pa_cons (pz 0) (pa_cons pe_int pa_nil)))) pa_nil)) (pa_cons (pe_ix (k_ix K) pe_str (pe_cl C__law_take (hr.room.mono (by decide)) pass0 (pa_cons (pz 0) (pa_cons pe_int pa_nil))) (fun _ _ => rfl)) pa_nil)) (by rfl))
    (pss_cons (ps_set (i := 7) sc__law_texts_refused.nd rfl (Or.inl rfl) (pe_cl C__law_take (hr.room.mono (by decide)) pass0 (pa_cons (pz 0) (pa_cons (pe_op (k_addS K) (pe_callB (k_len K) (by rfl) T.n_len bt_len (pa_cons (pz 5) pa_nil)) pe_int) pa_nil))))
    (pss_cons (ps_for PassesOwn.never rfl (pi_lzK K (pe_lzS (pa_cons (pe_op (k_addS K) (pz 5) (pz 6)) (pa_cons (pe_op (k_addS K) (pe_op (k_addS K) (pe_slice (k_sl K) (pz 5) po_none (po_z (pz 7))) (pz 6)) (pe_slice (k_sl K) (pz 5) (po_z (pz 7)) po_none)) (pa_cons (pe_op (k_addS K) (pe_op (k_addS K) (pe_op o_mul (pz 5) pe_int) (pz 6)) (pz 5)) pa_nil))))) (pg_name (i := 4) sc__law_texts_refused.nd rfl (Or.inl rfl)) 
      (pss_one (ps_if (PW.pt (pw_or (pt_cmpZ (k_ne K hr.room.units) (pe_cl C__law_met (hr.room.mono (by decide)) pass0 (pa_cons pe_int (pa_cons (pz 4) (pa_cons (pe_lzS pa_nil) pa_nil)))) (pe_lzS (pa_cons pe_str (pa_cons (pz 4) (pa_cons pe_bl (pa_cons pe_bl pa_nil))))) (nomark _)) (pw_or1 (pt_cmpZ o_isn (pe_cl C_is_whole (hr.room.mono (by decide)) pass0 (pa_cons (pz 4) pa_nil)) pe_bl (nomark _))))) 
        (pss_one (ps_ret pe_bl)) pss_nil)))
    (pss_cons (ps_for PassesOwn.never rfl (pi_rng2 (by rfl) T.n_range (pa_cons pe_int (pa_cons pe_int pa_nil))) (pg_name (i := 3) sc__law_texts_refused.nd rfl (Or.inl rfl)) 
      (pss_cons (ps_parZ (i := 4) (j := 8) (by rfl) sc__law_texts_refused.nd rfl rfl (by decide) rfl rfl (pa_cons (pe_cl C__law_copy (hr.room.mono (by decide)) pass0 (pa_cons (pz 1) pa_nil)) (pa_cons (pe_lcz (own := [("_law_turn", 12)]) (by rfl) sc__law_texts_refused.nd (pi_rngZ (by rfl) T.n_range (pa_cons (pe_cl C__law_take (hr.room.mono (by decide)) pass0 (pa_cons (pz 0) (pa_cons pe_int pa_nil))) pa_nil)) (blkOk_by (own := [("_law_turn", 12)]) (N := N__law_texts_refused) (sc := defScope s__law_texts_refused) (by decide +kernel)) (fun _ _ _ _ _ => (pg_name (i := 12) sc__law_texts_refused.nd rfl (Or.inl rfl))) (fun _ _ _ _ _ => pts_nil) (fun _ _ _ _ _ => (pe_cl C__law_text (hr.room.mono (by decide)) pass0 (pa_cons (pz 0) pa_nil)))) pa_nil)) (by rfl))
      (pss_cons (ps_set (i := 7) sc__law_texts_refused.nd rfl (Or.inl rfl) (pe_cl C__law_take (hr.room.mono (by decide)) pass0 (pa_cons (pz 0) (pa_cons (pe_op (k_addS K) (pe_callB (k_len K) (by rfl) T.n_len bt_len (pa_cons (pz 8) pa_nil)) pe_int) pa_nil))))
      (pss_cons (ps_set (i := 8) sc__law_texts_refused.nd rfl (Or.inl rfl) (pe_op (k_addS K) (pe_op (k_addS K) (pe_op (k_addS K) (pe_slice (k_sl K) (pz 8) po_none (po_z (pz 7))) (pe_lzS (pa_cons (pz 4) pa_nil))) (pe_slice (k_sl K) (pz 8) (po_z (pz 7)) po_none)) (pe_op o_repL (pe_lzS (pa_cons (pz 2) pa_nil)) (pe_cl C__law_take (hr.room.mono (by decide)) pass0 (pa_cons (pz 0) (pa_cons pe_int pa_nil))))))
      (pss_cons (ps_set (i := 9) sc__law_texts_refused.nd rfl (Or.inl rfl) (pe_ix (k_ix K) (pe_lzS (pa_cons (pz 8) (pa_cons (pe_callTy (k_tuple K) (by rfl) T.n_tuple bt_tuple (pa_cons (pz 8) pa_nil)) pa_nil))) (pe_cl C__law_take (hr.room.mono (by decide)) pass0 (pa_cons (pz 0) (pa_cons pe_int pa_nil))) (fun _ _ => rfl)))
      (pss_cons (ps_set (i := 10) sc__law_texts_refused.nd rfl (Or.inl rfl) (pe_callB (c_repr hr) (by rfl) T.n_repr bt_repr (pa_cons (pz 9) pa_nil)))
      (pss_cons (ps_set (i := 11) sc__law_texts_refused.nd rfl (Or.inl rfl) (pe_cl C__law_met (hr.room.mono (by decide)) pass0 (pa_cons (pz 3) (pa_cons pe_str (pa_cons (pz 9) pa_nil)))))
      (pss_one (ps_if (PW.pt (pw_or (pt_cmpZ (k_ne K hr.room.units) (pe_callB (c_repr hr) (by rfl) T.n_repr bt_repr (pa_cons (pz 9) pa_nil)) (pz 10) (nomark _)) (pw_or1 (pt_not (pt_trK K (pe_cg C__law_is_met (hr.mono (by decide)) pass0 (pa_cons (pz 11) (pa_cons pe_str (pa_cons (pz 4) pa_nil))))))))) 
        (pss_one (ps_ret pe_bl)) pss_nil)))))))))
    (pss_one (ps_ret (pe_andZ (pe_cmpR o_is (pe_cl C_is_whole (hr.room.mono (by decide)) pass0 (pa_cons (pz 1) pa_nil)) pe_bl (nomark _)) (pe_one (pe_cmpR o_is (pe_clK K_is_whole (hr.room.mono (by decide)) pass0 (pk_cons (pz 2) pk_nil)) pe_bl (nomark _)))))))))))), ?_⟩
  obtain ⟨b, n, rfl, hB, hn, q⟩ := h
  refine ⟨b, n, rfl, hB, by omega, fun v1 d1 H1 t1 B1 g1 k1 x1 y1 => ?_⟩
  refine ⟨b, _, rfl, B1, by omega, fun v2 d2 H2 t2 B2 g2 k2 x2 y2 => ?_⟩
  have g1 := B1.tg t2 g1 k1
  have bad : ∀ {Hx : Hp} {v : V} {d : PyData}, Tg Hx v d → txt d = true → signsD d = false → BadS Hx v := fun g x y => ⟨_, g.vd, x, y⟩
  have apart : ∀ {Hx : Hp} {t : V} {d : PyData} {p : Addr}, Tg Hx t d → Hx p = none → ∀ a, t = .ref a → a ≠ p := fun g f a e z => by
    subst e
    obtain ⟨o, ho⟩ := g.some
    rw [z, f] at ho
    cases ho
  refine ⟨by decide, by decide, for_w (wk_rng 0 4) (fun i σ H' => Same H2 H' ∧ ∃ w3 w4 : Option V, σ = [some (.ref b), some v1, some v2, w3, w4, none, none, none, none, none, none, none, none]) ⟨Same.refl _, _, _, rfl⟩ (fun _ _ _ _ => trivial) ?_ ?_⟩
  · rintro i x σ H' hx ⟨s, w3, w4, rfl⟩
    obtain ⟨hi, rfl⟩ := rngV_at hx
    refine ⟨d1, g1.same s, fun t H3 s3 gt fr => ?_⟩
    refine ⟨by show 0 ≤ sizeLine; decide, fun p0 H4 n4 _ => ?_⟩
    have gt4 := gt.same n4.same
    obtain rfl | rfl | rfl | rfl : i = 0 ∨ i = 1 ∨ i = 2 ∨ i = 3 := by omega
    case' inl => refine ⟨_, rfl, .inl ⟨by decide, (bad gt4 x1 y1).i, fun p H5 s5 fp np hp => ?_⟩⟩
    case' inr.inl => refine ⟨_, rfl, .inl ⟨by decide, (bad gt4 x1 y1).i, fun p H5 s5 fp np hp => ?_⟩⟩
    case' inr.inr.inl => refine ⟨_, rfl, .inr (.inl ⟨by decide, bad gt4 x1 y1, fun p H5 s5 fp np hp => ?_⟩)⟩
    case' inr.inr.inr => refine ⟨_, rfl, .inr (.inl ⟨by decide, bad gt4 x1 y1, fun p H5 s5 fp np hp => ?_⟩)⟩
    all_goals
      refine ⟨p, "text", d1, rfl, rfl, by decide +kernel, hp, np, gt4.same s5, k1, apart gt4 fp, fun H6 k6 => ?_⟩
      exact ⟨s.trans (kept s3 (n4.same.trans s5) fr k6), _, _, rfl⟩
  rintro σ H3 ⟨s3, w3, w4, rfl⟩
  have B3 := B2.same s3
  refine ⟨b, 9, _, rfl, rfl, by decide, by decide, B3, by omega, fun r H4 t4 B4 r0 r1 => ?_⟩
  refine ⟨by omega, by omega, by show 1 * r.toNat ≤ _; omega, ?_⟩
  rw [show ("a" : Str) = S [97] by decide +kernel, rep_S, rep_one]
  have pa : Pr (List.replicate r.toNat 97) := fun c hc => by rw [(List.mem_replicate.mp hc).2]; decide
  have la : (List.replicate r.toNat 97).length ≤ 9 := by rw [List.length_replicate]; omega
  generalize List.replicate r.toNat 97 = l0 at pa la
  refine ⟨l0, rfl, by omega, ?_⟩
  have pr := frL_pr pa
  have lr := frL_len (l := l0) (by omega)
  generalize frL l0 = row at pr lr
  refine ⟨b, 2, _, rfl, rfl, by decide, by decide, B4, by omega, fun r2 H5 t5 B5 r20 r21 => ?_⟩
  obtain ⟨c, e, hc⟩ := marks r20 r21
  refine ⟨c, by decide, e, ?_⟩
  rw [show (⟨#[c]⟩ : Str) = S [c] from rfl]
  refine ⟨sz (by rw [length_S]; omega), ?_⟩
  rw [length_S]
  refine ⟨b, _, _, rfl, rfl, by omega, by omega, B5, by omega, fun r3 H6 t6 B6 r30 r31 => ?_⟩
  obtain ⟨j, rfl⟩ : ∃ j : Nat, r3 = (j : Int) := ⟨r3.toNat, by omega⟩
  refine ⟨sz (by rw [length_S, length_S]; show _ + 1 ≤ _; omega), ?_⟩
  rw [S_cat]
  refine ⟨sz (by rw [length_S]; omega), ?_⟩
  rw [cut_n]
  refine ⟨sz (by rw [length_S, length_S, List.length_take]; show _ + 1 ≤ _; omega), ?_⟩
  rw [S_cat]
  refine ⟨sz (by rw [length_S]; omega), ?_⟩
  rw [cut_from]
  refine ⟨sz (by rw [length_S, length_S, List.length_append, List.length_take, List.length_drop]; show _ + 1 + _ ≤ _; omega), ?_⟩
  rw [S_cat]
  refine ⟨by decide, by decide, by rw [length_S]; show _ * 2 ≤ _; omega, ?_⟩
  rw [rep_S, show (List.replicate (2 : Int).toNat row).flatten = row ++ row by show (List.replicate 2 row).flatten = _; simp]
  refine ⟨sz (by rw [length_S, length_S, List.length_append]; show _ + 1 ≤ _; omega), ?_⟩
  rw [S_cat]
  refine ⟨sz (by rw [length_S, length_S, List.length_append, List.length_append]; show _ + 1 + _ ≤ _; omega), ?_⟩
  rw [S_cat]
  refine ⟨by show 3 ≤ sizeLine; decide, fun lp H7 n7 _ => ?_⟩
  have items : ∀ x ∈ [V.str (S (row ++ [c])), .str (S (row.take j ++ [c] ++ row.drop j)), .str (S (row ++ row ++ [c] ++ row))], ∃ p q, x = .str (S (p ++ [c] ++ q)) ∧ Pr p ∧ Pr q ∧ (p ++ [c] ++ q).length ≤ 1000 := fun x hx => by
    simp only [List.mem_cons, List.not_mem_nil, or_false] at hx
    rcases hx with rfl | rfl | rfl
    · exact ⟨row, [], by rw [List.append_nil], pr, pr_nil, by rw [List.append_nil, List.length_append]; show _ + 1 ≤ _; omega⟩
    · exact ⟨_, _, rfl, pr_take j pr, pr_drop j pr, by rw [List.length_append, List.length_append, List.length_take, List.length_drop]; show _ + 1 + _ ≤ _; omega⟩
    · exact ⟨_, _, rfl, pr_app pr pr, pr, by rw [List.length_append, List.length_append, List.length_append]; show _ + 1 + _ ≤ _; omega⟩
  have h7 := n7.here
  generalize [V.str (S (row ++ [c])), .str (S (row.take j ++ [c] ++ row.drop j)), .str (S (row ++ row ++ [c] ++ row))] = texts at items h7
  have t27 : But b H2 H7 := ((((But.of s3).trans t4).trans t5).trans t6).trans n7.but
  have B7 := B6.same n7.same
  have g17 := B2.tg t27 g1 k1
  have g27 := B2.tg t27 g2 k2
  refine ⟨⟨_, SqL.of h7⟩, for_w (wk_list texts) (fun i σ H' => Same H7 H' ∧ ∃ w3 w4 : Option V, σ = [some (.ref b), some v1, some v2, w3, w4, some (.str (S row)), some (.str (S [c])), some (.int (j : Nat)), none, none, none, none, none]) ⟨Same.refl _, _, _, rfl⟩ (fun _ _ _ p => sqL_same p.1 (SqL.of h7)) ?_ ?_⟩
  · rintro i x σ H' hx ⟨s, w3', w4', rfl⟩
    obtain ⟨p, p', rfl, hp, hp', hz⟩ := items x (List.mem_of_getElem? hx)
    have asc := asc_sign hp hp' hc
    have bd : ∀ Hx : Hp, BadS Hx (.str (S (p ++ [c] ++ p'))) := fun Hx => ⟨_, vd_S _, txt_S asc (by omega), odd_sign hc⟩
    refine ⟨by show 0 ≤ sizeLine; decide, fun p0 H8 n8 _ => ?_⟩
    refine ⟨2, rfl, .inr (.inl ⟨.inl rfl, bd _, fun p1 H9 s9 fp np h1 => ?_⟩)⟩
    refine ⟨by show 4 ≤ sizeLine; decide, fun p2 H10 n10 _ => ?_⟩
    refine ⟨_, _, dp_ref (n10.keep h1), dp_ref n10.here, shaped_ref (by decide +kernel) asc, shaped_ref (by decide +kernel) asc, ?_⟩
    rw [eqv_self (shaped_ref (by decide +kernel) asc)]
    refine .inr ⟨bd _, ?_⟩
    exact ⟨((s.trans n8.same).trans s9).trans n10.same, _, _, rfl⟩
  rintro σ H8 ⟨s8, w3', w4', rfl⟩
  have B8 := B7.same s8
  have g18 := g17.same s8
  have g28 := g27.same s8
  refine ⟨by decide, by decide, by decide, by decide, for_w (wk_rng 4 4) (fun i σ H' => But b H8 H' ∧ BoxAt (n + 40 + 60 * i) H' b ∧ ∃ w3 w4 w7 w8 w9 w10 w11 : Option V, σ = [some (.ref b), some v1, some v2, w3, w4, some (.str (S row)), some (.str (S [c])), w7, w8, w9, w10, w11, none]) ⟨But.refl _ _, B8.mono (by omega), _, _, _, _, _, _, _, rfl⟩ (fun _ _ _ _ => trivial) ?_ ?_⟩
  rotate_left
  · rintro σ H9 ⟨t9, B9, w3, w4, w7, w8, w9, w10, w11, rfl⟩
    have g19 := B8.tg t9 g18 k1
    have g29 := B8.tg t9 g28 k2
    refine .inr ⟨bad g19 x1 y1, ?_⟩
    refine .inr ⟨bad g29 x2 y2, ?_⟩
    rw [rngV_len] at B9
    exact q H9 (((t1.trans t2).trans (t27.trans (But.of s8))).trans t9) (B9.mono (by omega))
  rintro i x σ H' hx ⟨tt, B', w3, w4, w7, w8, w9, w10, w11, rfl⟩
  obtain ⟨hi, rfl⟩ := rngV_at hx
  have ga := B8.tg tt g18 k1
  have gb := B8.tg tt g28 k2
  refine ⟨d1, ga, fun t H9 s9 gt fr => ?_⟩
  have B9 := B'.same s9
  refine ⟨b, 4, _, rfl, rfl, by decide, by decide, B9, by omega, fun r4 H10 t10 B10 r40 r41 => ?_⟩
  refine ⟨by omega, by omega, fun D hD => lc_w (wk_rng 0 r4.toNat) (by rw [rngV_len]; omega)
      (fun i' acc Hx => ∃ ls : List (List Nat), acc = strsV ls ∧ ls.length = i' ∧ (∀ l ∈ ls, TX 6 l) ∧ But b H10 Hx ∧ BoxAt (n + 40 + 60 * i + 1 + 8 * i') Hx b)
      (fun H4 n4 => ⟨[], rfl, rfl, (fun _ h => by cases h), n4.but, (B10.same n4.same)⟩) (fun _ _ _ _ => trivial) (fun i' acc Hx ⟨ls, e, l, _⟩ => by rw [e, strsV_len]; omega) ?_ ?_⟩
  · rintro i' x acc H11 hx' hD11 ⟨ls, rfl, hl, ht, t11, B11⟩
    obtain ⟨hi', rfl⟩ := rngV_at hx'
    have nD : D ≠ b := (B10.ne hD).symm
    refine ⟨rfl, ?_⟩
    refine ⟨b, _, rfl, B11, by omega, fun l H12 t12 B12 tl => ⟨t12.at nD hD11, fun H13 w13 => ?_⟩⟩
    refine ⟨ls ++ [l], strsV_app ls l ▸ rfl, by rw [List.length_append, hl]; rfl, fun l' hl' => ?_, (t11.trans t12).wr hD w13, (B12.wr nD.symm w13).mono (by omega)⟩
    rcases List.mem_append.mp hl' with hl' | hl'
    · exact ht l' hl'
    · rw [List.mem_singleton.mp hl']
      exact tl
  rintro acc H11 _ hD11 ⟨ls, rfl, hl, ht, t11, B11⟩
  rw [rngV_len] at hl B11
  have hl3 : ls.length ≤ 3 := by omega
  refine .inl ⟨_, .inl (SqL.of hD11), ?_⟩
  rw [strsV_len]
  refine ⟨b, _, _, rfl, rfl, by omega, by omega, B11, by omega, fun r5 H12 t12 B12 r50 r51 => ?_⟩
  obtain ⟨j2, rfl⟩ : ∃ j2 : Nat, r5 = (j2 : Int) := ⟨r5.toNat, by omega⟩
  have nD : D ≠ b := (B10.ne hD).symm
  have hD12 := t12.at nD hD11
  refine .inl ⟨_, SqL.of hD12, fun a1 H13 n13 => ?_⟩
  have h13 := n13.here
  rw [cutV_to, strsV_take] at h13
  refine ⟨by show 1 ≤ sizeLine; decide, fun a2 H14 n14 _ => ?_⟩
  refine ⟨_, _, n14.keep h13, n14.here, sz (by rw [strsV_len, List.length_take]; show _ + 1 ≤ _; omega), fun a3 H15 n15 _ => ?_⟩
  refine .inl ⟨_, SqL.of (n15.keep (n14.keep (n13.keep hD12))), fun a4 H16 n16 => ?_⟩
  have h16 := n16.here
  rw [cutV_fr, strsV_drop] at h16
  refine ⟨_, _, n16.keep n15.here, h16, sz (by rw [List.length_append, strsV_len, strsV_len, List.length_take, List.length_drop]; show _ + 1 + _ ≤ _; omega), fun a5 H17 n17 _ => ?_⟩
  refine ⟨by show 1 ≤ sizeLine; decide, fun a6 H18 n18 _ => ?_⟩
  have s1218 := ((((n13.same.trans n14.same).trans n15.same).trans n16.same).trans n17.same).trans n18.same
  have B18 := B12.same s1218
  have n5b : a5 ≠ b := (B12.ne ((((n13.same.trans n14.same).trans n15.same).trans n16.same).free n17.fresh)).symm
  have n6b : a6 ≠ b := (B12.ne (((((n13.same.trans n14.same).trans n15.same).trans n16.same).trans n17.same).free n18.fresh)).symm
  refine ⟨b, 2, _, rfl, rfl, by decide, by decide, B18, by omega, fun k H19 t19 B19 k0 k1' => ?_⟩
  have kn : k.toNat ≤ 1 := by omega
  refine ⟨_, t19.at n6b n18.here, by omega, by omega, sz (by show 1 * k.toNat ≤ _; omega), fun a7 H20 n20 => ?_⟩
  refine ⟨_, _, n20.keep (t19.at n5b (n18.keep n17.here)), n20.here, sz (by rw [rep_len1, List.length_append, List.length_append, strsV_len, strsV_len, List.length_take, List.length_drop]; show _ + 1 + _ + _ ≤ _; omega), fun a8 H21 n21 m21 => ?_⟩
  have h21 : H21 a8 = some (.lst (strsV (ls.take j2) ++ t :: (strsV (ls.drop j2) ++ (List.replicate k.toNat [v2]).flatten))) := by
    rw [n21.here]
    simp
  have s1921 := n20.same.trans n21.same
  have t921 : But b H9 H21 := ((((t10.trans t11).trans t12).trans (But.of s1218)).trans t19).trans (But.of s1921)
  have B21 := B19.same s1921
  have gt21 : Tg H21 t d1 := B9.tg t921 gt k1
  have gb21 : Tg H21 v2 d2 := B9.tg t921 (gb.same s9) k2
  have dz := more_data (ls := ls) (j := j2) (k := k.toNat) gt21.dz gb21.dz
  obtain ⟨sws, len8⟩ := more_sw (ls := ls) (j := j2) (k := k.toNat) hl3 ht kn (thD_of k1).1 (thD_of k2).1
  have pre : ∀ l ∈ ls.take j2, Pr l ∧ l.length ≤ 80000 := fun l hl => by
    have := ht l (List.mem_of_mem_take hl)
    exact ⟨this.1, by have := this.2; omega⟩
  refine ⟨_, .inl ⟨SqL.of h21, fun a9 H22 n22 => ?_⟩⟩
  refine ⟨by show 2 ≤ sizeLine; decide, fun a10 H23 n23 _ => ?_⟩
  have s2123 := n22.same.trans n23.same
  have n10b : a10 ≠ b := (B21.ne (n22.same.free n23.fresh)).symm
  have B23 := B21.same s2123
  refine ⟨b, 2, _, rfl, rfl, by decide, by decide, B23, by omega, fun m H24 t24 B24 m0 m1 => ?_⟩
  obtain ⟨w, e, hw, _⟩ := atI_some (xs := [V.ref a8, .ref a9]) m0 (by exact m1)
  refine ⟨_, w, .inl (SqL.of (t24.at n10b n23.here)), e, ?_⟩
  have t2124 := (But.of s2123).trans t24
  have n8b : a8 ≠ b := (B19.ne (n20.same.free n21.fresh)).symm
  have h24 := t2124.at n8b h21
  have n9b : a9 ≠ b := (B21.ne n22.fresh).symm
  have h9 := t24.at n9b (n23.keep n22.here)
  have gt24 := B21.tg t2124 gt21 k1
  have dz24 := more_data (ls := ls) (j := j2) (k := k.toNat) gt24.dz (B21.tg t2124 gb21 k2).dz
  have W : ∃ Dm, Dz true H24 w Dm ∧ Sw 4 (4 + 8 * (2000 + 2)) Dm ∧ ∃ a, w = .ref a ∧ (SqL K H24 a (strsV (ls.take j2) ++ t :: (strsV (ls.drop j2) ++ (List.replicate k.toNat [v2]).flatten)) ∨ SqT K H24 a (strsV (ls.take j2) ++ t :: (strsV (ls.drop j2) ++ (List.replicate k.toNat [v2]).flatten))) := by
    simp only [List.mem_cons, List.not_mem_nil, or_false] at hw
    rcases hw with rfl | rfl
    · exact ⟨_, .lst h24 (fun _ => m21) dz24, Sw.list sws len8, a8, rfl, .inl (SqL.of h24)⟩
    · exact ⟨_, .tup h9 dz24, Sw.tuple sws len8, a9, rfl, .inr (SqT.of h9)⟩
  obtain ⟨Dm, dzm, swm, am, rfl, hsq⟩ := W
  refine ⟨true, Dm, dzm, fun _ => rfl, swm.sh, Nat.le_trans swm.dp (by decide), sz (Nat.le_trans swm.ln (by decide)), ?_⟩
  have bl : BadL K H24 (.ref am) t := ⟨am, ls.take j2, _, rfl, hsq, pre, (bad gt24 x1 y1).i⟩
  refine ⟨_, rfl, .inr (.inr (.inl ⟨by omega, t, .inr bl, fun p H25 s25 fp np hp => ?_⟩))⟩
  refine ⟨true, Dm, Dz.same s25 dzm, fun _ => rfl, swm.sh, Nat.le_trans swm.dp (by decide), sz (Nat.le_trans swm.ln (by decide)), ?_⟩
  refine iteN (nself _) ?_
  refine ⟨p, "text", d1, rfl, rfl, by decide +kernel, hp, np, gt24.same s25, k1, apart gt24 fp, fun H26 k26 => ?_⟩
  have t925 : But b H9 H25 := (t921.trans t2124).trans (But.of s25)
  exact ⟨tt.trans (keptB s9 t925 fr k26), BoxAt.off B' ((B24.same s25).mono (by omega)) s9 fr k26, _, _, _, _, _, _, _, rfl⟩

/-! ### law(_law_script), level 7 -/
abbrev s_law : Stmt := top 36
abbrev N_law : List Str := ["_law_script", "_law_k", "_law_box_here", "_law_turn"]
theorem sc_law : FnScope N_law ["_law_script"] (defScope s_law) := ⟨rfl, rfl, rfl, by decide +kernel, rfl, by decide +kernel, by decide +kernel⟩
theorem ok_law (T : Txt K mg e_InvalidText e_InvalidCount e_QueueError) (C__law_at_the_bound : Ct P w K mg base CX0 6 "_law_at_the_bound" [] (sp__law_at_the_bound K)) (C__law_cell : Ct P w K mg base CX0 1 "_law_cell" ["_law_script", "_law_k"] (sp__law_cell K)) (C__law_box : Ct P w K mg base CX0 1 "_law_box" ["_law_great"] (sp__law_box K)) (C__law_taken : Cg P w K mg base CX0 5 "_law_taken" ["_law_box_here"] (sp__law_taken K)) (C__law_lists_refused : Cg P w K mg base CX0 6 "_law_lists_refused" ["_law_box_here"] (sp__law_lists_refused K)) (C__law_texts_refused : Cg P w K mg base CX0 6 "_law_texts_refused" ["_law_box_here"] (sp__law_texts_refused K)) (D : Df K mg "law" s_law ["_law_script"]) : Cg P w K mg base CX0 7 "law" ["_law_script"] (sp_law K) := by
  refine cg1 D sc_law fun f cdv A outer s H a_script Q E hr h => ⟨_, (pss_cons (ps_if (PW.pt (pw_and (pt_cmpZ (k_eq K hr.room.units) (pe_op o_mod (pe_callTy c_int (by rfl) T.n_int bt_int (pa_cons (pe_cl C__law_cell (hr.room.mono (by decide)) pass0 (pa_cons (pz 0) (pa_cons pe_int pa_nil))) pa_nil)) pe_int) pe_int (nomark _)) (pw_and1 (pt_not (pt_trK K (pe_cl0 C__law_at_the_bound (hr.room.mono (by decide)) pass0)))))) 
      (pss_one (ps_ret pe_bl)) pss_nil)
    (pss_cons (ps_for PassesOwn.never rfl (pi_rngZ (by rfl) T.n_range (pa_cons (pe_callB (c_max rfl) (by rfl) T.n_max bt_max (pa_cons pe_int (pa_cons (pe_callB (c_min rfl) (by rfl) T.n_min bt_min (pa_cons pe_int (pa_cons (pe_callB (k_len K) (by rfl) T.n_len bt_len (pa_cons (pz 0) pa_nil)) pa_nil))) pa_nil))) pa_nil)) (pg_name (i := 1) sc_law.nd rfl (Or.inl rfl)) 
      (pss_cons (ps_set (i := 2) sc_law.nd rfl (Or.inl rfl) (pe_cl C__law_box (hr.room.mono (by decide)) pass0 (pa_cons (pe_cl C__law_cell (hr.room.mono (by decide)) pass0 (pa_cons (pz 0) (pa_cons (pz 1) pa_nil))) pa_nil)))
      (pss_one (ps_for PassesOwn.never rfl (pi_rngZ (by rfl) T.n_range (pa_cons pe_int pa_nil)) (pg_name (i := 3) sc_law.nd rfl (Or.inl rfl)) 
        (pss_one (ps_if (PW.pt (pw_or (pt_not (pt_trK K (pe_cg C__law_texts_refused (hr.mono (by decide)) pass0 (pa_cons (pz 2) pa_nil)))) (pw_or (pt_not (pt_trK K (pe_cg C__law_lists_refused (hr.mono (by decide)) pass0 (pa_cons (pz 2) pa_nil)))) (pw_or1 (pt_not (pt_trK K (pe_cg C__law_taken (hr.mono (by decide)) pass0 (pa_cons (pz 2) pa_nil)))))))) 
          (pss_one (ps_ret pe_bl)) pss_nil))))))
    (pss_one (ps_ret pe_bl)))), ?_⟩
  obtain ⟨a, ns, rfl, hS, hl, q⟩ := h
  refine ⟨a, 0, ns, rfl, rfl, by decide, by decide, hS, hl, fun z0 H1 s1 => ?_⟩
  refine ⟨show (0 : Int) < 3 by decide, ?_⟩
  refine ite2 (fun _ => ⟨rfl, fun H2 s2 => ?_⟩) (fun _ => ?_)
  case' refine_1 => have s := s1.trans s2
  case' refine_2 => have s := s1
  all_goals
    refine .inl ⟨_, .inl (sqL_same s hS), ?_⟩
    rw [List.length_map]
    have rb : ∀ z : Int, (if (if (ns.length : Int) < 3 then (ns.length : Int) else 3) > 2 then (if (ns.length : Int) < 3 then (ns.length : Int) else 3) else 2) = z → 2 ≤ z ∧ z ≤ 3 := fun z e => by
      subst e
      split <;> split <;> omega
    generalize hz : (if (if (ns.length : Int) < 3 then (ns.length : Int) else 3) > 2 then (if (ns.length : Int) < 3 then (ns.length : Int) else 3) else 2) = z
    obtain ⟨z2, z4⟩ := rb z hz
    refine ⟨by omega, by omega, for_w (wk_rng 0 _) (fun i σ H' => Same H H' ∧ ∃ v1 v2 v3 : Option V, σ = [some (.ref a), v1, v2, v3]) ⟨s, _, _, _, rfl⟩ (fun _ _ _ _ => trivial) ?_ (fun σ H' p => q H')⟩
    rintro i x σ H0 hx ⟨s0, v1, v2, v3, rfl⟩
    obtain ⟨hi, rfl⟩ := rngV_at hx
    refine ⟨a, _, ns, rfl, rfl, by omega, by omega, sqL_same s0 hS, hl, fun g H3 s3 => ?_⟩
    refine ⟨g, rfl, fun b H4 fb s4 B4 => ?_⟩
    refine ⟨by decide, by decide, for_w (wk_rng 0 3) (fun i' σ H' => But b H4 H' ∧ BoxAt (0 + 500 * i') H' b ∧ ∃ v3 : Option V, σ = [some (.ref a), some (.int (0 + (i : Nat))), some (.ref b), v3]) ⟨But.refl _ _, B4, _, rfl⟩ (fun _ _ _ _ => trivial) ?_ ?_⟩
    · rintro j y σ H5 hy ⟨t5, B5, w, rfl⟩
      obtain ⟨hj, rfl⟩ := rngV_at hy
      refine ⟨b, _, rfl, B5, by omega, fun H6 t6 B6 => ?_⟩
      refine ⟨b, _, rfl, B6, by omega, fun H7 t7 B7 => ?_⟩
      refine ⟨b, _, rfl, B7, by omega, fun H8 t8 B8 => ?_⟩
      exact ⟨((t5.trans t6).trans t7).trans t8, B8.mono (by omega), _, rfl⟩
    · rintro σ H5 ⟨t5, B5, w, rfl⟩
      exact ⟨((s0.trans s3).trans s4).but ((s0.trans s3).free fb) t5, _, _, _, rfl⟩


end
theorem law_asks {K : PySem.W.Frag} {H : Hp} {E : XK} (a : Addr) (ns : List Int) (hl : ns.length ≤ 63) (hS : SqL K H a (ns.map V.int)) : sp_law K [.ref a] H (fun v _ => v = .bl true) E := ⟨a, ns, rfl, hS, hl, fun _ => rfl⟩
theorem all_mk {l : PySem.W.OpenLaw} {w : World} {K : PySem.W.Frag} {h : Heap} {mg : Str → Option Value} {fa : Addr} (X : K.In h) (G : h.Ns mainGlobals mg) (hfa : mg "law" = some (.ref fa))
    {f8 : Addr} {od8 an8 : Option Addr} {sl8 : Array (Option Value)} {oc8 kV8 dc8 pm8 cd8 ct8 : Value}
    (a8 : PySem.W.nsIn K mainGlobals "is_signs" = some (some (.ref f8))) (l8 : K.lookup f8 = some ⟨oc8, od8, .func (PySem.W.fnOf "is_signs" "is_signs" (defArgs s_is_signs) (defBody s_is_signs) (defScope s_is_signs) .none kV8 dc8 pm8 an8 cd8 ct8), sl8⟩) (c8 : PySem.W.codeIn K cd8 "is_signs" = true) (k8 : PySem.W.keepIn K (.ref f8) = true)
    {f12 : Addr} {od12 an12 : Option Addr} {sl12 : Array (Option Value)} {oc12 kV12 dc12 pm12 cd12 ct12 : Value}
    (a12 : PySem.W.nsIn K mainGlobals "has_frame" = some (some (.ref f12))) (l12 : K.lookup f12 = some ⟨oc12, od12, .func (PySem.W.fnOf "has_frame" "has_frame" (defArgs s_has_frame) (defBody s_has_frame) (defScope s_has_frame) .none kV12 dc12 pm12 an12 cd12 ct12), sl12⟩) (c12 : PySem.W.codeIn K cd12 "has_frame" = true) (k12 : PySem.W.keepIn K (.ref f12) = true)
    {f14 : Addr} {od14 an14 : Option Addr} {sl14 : Array (Option Value)} {oc14 kV14 dc14 pm14 cd14 ct14 : Value}
    (a14 : PySem.W.nsIn K mainGlobals "framed" = some (some (.ref f14))) (l14 : K.lookup f14 = some ⟨oc14, od14, .func (PySem.W.fnOf "framed" "framed" (defArgs s_framed) (defBody s_framed) (defScope s_framed) .none kV14 dc14 pm14 an14 cd14 ct14), sl14⟩) (c14 : PySem.W.codeIn K cd14 "framed" = true) (k14 : PySem.W.keepIn K (.ref f14) = true)
    {f16 : Addr} {od16 an16 : Option Addr} {sl16 : Array (Option Value)} {oc16 kV16 dc16 pm16 cd16 ct16 : Value}
    (a16 : PySem.W.nsIn K mainGlobals "frame_end" = some (some (.ref f16))) (l16 : K.lookup f16 = some ⟨oc16, od16, .func (PySem.W.fnOf "frame_end" "frame_end" (defArgs s_frame_end) (defBody s_frame_end) (defScope s_frame_end) .none kV16 dc16 pm16 an16 cd16 ct16), sl16⟩) (c16 : PySem.W.codeIn K cd16 "frame_end" = true) (k16 : PySem.W.keepIn K (.ref f16) = true)
    {f17 : Addr} {od17 an17 : Option Addr} {sl17 : Array (Option Value)} {oc17 kV17 dc17 pm17 cd17 ct17 : Value}
    (a17 : PySem.W.nsIn K mainGlobals "frames_in" = some (some (.ref f17))) (l17 : K.lookup f17 = some ⟨oc17, od17, .func (PySem.W.fnOf "frames_in" "frames_in" (defArgs s_frames_in) (defBody s_frames_in) (defScope s_frames_in) .none kV17 dc17 pm17 an17 cd17 ct17), sl17⟩) (c17 : PySem.W.codeIn K cd17 "frames_in" = true) (k17 : PySem.W.keepIn K (.ref f17) = true)
    {f5 : Addr} {od5 an5 : Option Addr} {sl5 : Array (Option Value)} {oc5 kV5 dc5 pm5 cd5 ct5 : Value}
    (a5 : PySem.W.nsIn K mainGlobals "is_list" = some (some (.ref f5))) (l5 : K.lookup f5 = some ⟨oc5, od5, .func (PySem.W.fnOf "is_list" "is_list" (defArgs s_is_list) (defBody s_is_list) (defScope s_is_list) .none kV5 dc5 pm5 an5 cd5 ct5), sl5⟩) (c5 : PySem.W.codeIn K cd5 "is_list" = true) (k5 : PySem.W.keepIn K (.ref f5) = true)
    {f13 : Addr} {od13 an13 : Option Addr} {sl13 : Array (Option Value)} {oc13 kV13 dc13 pm13 cd13 ct13 : Value}
    (a13 : PySem.W.nsIn K mainGlobals "check_texts" = some (some (.ref f13))) (l13 : K.lookup f13 = some ⟨oc13, od13, .func (PySem.W.fnOf "check_texts" "check_texts" (defArgs s_check_texts) (defBody s_check_texts) (defScope s_check_texts) .none kV13 dc13 pm13 an13 cd13 ct13), sl13⟩) (c13 : PySem.W.codeIn K cd13 "check_texts" = true) (k13 : PySem.W.keepIn K (.ref f13) = true)
    {f15 : Addr} {od15 an15 : Option Addr} {sl15 : Array (Option Value)} {oc15 kV15 dc15 pm15 cd15 ct15 : Value}
    (a15 : PySem.W.nsIn K mainGlobals "all_framed" = some (some (.ref f15))) (l15 : K.lookup f15 = some ⟨oc15, od15, .func (PySem.W.fnOf "all_framed" "all_framed" (defArgs s_all_framed) (defBody s_all_framed) (defScope s_all_framed) .none kV15 dc15 pm15 an15 cd15 ct15), sl15⟩) (c15 : PySem.W.codeIn K cd15 "all_framed" = true) (k15 : PySem.W.keepIn K (.ref f15) = true)
    {f6 : Addr} {od6 an6 : Option Addr} {sl6 : Array (Option Value)} {oc6 kV6 dc6 pm6 cd6 ct6 : Value}
    (a6 : PySem.W.nsIn K mainGlobals "is_integer" = some (some (.ref f6))) (l6 : K.lookup f6 = some ⟨oc6, od6, .func (PySem.W.fnOf "is_integer" "is_integer" (defArgs s_is_integer) (defBody s_is_integer) (defScope s_is_integer) .none kV6 dc6 pm6 an6 cd6 ct6), sl6⟩) (c6 : PySem.W.codeIn K cd6 "is_integer" = true) (k6 : PySem.W.keepIn K (.ref f6) = true)
    {f7 : Addr} {od7 an7 : Option Addr} {sl7 : Array (Option Value)} {oc7 kV7 dc7 pm7 cd7 ct7 : Value}
    (a7 : PySem.W.nsIn K mainGlobals "is_count" = some (some (.ref f7))) (l7 : K.lookup f7 = some ⟨oc7, od7, .func (PySem.W.fnOf "is_count" "is_count" (defArgs s_is_count) (defBody s_is_count) (defScope s_is_count) .none kV7 dc7 pm7 an7 cd7 ct7), sl7⟩) (c7 : PySem.W.codeIn K cd7 "is_count" = true) (k7 : PySem.W.keepIn K (.ref f7) = true)
    {f19 : Addr} {od19 an19 : Option Addr} {sl19 : Array (Option Value)} {oc19 kV19 dc19 pm19 cd19 ct19 : Value}
    (a19 : PySem.W.nsIn K mainGlobals "cut_at" = some (some (.ref f19))) (l19 : K.lookup f19 = some ⟨oc19, od19, .func (PySem.W.fnOf "cut_at" "cut_at" (defArgs s_cut_at) (defBody s_cut_at) (defScope s_cut_at) .none kV19 dc19 pm19 an19 cd19 ct19), sl19⟩) (c19 : PySem.W.codeIn K cd19 "cut_at" = true) (k19 : PySem.W.keepIn K (.ref f19) = true)
    {f29 : Addr} {od29 an29 : Option Addr} {sl29 : Array (Option Value)} {oc29 kV29 dc29 pm29 cd29 ct29 : Value}
    (a29 : PySem.W.nsIn K mainGlobals "_law_met" = some (some (.ref f29))) (l29 : K.lookup f29 = some ⟨oc29, od29, .func (PySem.W.fnOf "_law_met" "_law_met" (defArgs s__law_met) (defBody s__law_met) (defScope s__law_met) .none kV29 dc29 pm29 an29 cd29 ct29), sl29⟩) (c29 : PySem.W.codeIn K cd29 "_law_met" = true) (k29 : PySem.W.keepIn K (.ref f29) = true)
    {f18 : Addr} {od18 an18 : Option Addr} {sl18 : Array (Option Value)} {oc18 kV18 dc18 pm18 cd18 ct18 : Value}
    (a18 : PySem.W.nsIn K mainGlobals "is_whole" = some (some (.ref f18))) (l18 : K.lookup f18 = some ⟨oc18, od18, .func (PySem.W.fnOf "is_whole" "is_whole" (defArgs s_is_whole) (defBody s_is_whole) (defScope s_is_whole) .none kV18 dc18 pm18 an18 cd18 ct18), sl18⟩) (c18 : PySem.W.codeIn K cd18 "is_whole" = true) (k18 : PySem.W.keepIn K (.ref f18) = true)
    {f35 : Addr} {od35 an35 : Option Addr} {sl35 : Array (Option Value)} {oc35 kV35 dc35 pm35 cd35 ct35 : Value}
    (a35 : PySem.W.nsIn K mainGlobals "_law_at_the_bound" = some (some (.ref f35))) (l35 : K.lookup f35 = some ⟨oc35, od35, .func (PySem.W.fnOf "_law_at_the_bound" "_law_at_the_bound" (defArgs s__law_at_the_bound) (defBody s__law_at_the_bound) (defScope s__law_at_the_bound) .none kV35 dc35 pm35 an35 cd35 ct35), sl35⟩) (c35 : PySem.W.codeIn K cd35 "_law_at_the_bound" = true) (k35 : PySem.W.keepIn K (.ref f35) = true)
    {f21 : Addr} {od21 an21 : Option Addr} {sl21 : Array (Option Value)} {oc21 kV21 dc21 pm21 cd21 ct21 : Value}
    (a21 : PySem.W.nsIn K mainGlobals "_law_cell" = some (some (.ref f21))) (l21 : K.lookup f21 = some ⟨oc21, od21, .func (PySem.W.fnOf "_law_cell" "_law_cell" (defArgs s__law_cell) (defBody s__law_cell) (defScope s__law_cell) .none kV21 dc21 pm21 an21 cd21 ct21), sl21⟩) (c21 : PySem.W.codeIn K cd21 "_law_cell" = true) (k21 : PySem.W.keepIn K (.ref f21) = true)
    {f22 : Addr} {od22 an22 : Option Addr} {sl22 : Array (Option Value)} {oc22 kV22 dc22 pm22 cd22 ct22 : Value}
    (a22 : PySem.W.nsIn K mainGlobals "_law_box" = some (some (.ref f22))) (l22 : K.lookup f22 = some ⟨oc22, od22, .func (PySem.W.fnOf "_law_box" "_law_box" (defArgs s__law_box) (defBody s__law_box) (defScope s__law_box) .none kV22 dc22 pm22 an22 cd22 ct22), sl22⟩) (c22 : PySem.W.codeIn K cd22 "_law_box" = true) (k22 : PySem.W.keepIn K (.ref f22) = true)
    {f23 : Addr} {od23 an23 : Option Addr} {sl23 : Array (Option Value)} {oc23 kV23 dc23 pm23 cd23 ct23 : Value}
    (a23 : PySem.W.nsIn K mainGlobals "_law_take" = some (some (.ref f23))) (l23 : K.lookup f23 = some ⟨oc23, od23, .func (PySem.W.fnOf "_law_take" "_law_take" (defArgs s__law_take) (defBody s__law_take) (defScope s__law_take) .none kV23 dc23 pm23 an23 cd23 ct23), sl23⟩) (c23 : PySem.W.codeIn K cd23 "_law_take" = true) (k23 : PySem.W.keepIn K (.ref f23) = true)
    {f24 : Addr} {od24 an24 : Option Addr} {sl24 : Array (Option Value)} {oc24 kV24 dc24 pm24 cd24 ct24 : Value}
    (a24 : PySem.W.nsIn K mainGlobals "_law_text" = some (some (.ref f24))) (l24 : K.lookup f24 = some ⟨oc24, od24, .func (PySem.W.fnOf "_law_text" "_law_text" (defArgs s__law_text) (defBody s__law_text) (defScope s__law_text) .none kV24 dc24 pm24 an24 cd24 ct24), sl24⟩) (c24 : PySem.W.codeIn K cd24 "_law_text" = true) (k24 : PySem.W.keepIn K (.ref f24) = true)
    {f33 : Addr} {od33 an33 : Option Addr} {sl33 : Array (Option Value)} {oc33 kV33 dc33 pm33 cd33 ct33 : Value}
    (a33 : PySem.W.nsIn K mainGlobals "_law_frame" = some (some (.ref f33))) (l33 : K.lookup f33 = some ⟨oc33, od33, .func (PySem.W.fnOf "_law_frame" "_law_frame" (defArgs s__law_frame) (defBody s__law_frame) (defScope s__law_frame) .none kV33 dc33 pm33 an33 cd33 ct33), sl33⟩) (c33 : PySem.W.codeIn K cd33 "_law_frame" = true) (k33 : PySem.W.keepIn K (.ref f33) = true)
    {f34 : Addr} {od34 an34 : Option Addr} {sl34 : Array (Option Value)} {oc34 kV34 dc34 pm34 cd34 ct34 : Value}
    (a34 : PySem.W.nsIn K mainGlobals "_law_taken" = some (some (.ref f34))) (l34 : K.lookup f34 = some ⟨oc34, od34, .func (PySem.W.fnOf "_law_taken" "_law_taken" (defArgs s__law_taken) (defBody s__law_taken) (defScope s__law_taken) .none kV34 dc34 pm34 an34 cd34 ct34), sl34⟩) (c34 : PySem.W.codeIn K cd34 "_law_taken" = true) (k34 : PySem.W.keepIn K (.ref f34) = true)
    {f28 : Addr} {od28 an28 : Option Addr} {sl28 : Array (Option Value)} {oc28 kV28 dc28 pm28 cd28 ct28 : Value}
    (a28 : PySem.W.nsIn K mainGlobals "_law_copy" = some (some (.ref f28))) (l28 : K.lookup f28 = some ⟨oc28, od28, .func (PySem.W.fnOf "_law_copy" "_law_copy" (defArgs s__law_copy) (defBody s__law_copy) (defScope s__law_copy) .none kV28 dc28 pm28 an28 cd28 ct28), sl28⟩) (c28 : PySem.W.codeIn K cd28 "_law_copy" = true) (k28 : PySem.W.keepIn K (.ref f28) = true)
    {f26 : Addr} {od26 an26 : Option Addr} {sl26 : Array (Option Value)} {oc26 kV26 dc26 pm26 cd26 ct26 : Value}
    (a26 : PySem.W.nsIn K mainGlobals "_law_no_list" = some (some (.ref f26))) (l26 : K.lookup f26 = some ⟨oc26, od26, .func (PySem.W.fnOf "_law_no_list" "_law_no_list" (defArgs s__law_no_list) (defBody s__law_no_list) (defScope s__law_no_list) .none kV26 dc26 pm26 an26 cd26 ct26), sl26⟩) (c26 : PySem.W.codeIn K cd26 "_law_no_list" = true) (k26 : PySem.W.keepIn K (.ref f26) = true)
    {f30 : Addr} {od30 an30 : Option Addr} {sl30 : Array (Option Value)} {oc30 kV30 dc30 pm30 cd30 ct30 : Value}
    (a30 : PySem.W.nsIn K mainGlobals "_law_is_met" = some (some (.ref f30))) (l30 : K.lookup f30 = some ⟨oc30, od30, .func (PySem.W.fnOf "_law_is_met" "_law_is_met" (defArgs s__law_is_met) (defBody s__law_is_met) (defScope s__law_is_met) .none kV30 dc30 pm30 an30 cd30 ct30), sl30⟩) (c30 : PySem.W.codeIn K cd30 "_law_is_met" = true) (k30 : PySem.W.keepIn K (.ref f30) = true)
    {f27 : Addr} {od27 an27 : Option Addr} {sl27 : Array (Option Value)} {oc27 kV27 dc27 pm27 cd27 ct27 : Value}
    (a27 : PySem.W.nsIn K mainGlobals "_law_no_count" = some (some (.ref f27))) (l27 : K.lookup f27 = some ⟨oc27, od27, .func (PySem.W.fnOf "_law_no_count" "_law_no_count" (defArgs s__law_no_count) (defBody s__law_no_count) (defScope s__law_no_count) .none kV27 dc27 pm27 an27 cd27 ct27), sl27⟩) (c27 : PySem.W.codeIn K cd27 "_law_no_count" = true) (k27 : PySem.W.keepIn K (.ref f27) = true)
    {f32 : Addr} {od32 an32 : Option Addr} {sl32 : Array (Option Value)} {oc32 kV32 dc32 pm32 cd32 ct32 : Value}
    (a32 : PySem.W.nsIn K mainGlobals "_law_lists_refused" = some (some (.ref f32))) (l32 : K.lookup f32 = some ⟨oc32, od32, .func (PySem.W.fnOf "_law_lists_refused" "_law_lists_refused" (defArgs s__law_lists_refused) (defBody s__law_lists_refused) (defScope s__law_lists_refused) .none kV32 dc32 pm32 an32 cd32 ct32), sl32⟩) (c32 : PySem.W.codeIn K cd32 "_law_lists_refused" = true) (k32 : PySem.W.keepIn K (.ref f32) = true)
    {f25 : Addr} {od25 an25 : Option Addr} {sl25 : Array (Option Value)} {oc25 kV25 dc25 pm25 cd25 ct25 : Value}
    (a25 : PySem.W.nsIn K mainGlobals "_law_bad" = some (some (.ref f25))) (l25 : K.lookup f25 = some ⟨oc25, od25, .func (PySem.W.fnOf "_law_bad" "_law_bad" (defArgs s__law_bad) (defBody s__law_bad) (defScope s__law_bad) .none kV25 dc25 pm25 an25 cd25 ct25), sl25⟩) (c25 : PySem.W.codeIn K cd25 "_law_bad" = true) (k25 : PySem.W.keepIn K (.ref f25) = true)
    {f31 : Addr} {od31 an31 : Option Addr} {sl31 : Array (Option Value)} {oc31 kV31 dc31 pm31 cd31 ct31 : Value}
    (a31 : PySem.W.nsIn K mainGlobals "_law_texts_refused" = some (some (.ref f31))) (l31 : K.lookup f31 = some ⟨oc31, od31, .func (PySem.W.fnOf "_law_texts_refused" "_law_texts_refused" (defArgs s__law_texts_refused) (defBody s__law_texts_refused) (defScope s__law_texts_refused) .none kV31 dc31 pm31 an31 cd31 ct31), sl31⟩) (c31 : PySem.W.codeIn K cd31 "_law_texts_refused" = true) (k31 : PySem.W.keepIn K (.ref f31) = true)
    {f36 : Addr} {od36 an36 : Option Addr} {sl36 : Array (Option Value)} {oc36 kV36 dc36 pm36 cd36 ct36 : Value}
    (a36 : PySem.W.nsIn K mainGlobals "law" = some (some (.ref f36))) (l36 : K.lookup f36 = some ⟨oc36, od36, .func (PySem.W.fnOf "law" "law" (defArgs s_law) (defBody s_law) (defScope s_law) .none kV36 dc36 pm36 an36 cd36 ct36), sl36⟩) (c36 : PySem.W.codeIn K cd36 "law" = true) (k36 : PySem.W.keepIn K (.ref f36) = true)
    (zhn : PySem.W.specialIn K (.builtin "object.__class__") "__get__" = some (some (.builtin "getset_descriptor.__get__"))) (zht : PySem.W.takesIn K (.builtin "object.__class__") = some true)
    {e_InvalidText : Addr} (ga_InvalidText : PySem.W.nsIn K mainGlobals "InvalidText" = some (some (.ref e_InvalidText)))
    {e_InvalidCount : Addr} (ga_InvalidCount : PySem.W.nsIn K mainGlobals "InvalidCount" = some (some (.ref e_InvalidCount)))
    {e_QueueError : Addr} (ga_QueueError : PySem.W.nsIn K mainGlobals "QueueError" = some (some (.ref e_QueueError)))
    (xd_QueueError : PySem.W.hasDictIn K e_QueueError = true) (ty_QueueError : PySem.W.typeIn K (.ref e_QueueError) = some (.type "type"))
    (qa_QueueError : PySem.W.specialIn K (.ref e_QueueError) "__getattribute__" = some (some (.builtin "type.__getattribute__"))) (qb_QueueError : PySem.W.readsIn K e_QueueError (.type "type") = true) (qc_QueueError : PySem.W.findCls K (.ref e_QueueError) (.type "type") "__init__" = some (.val (.builtin "Exception.__init__")))
    {nm_InvalidText q_InvalidText : Str} {N_InvalidText : Addr} {bs_InvalidText sub_InvalidText : List Value} {sn_InvalidText : List Str} {ab_InvalidText : Bool} {col_InvalidText : Option Bool} {dd_InvalidText : Option Addr} {k0_InvalidText k1_InvalidText k2_InvalidText k3_InvalidText k5_InvalidText : Option Value} (cl_InvalidText : K.lookup e_InvalidText = some (excClassObj nm_InvalidText q_InvalidText e_InvalidText N_InvalidText bs_InvalidText (.ref e_QueueError :: tailE) true sn_InvalidText sub_InvalidText ab_InvalidText col_InvalidText dd_InvalidText k0_InvalidText k1_InvalidText k2_InvalidText k3_InvalidText k5_InvalidText "Exception.__new__"))
    (sa_InvalidText : PySem.W.findIn K (.ref e_InvalidText) "__setattr__" = some (some (.builtin "object.__setattr__"))) (ex_InvalidText : PySem.W.subIn K (.ref e_InvalidText) (.type "BaseException") = some true) (ty_InvalidText : PySem.W.typeIn K (.ref e_InvalidText) = some (.type "type")) (kc_InvalidText : PySem.W.keepIn K (.ref e_InvalidText) = true)
    (xa_InvalidText : PySem.W.findIn K (.ref e_InvalidText) "__getattribute__" = some (some (.builtin "BaseException.__getattribute__"))) (xb_InvalidText : PySem.W.findIn K (.ref e_InvalidText) "__getattr__" = some none) (xd_InvalidText : PySem.W.hasDictIn K e_InvalidText = true) (xe_InvalidText : PySem.W.findIn K (.ref e_InvalidText) "__class__" = some (some (.builtin "object.__class__"))) (xm_InvalidText : PySem.W.mroIn K e_InvalidText (.type "object") = some true) (no_InvalidText : PySem.W.findIn K (.ref e_InvalidText) "given" = some none)
    {fI_InvalidText : Addr} {od_InvalidText an_InvalidText : Option Addr} {sl_InvalidText : Array (Option Value)} {oc_InvalidText kV_InvalidText dc_InvalidText pm_InvalidText cd_InvalidText ct_InvalidText : Value} (ia_InvalidText : PySem.W.findIn K (.ref e_InvalidText) "__init__" = some (some (.ref fI_InvalidText))) (it_InvalidText : PySem.W.typeIn K (.ref fI_InvalidText) = some (.type "function"))
    (il_InvalidText : K.lookup fI_InvalidText = some ⟨oc_InvalidText, od_InvalidText, .func (PySem.W.fnOf "__init__" "InvalidText.__init__" (defArgs si_InvalidText) (defBody si_InvalidText) (defScope si_InvalidText) .none kV_InvalidText dc_InvalidText pm_InvalidText an_InvalidText cd_InvalidText ct_InvalidText), sl_InvalidText⟩) (ic_InvalidText : PySem.W.codeIn K cd_InvalidText "InvalidText.__init__" = true) (ik_InvalidText : PySem.W.keepIn K (.ref fI_InvalidText) = true)
    (sx_InvalidText_InvalidText : PySem.W.subIn K (.ref e_InvalidText) (.ref e_InvalidText) = some true)
    (sx_InvalidText_InvalidCount : PySem.W.subIn K (.ref e_InvalidText) (.ref e_InvalidCount) = some false)
    (sx_InvalidText_QueueError : PySem.W.subIn K (.ref e_InvalidText) (.ref e_QueueError) = some true)
    {nm_InvalidCount q_InvalidCount : Str} {N_InvalidCount : Addr} {bs_InvalidCount sub_InvalidCount : List Value} {sn_InvalidCount : List Str} {ab_InvalidCount : Bool} {col_InvalidCount : Option Bool} {dd_InvalidCount : Option Addr} {k0_InvalidCount k1_InvalidCount k2_InvalidCount k3_InvalidCount k5_InvalidCount : Option Value} (cl_InvalidCount : K.lookup e_InvalidCount = some (excClassObj nm_InvalidCount q_InvalidCount e_InvalidCount N_InvalidCount bs_InvalidCount (.ref e_QueueError :: tailE) true sn_InvalidCount sub_InvalidCount ab_InvalidCount col_InvalidCount dd_InvalidCount k0_InvalidCount k1_InvalidCount k2_InvalidCount k3_InvalidCount k5_InvalidCount "Exception.__new__"))
    (sa_InvalidCount : PySem.W.findIn K (.ref e_InvalidCount) "__setattr__" = some (some (.builtin "object.__setattr__"))) (ex_InvalidCount : PySem.W.subIn K (.ref e_InvalidCount) (.type "BaseException") = some true) (ty_InvalidCount : PySem.W.typeIn K (.ref e_InvalidCount) = some (.type "type")) (kc_InvalidCount : PySem.W.keepIn K (.ref e_InvalidCount) = true)
    (xa_InvalidCount : PySem.W.findIn K (.ref e_InvalidCount) "__getattribute__" = some (some (.builtin "BaseException.__getattribute__"))) (xb_InvalidCount : PySem.W.findIn K (.ref e_InvalidCount) "__getattr__" = some none) (xd_InvalidCount : PySem.W.hasDictIn K e_InvalidCount = true) (xe_InvalidCount : PySem.W.findIn K (.ref e_InvalidCount) "__class__" = some (some (.builtin "object.__class__"))) (xm_InvalidCount : PySem.W.mroIn K e_InvalidCount (.type "object") = some true) (no_InvalidCount : PySem.W.findIn K (.ref e_InvalidCount) "given" = some none)
    {fI_InvalidCount : Addr} {od_InvalidCount an_InvalidCount : Option Addr} {sl_InvalidCount : Array (Option Value)} {oc_InvalidCount kV_InvalidCount dc_InvalidCount pm_InvalidCount cd_InvalidCount ct_InvalidCount : Value} (ia_InvalidCount : PySem.W.findIn K (.ref e_InvalidCount) "__init__" = some (some (.ref fI_InvalidCount))) (it_InvalidCount : PySem.W.typeIn K (.ref fI_InvalidCount) = some (.type "function"))
    (il_InvalidCount : K.lookup fI_InvalidCount = some ⟨oc_InvalidCount, od_InvalidCount, .func (PySem.W.fnOf "__init__" "InvalidCount.__init__" (defArgs si_InvalidCount) (defBody si_InvalidCount) (defScope si_InvalidCount) .none kV_InvalidCount dc_InvalidCount pm_InvalidCount an_InvalidCount cd_InvalidCount ct_InvalidCount), sl_InvalidCount⟩) (ic_InvalidCount : PySem.W.codeIn K cd_InvalidCount "InvalidCount.__init__" = true) (ik_InvalidCount : PySem.W.keepIn K (.ref fI_InvalidCount) = true)
    (sx_InvalidCount_InvalidText : PySem.W.subIn K (.ref e_InvalidCount) (.ref e_InvalidText) = some false)
    (sx_InvalidCount_InvalidCount : PySem.W.subIn K (.ref e_InvalidCount) (.ref e_InvalidCount) = some true)
    (sx_InvalidCount_QueueError : PySem.W.subIn K (.ref e_InvalidCount) (.ref e_QueueError) = some true)
    (z_isinstance : PySem.W.nsIn K mainGlobals "isinstance" = some none)
    (z_str : PySem.W.nsIn K mainGlobals "str" = some none)
    (z_len : PySem.W.nsIn K mainGlobals "len" = some none)
    (z_all : PySem.W.nsIn K mainGlobals "all" = some none)
    (z_int : PySem.W.nsIn K mainGlobals "int" = some none)
    (z_tuple : PySem.W.nsIn K mainGlobals "tuple" = some none)
    (z_list : PySem.W.nsIn K mainGlobals "list" = some none)
    (z_bool : PySem.W.nsIn K mainGlobals "bool" = some none)
    (z_sum : PySem.W.nsIn K mainGlobals "sum" = some none)
    (z_abs : PySem.W.nsIn K mainGlobals "abs" = some none)
    (z_range : PySem.W.nsIn K mainGlobals "range" = some none)
    (z_repr : PySem.W.nsIn K mainGlobals "repr" = some none)
    (z_dict : PySem.W.nsIn K mainGlobals "dict" = some none)
    (z_max : PySem.W.nsIn K mainGlobals "max" = some none)
    (z_min : PySem.W.nsIn K mainGlobals "min" = some none)
    {t_MOST_SIGNS : Tok} (v_MOST_SIGNS : PySem.W.nsIn K mainGlobals "MOST_SIGNS" = some (some (.int (80000) t_MOST_SIGNS)))
    {t_FIGURES : Tok} (v_FIGURES : PySem.W.nsIn K mainGlobals "FIGURES" = some (some (.str "0123456789" t_FIGURES)))
    : ∃ fd : FuncData, (∀ (s : Shared) (v : Value), BindsTo s fd ⟨[v], []⟩ [("_law_script", v)]) ∧ ∀ base : Heap, K.In base → base.Ns mainGlobals mg → FnG l.prog w K mg base CX0 7 fa fd ["_law_script"] (sp_law K) := by
  have hl : PySem.W.nsIn K mainGlobals "law" = some (some (.ref f36)) := a36
  have e := hfa.symm.trans (PySem.W.mg_of X G a36)
  cases e
  have T : Txt K mg e_InvalidText e_InvalidCount e_QueueError := ⟨PySem.W.mg_of X G ga_InvalidText, ga_InvalidText, PySem.W.mg_of X G ga_InvalidCount, ga_InvalidCount, PySem.W.mg_of X G ga_QueueError, ga_QueueError, ⟨⟨xa_InvalidText, xb_InvalidText, ex_InvalidText, xd_InvalidText⟩, ty_InvalidText, xe_InvalidText, zhn, zht, xm_InvalidText⟩, no_InvalidText, sx_InvalidText_InvalidText, sx_InvalidText_InvalidCount, kit_sub sx_InvalidText_InvalidText sx_InvalidText_InvalidText xd_InvalidText ty_InvalidText, kit_sub sx_InvalidText_QueueError sx_InvalidText_InvalidText xd_QueueError ty_QueueError, kit_sub sx_InvalidText_InvalidCount sx_InvalidText_InvalidText xd_InvalidCount ty_InvalidCount, ⟨⟨xa_InvalidCount, xb_InvalidCount, ex_InvalidCount, xd_InvalidCount⟩, ty_InvalidCount, xe_InvalidCount, zhn, zht, xm_InvalidCount⟩, no_InvalidCount, sx_InvalidCount_InvalidText, sx_InvalidCount_InvalidCount, kit_sub sx_InvalidCount_InvalidText sx_InvalidCount_InvalidCount xd_InvalidText ty_InvalidText, kit_sub sx_InvalidCount_QueueError sx_InvalidCount_InvalidCount xd_QueueError ty_QueueError, kit_sub sx_InvalidCount_InvalidCount sx_InvalidCount_InvalidCount xd_InvalidCount ty_InvalidCount, ⟨.type "type", qa_QueueError, qb_QueueError, qc_QueueError⟩, PySem.W.mg_none_of X G z_isinstance, PySem.W.mg_none_of X G z_str, PySem.W.mg_none_of X G z_len, PySem.W.mg_none_of X G z_all, PySem.W.mg_none_of X G z_int, PySem.W.mg_none_of X G z_tuple, PySem.W.mg_none_of X G z_list, PySem.W.mg_none_of X G z_bool, PySem.W.mg_none_of X G z_sum, PySem.W.mg_none_of X G z_abs, PySem.W.mg_none_of X G z_range, PySem.W.mg_none_of X G z_repr, PySem.W.mg_none_of X G z_dict, PySem.W.mg_none_of X G z_max, PySem.W.mg_none_of X G z_min, ⟨_, PySem.W.mg_of X G v_MOST_SIGNS, ⟨_, rfl⟩⟩, ⟨_, PySem.W.mg_of X G v_FIGURES, ⟨_, rfl⟩⟩⟩
  have D_is_signs : Df K mg "is_signs" s_is_signs ["value"] := df_mk X G a8 l8 c8 k8 fun _ _ _ _ _ _ us hl => match us, hl with | [_], _ => rfl
  have D_has_frame : Df K mg "has_frame" s_has_frame ["value"] := df_mk X G a12 l12 c12 k12 fun _ _ _ _ _ _ us hl => match us, hl with | [_], _ => rfl
  have D_framed : Df K mg "framed" s_framed ["text"] := df_mk X G a14 l14 c14 k14 fun _ _ _ _ _ _ us hl => match us, hl with | [_], _ => rfl
  have D_frame_end : Df K mg "frame_end" s_frame_end ["text", "start"] := df_mk X G a16 l16 c16 k16 fun _ _ _ _ _ _ us hl => match us, hl with | [_, _], _ => rfl
  have D_frames_in : Df K mg "frames_in" s_frames_in ["text"] := df_mk X G a17 l17 c17 k17 fun _ _ _ _ _ _ us hl => match us, hl with | [_], _ => rfl
  have D_is_list : Df K mg "is_list" s_is_list ["value"] := df_mk X G a5 l5 c5 k5 fun _ _ _ _ _ _ us hl => match us, hl with | [_], _ => rfl
  have D_check_texts : Df K mg "check_texts" s_check_texts ["texts"] := df_mk X G a13 l13 c13 k13 fun _ _ _ _ _ _ us hl => match us, hl with | [_], _ => rfl
  have D_all_framed : Df K mg "all_framed" s_all_framed ["texts"] := df_mk X G a15 l15 c15 k15 fun _ _ _ _ _ _ us hl => match us, hl with | [_], _ => rfl
  have D_is_integer : Df K mg "is_integer" s_is_integer ["value"] := df_mk X G a6 l6 c6 k6 fun _ _ _ _ _ _ us hl => match us, hl with | [_], _ => rfl
  have D_is_count : Df K mg "is_count" s_is_count ["value"] := df_mk X G a7 l7 c7 k7 fun _ _ _ _ _ _ us hl => match us, hl with | [_], _ => rfl
  have D_cut_at : Df K mg "cut_at" s_cut_at ["texts", "signs"] := df_mk X G a19 l19 c19 k19 fun _ _ _ _ _ _ us hl => match us, hl with | [_, _], _ => rfl
  have D__law_met : Df K mg "_law_met" s__law_met ["_law_door", "_law_thing", "_law_more"] := df_mk X G a29 l29 c29 k29 fun _ _ _ _ _ _ us hl => match us, hl with | [_, _, _], _ => rfl
  have D_is_whole : Df K mg "is_whole" s_is_whole ["value"] := df_mk X G a18 l18 c18 k18 fun _ _ _ _ _ _ us hl => match us, hl with | [_], _ => rfl
  have D__law_at_the_bound : Df K mg "_law_at_the_bound" s__law_at_the_bound [] := df_mk X G a35 l35 c35 k35 fun _ _ _ _ _ _ us hl => match us, hl with | [], _ => rfl
  have D__law_cell : Df K mg "_law_cell" s__law_cell ["_law_script", "_law_k"] := df_mk X G a21 l21 c21 k21 fun _ _ _ _ _ _ us hl => match us, hl with | [_, _], _ => rfl
  have D__law_box : Df K mg "_law_box" s__law_box ["_law_great"] := df_mk X G a22 l22 c22 k22 fun _ _ _ _ _ _ us hl => match us, hl with | [_], _ => rfl
  have D__law_take : Df K mg "_law_take" s__law_take ["_law_box_here", "_law_many"] := df_mk X G a23 l23 c23 k23 fun _ _ _ _ _ _ us hl => match us, hl with | [_, _], _ => rfl
  have D__law_text : Df K mg "_law_text" s__law_text ["_law_box_here"] := df_mk X G a24 l24 c24 k24 fun _ _ _ _ _ _ us hl => match us, hl with | [_], _ => rfl
  have D__law_frame : Df K mg "_law_frame" s__law_frame ["_law_row"] := df_mk X G a33 l33 c33 k33 fun _ _ _ _ _ _ us hl => match us, hl with | [_], _ => rfl
  have D__law_taken : Df K mg "_law_taken" s__law_taken ["_law_box_here"] := df_mk X G a34 l34 c34 k34 fun _ _ _ _ _ _ us hl => match us, hl with | [_], _ => rfl
  have D__law_copy : Df K mg "_law_copy" s__law_copy ["_law_thing"] := df_mk X G a28 l28 c28 k28 fun _ _ _ _ _ _ us hl => match us, hl with | [_], _ => rfl
  have D__law_no_list : Df K mg "_law_no_list" s__law_no_list ["_law_box_here"] := df_mk X G a26 l26 c26 k26 fun _ _ _ _ _ _ us hl => match us, hl with | [_], _ => rfl
  have D__law_is_met : Df K mg "_law_is_met" s__law_is_met ["_law_told", "_law_word", "_law_thing"] := df_mk X G a30 l30 c30 k30 fun _ _ _ _ _ _ us hl => match us, hl with | [_, _, _], _ => rfl
  have D__law_no_count : Df K mg "_law_no_count" s__law_no_count ["_law_box_here"] := df_mk X G a27 l27 c27 k27 fun _ _ _ _ _ _ us hl => match us, hl with | [_], _ => rfl
  have D__law_lists_refused : Df K mg "_law_lists_refused" s__law_lists_refused ["_law_box_here"] := df_mk X G a32 l32 c32 k32 fun _ _ _ _ _ _ us hl => match us, hl with | [_], _ => rfl
  have D__law_bad : Df K mg "_law_bad" s__law_bad ["_law_box_here"] := df_mk X G a25 l25 c25 k25 fun _ _ _ _ _ _ us hl => match us, hl with | [_], _ => rfl
  have D__law_texts_refused : Df K mg "_law_texts_refused" s__law_texts_refused ["_law_box_here"] := df_mk X G a31 l31 c31 k31 fun _ _ _ _ _ _ us hl => match us, hl with | [_], _ => rfl
  have D_law : Df K mg "law" s_law ["_law_script"] := df_mk X G a36 l36 c36 k36 fun _ _ _ _ _ _ us hl => match us, hl with | [_], _ => rfl
  refine ⟨PySem.W.fnOf "law" "law" (defArgs s_law) (defBody s_law) (defScope s_law) .none kV36 dc36 pm36 an36 cd36 ct36, fun s v => .of_eq rfl, fun base _ _ => ?_⟩
  have EC_InvalidText : ErrC K e_InvalidText e_QueueError := ⟨⟨nm_InvalidText, q_InvalidText, N_InvalidText, bs_InvalidText, sn_InvalidText, sub_InvalidText, ab_InvalidText, col_InvalidText, dd_InvalidText, k0_InvalidText, k1_InvalidText, k2_InvalidText, k3_InvalidText, k5_InvalidText, cl_InvalidText⟩, sa_InvalidText, ex_InvalidText, ty_InvalidText, kc_InvalidText⟩
  have R_InvalidText : Er l.prog w K mg base 1 "InvalidText" "given" e_InvalidText := ⟨PySem.W.mg_of X G ga_InvalidText, e_QueueError, fI_InvalidText, _, ["self", "given"], EC_InvalidText, ia_InvalidText, it_InvalidText, oki_InvalidText T (fun_mk il_InvalidText ic_InvalidText ik_InvalidText) EC_InvalidText, (fun_mk il_InvalidText ic_InvalidText ik_InvalidText).binds fun _ _ _ _ _ _ us hl => match us, hl with | [_, _], _ => rfl⟩
  have EC_InvalidCount : ErrC K e_InvalidCount e_QueueError := ⟨⟨nm_InvalidCount, q_InvalidCount, N_InvalidCount, bs_InvalidCount, sn_InvalidCount, sub_InvalidCount, ab_InvalidCount, col_InvalidCount, dd_InvalidCount, k0_InvalidCount, k1_InvalidCount, k2_InvalidCount, k3_InvalidCount, k5_InvalidCount, cl_InvalidCount⟩, sa_InvalidCount, ex_InvalidCount, ty_InvalidCount, kc_InvalidCount⟩
  have R_InvalidCount : Er l.prog w K mg base 1 "InvalidCount" "given" e_InvalidCount := ⟨PySem.W.mg_of X G ga_InvalidCount, e_QueueError, fI_InvalidCount, _, ["self", "given"], EC_InvalidCount, ia_InvalidCount, it_InvalidCount, oki_InvalidCount T (fun_mk il_InvalidCount ic_InvalidCount ik_InvalidCount) EC_InvalidCount, (fun_mk il_InvalidCount ic_InvalidCount ik_InvalidCount).binds fun _ _ _ _ _ _ us hl => match us, hl with | [_, _], _ => rfl⟩
  have C_is_signs : Ct l.prog w K mg base CX0 1 "is_signs" ["value"] (sp_is_signs K) := ok_is_signs T D_is_signs
  have C_has_frame : Ct l.prog w K mg base CX0 2 "has_frame" ["value"] (sp_has_frame K) := ok_has_frame T C_is_signs D_has_frame
  have C_framed : Ct l.prog w K mg base (L2.CX l.prog w) 3 "framed" ["text"] (sp_framed K) := ok_framed T R_InvalidText C_has_frame D_framed
  have C_frame_end : Ct l.prog w K mg base CX0 1 "frame_end" ["text", "start"] (sp_frame_end K) := ok_frame_end T D_frame_end
  have C_frames_in : Ct l.prog w K mg base (L2.CX l.prog w) 3 "frames_in" ["text"] (sp_frames_in K) := ok_frames_in T R_InvalidText C_is_signs C_frame_end D_frames_in
  have C_is_list : Ct l.prog w K mg base CX0 1 "is_list" ["value"] (sp_is_list K) := ok_is_list T D_is_list
  have C_check_texts : Ct l.prog w K mg base (L2.CX l.prog w) 3 "check_texts" ["texts"] (sp_check_texts K) := ok_check_texts T R_InvalidText C_is_list C_has_frame D_check_texts
  have C_all_framed : Ct l.prog w K mg base (L2.CX l.prog w) 4 "all_framed" ["texts"] (sp_all_framed K) := ok_all_framed C_check_texts C_framed D_all_framed
  have C_is_integer : Ct l.prog w K mg base CX0 1 "is_integer" ["value"] (sp_is_integer K) := ok_is_integer T D_is_integer
  have C_is_count : Ct l.prog w K mg base CX0 2 "is_count" ["value"] (sp_is_count K) := ok_is_count C_is_integer D_is_count
  have C_cut_at : Ct l.prog w K mg base (L2.CX l.prog w) 4 "cut_at" ["texts", "signs"] (sp_cut_at K) := ok_cut_at T R_InvalidCount C_check_texts C_is_count D_cut_at
  have K_framed : CtK l.prog w K mg base (L2.CX l.prog w) 3 "framed" ["text"] ["text"] perm_0 (sp_framed K) := C_framed.kw D_framed (fun _ _ _ _ _ _ ws hl => match ws, hl with | [_], _ => rfl) perm_0_ok
  have K_frames_in : CtK l.prog w K mg base (L2.CX l.prog w) 3 "frames_in" ["text"] ["text"] perm_0 (sp_frames_in K) := C_frames_in.kw D_frames_in (fun _ _ _ _ _ _ ws hl => match ws, hl with | [_], _ => rfl) perm_0_ok
  have K_all_framed : CtK l.prog w K mg base (L2.CX l.prog w) 4 "all_framed" ["texts"] ["texts"] perm_0 (sp_all_framed K) := C_all_framed.kw D_all_framed (fun _ _ _ _ _ _ ws hl => match ws, hl with | [_], _ => rfl) perm_0_ok
  have K_cut_at_signs_texts : CtK l.prog w K mg base (L2.CX l.prog w) 4 "cut_at" ["texts", "signs"] ["signs", "texts"] perm_1_0 (sp_cut_at K) := C_cut_at.kw D_cut_at (fun _ _ _ _ _ _ ws hl => match ws, hl with | [_, _], _ => rfl) perm_1_0_ok
  have C__law_met : Ct l.prog w K mg base CX0 5 "_law_met" ["_law_door", "_law_thing", "_law_more"] (sp__law_met K) := ok__law_met T C_framed C_frames_in C_all_framed C_cut_at K_framed K_frames_in K_all_framed K_cut_at_signs_texts D__law_met
  have C_is_whole : Ct l.prog w K mg base CX0 4 "is_whole" ["value"] (sp_is_whole K) := ok_is_whole T C_frames_in C_is_signs D_is_whole
  have C__law_at_the_bound : Ct l.prog w K mg base CX0 6 "_law_at_the_bound" [] (sp__law_at_the_bound K) := ok__law_at_the_bound C__law_met C_is_whole C_frames_in D__law_at_the_bound
  have C__law_cell : Ct l.prog w K mg base CX0 1 "_law_cell" ["_law_script", "_law_k"] (sp__law_cell K) := ok__law_cell T D__law_cell
  have C__law_box : Ct l.prog w K mg base CX0 1 "_law_box" ["_law_great"] (sp__law_box K) := ok__law_box T D__law_box
  have C__law_take : Ct l.prog w K mg base CX0 1 "_law_take" ["_law_box_here", "_law_many"] (sp__law_take K) := ok__law_take T D__law_take
  have C__law_text : Ct l.prog w K mg base CX0 2 "_law_text" ["_law_box_here"] (sp__law_text K) := ok__law_text T C__law_take D__law_text
  have C__law_frame : Ct l.prog w K mg base CX0 1 "_law_frame" ["_law_row"] (sp__law_frame K) := ok__law_frame T D__law_frame
  have C__law_taken : Cg l.prog w K mg base CX0 5 "_law_taken" ["_law_box_here"] (sp__law_taken K) := ok__law_taken T C__law_take C__law_text C_frames_in C__law_frame C_all_framed C_framed C_cut_at C_is_whole K_cut_at_signs_texts D__law_taken
  have C__law_copy : Ct l.prog w K mg base CX0 1 "_law_copy" ["_law_thing"] (sp__law_copy K) := ok__law_copy T D__law_copy
  have C__law_no_list : Ct l.prog w K mg base CX0 2 "_law_no_list" ["_law_box_here"] (sp__law_no_list K) := ok__law_no_list C__law_take D__law_no_list
  have C__law_is_met : Cg l.prog w K mg base CX0 1 "_law_is_met" ["_law_told", "_law_word", "_law_thing"] (sp__law_is_met K) := ok__law_is_met T D__law_is_met
  have C__law_no_count : Ct l.prog w K mg base CX0 2 "_law_no_count" ["_law_box_here"] (sp__law_no_count K) := ok__law_no_count C__law_take D__law_no_count
  have C__law_lists_refused : Cg l.prog w K mg base CX0 6 "_law_lists_refused" ["_law_box_here"] (sp__law_lists_refused K) := ok__law_lists_refused T C__law_copy C__law_no_list C__law_is_met C__law_met C__law_take C__law_text C__law_no_count D__law_lists_refused
  have C__law_bad : Ct l.prog w K mg base CX0 3 "_law_bad" ["_law_box_here"] (sp__law_bad K) := ok__law_bad T C__law_take C__law_text D__law_bad
  have K_is_whole : CtK l.prog w K mg base CX0 4 "is_whole" ["value"] ["value"] perm_0 (sp_is_whole K) := C_is_whole.kw D_is_whole (fun _ _ _ _ _ _ ws hl => match ws, hl with | [_], _ => rfl) perm_0_ok
  have C__law_texts_refused : Cg l.prog w K mg base CX0 6 "_law_texts_refused" ["_law_box_here"] (sp__law_texts_refused K) := ok__law_texts_refused T C__law_bad C__law_copy C__law_is_met C__law_met C__law_take C__law_frame C_is_whole C__law_text K_is_whole D__law_texts_refused
  have C_law : Cg l.prog w K mg base CX0 7 "law" ["_law_script"] (sp_law K) := ok_law T C__law_at_the_bound C__law_cell C__law_box C__law_taken C__law_lists_refused C__law_texts_refused D_law
  exact law_gn C_law hfa l36
theorem walk {l : PySem.W.OpenLaw} {q : Program} {loose : List Str} {XP : (Str → Option Value) → Heap → Prop} {YP : World → Heap → Prop} {d : DefRec} {K : Params → PySem.W.Frag} (hn : l.most = some 63) (hdf : d.params.defaults = [])
    (hY : ∀ (w : World) (h : Heap), YP w h → (K w.params).In h)
    (F : ∀ (w : World) (mg : Str → Option Value) (fa : Addr) (h : Heap), (K w.params).In h → h.Ns mainGlobals mg → mg d.name = some (.ref fa) →
      ∃ fd : FuncData, (∀ (s : Shared) (u : Value), BindsTo s fd ⟨[u], []⟩ [("_law_script", u)]) ∧ ∀ base : Heap, (K w.params).In base → base.Ns mainGlobals mg → FnG l.prog w (K w.params) mg base CX0 7 fa fd ["_law_script"] (sp_law (K w.params))) :
    PySem.W.WalkO q loose XP YP l.row.toRowW d [] (fun f vs => PySem.call f vs) :=
  walk_g (n := 63) (k := 7) (x := "_law_script") (CX := CX0) (sp := fun w => sp_law (K w.params)) hn (by decide) hdf ⟨⟨rfl, by decide, by decide⟩, rfl⟩ hY F (fun _ _ a ns hl hS => law_asks a ns hl hS) fun _ _ _ _ z => z
end L10_

open PySem PySem.W PyProof.Rows in
set_option maxRecDepth 100000 in
set_option maxHeartbeats 0 in
theorem PySem.Challenge.cw_inorderonce_k10_frames_refused_and_judge_holds : PySem.Challenge.rw_inorderonce_k10_frames_refused_and_judge.Holds := by
  w_on; o_law; k_head; (case hw => w_witness2)
  k_fill
  refine L10_.walk (l := PySem.Challenge.rw_inorderonce_k10_frames_refused_and_judge) rfl rfl (fun w h Y => PySem.W.kIn_of Y) ?F
  case F =>
    intro w mg fa h KX G hmg
    refine' L10_.all_mk KX G hmg ?a8 ?l8 ?c8 ?k8 ?a12 ?l12 ?c12 ?k12 ?a14 ?l14 ?c14 ?k14 ?a16 ?l16 ?c16 ?k16 ?a17 ?l17 ?c17 ?k17 ?a5 ?l5 ?c5 ?k5 ?a13 ?l13 ?c13 ?k13 ?a15 ?l15 ?c15 ?k15 ?a6 ?l6 ?c6 ?k6 ?a7 ?l7 ?c7 ?k7 ?a19 ?l19 ?c19 ?k19 ?a29 ?l29 ?c29 ?k29 ?a18 ?l18 ?c18 ?k18 ?a35 ?l35 ?c35 ?k35 ?a21 ?l21 ?c21 ?k21 ?a22 ?l22 ?c22 ?k22 ?a23 ?l23 ?c23 ?k23 ?a24 ?l24 ?c24 ?k24 ?a33 ?l33 ?c33 ?k33 ?a34 ?l34 ?c34 ?k34 ?a28 ?l28 ?c28 ?k28 ?a26 ?l26 ?c26 ?k26 ?a30 ?l30 ?c30 ?k30 ?a27 ?l27 ?c27 ?k27 ?a32 ?l32 ?c32 ?k32 ?a25 ?l25 ?c25 ?k25 ?a31 ?l31 ?c31 ?k31 ?a36 ?l36 ?c36 ?k36 ?zhn ?zht ?ga_InvalidText ?ga_InvalidCount ?ga_QueueError ?xd_QueueError ?ty_QueueError ?qa_QueueError ?qb_QueueError ?qc_QueueError ?cl_InvalidText ?sa_InvalidText ?ex_InvalidText ?ty_InvalidText ?kc_InvalidText ?xa_InvalidText ?xb_InvalidText ?xd_InvalidText ?xe_InvalidText ?xm_InvalidText ?no_InvalidText ?ia_InvalidText ?it_InvalidText ?il_InvalidText ?ic_InvalidText ?ik_InvalidText ?sx_InvalidText_InvalidText ?sx_InvalidText_InvalidCount ?sx_InvalidText_QueueError ?cl_InvalidCount ?sa_InvalidCount ?ex_InvalidCount ?ty_InvalidCount ?kc_InvalidCount ?xa_InvalidCount ?xb_InvalidCount ?xd_InvalidCount ?xe_InvalidCount ?xm_InvalidCount ?no_InvalidCount ?ia_InvalidCount ?it_InvalidCount ?il_InvalidCount ?ic_InvalidCount ?ik_InvalidCount ?sx_InvalidCount_InvalidText ?sx_InvalidCount_InvalidCount ?sx_InvalidCount_QueueError ?z_isinstance ?z_str ?z_len ?z_all ?z_int ?z_tuple ?z_list ?z_bool ?z_sum ?z_abs ?z_range ?z_repr ?z_dict ?z_max ?z_min ?v_MOST_SIGNS ?v_FIGURES
    (case a8 => k_is)
    (case l8 => k_is)
    (case c8 => k_is)
    (case k8 => k_is)
    (case a12 => k_is)
    (case l12 => k_is)
    (case c12 => k_is)
    (case k12 => k_is)
    (case a14 => k_is)
    (case l14 => k_is)
    (case c14 => k_is)
    (case k14 => k_is)
    (case a16 => k_is)
    (case l16 => k_is)
    (case c16 => k_is)
    (case k16 => k_is)
    (case a17 => k_is)
    (case l17 => k_is)
    (case c17 => k_is)
    (case k17 => k_is)
    (case a5 => k_is)
    (case l5 => k_is)
    (case c5 => k_is)
    (case k5 => k_is)
    (case a13 => k_is)
    (case l13 => k_is)
    (case c13 => k_is)
    (case k13 => k_is)
    (case a15 => k_is)
    (case l15 => k_is)
    (case c15 => k_is)
    (case k15 => k_is)
    (case a6 => k_is)
    (case l6 => k_is)
    (case c6 => k_is)
    (case k6 => k_is)
    (case a7 => k_is)
    (case l7 => k_is)
    (case c7 => k_is)
    (case k7 => k_is)
    (case a19 => k_is)
    (case l19 => k_is)
    (case c19 => k_is)
    (case k19 => k_is)
    (case a29 => k_is)
    (case l29 => k_is)
    (case c29 => k_is)
    (case k29 => k_is)
    (case a18 => k_is)
    (case l18 => k_is)
    (case c18 => k_is)
    (case k18 => k_is)
    (case a35 => k_is)
    (case l35 => k_is)
    (case c35 => k_is)
    (case k35 => k_is)
    (case a21 => k_is)
    (case l21 => k_is)
    (case c21 => k_is)
    (case k21 => k_is)
    (case a22 => k_is)
    (case l22 => k_is)
    (case c22 => k_is)
    (case k22 => k_is)
    (case a23 => k_is)
    (case l23 => k_is)
    (case c23 => k_is)
    (case k23 => k_is)
    (case a24 => k_is)
    (case l24 => k_is)
    (case c24 => k_is)
    (case k24 => k_is)
    (case a33 => k_is)
    (case l33 => k_is)
    (case c33 => k_is)
    (case k33 => k_is)
    (case a34 => k_is)
    (case l34 => k_is)
    (case c34 => k_is)
    (case k34 => k_is)
    (case a28 => k_is)
    (case l28 => k_is)
    (case c28 => k_is)
    (case k28 => k_is)
    (case a26 => k_is)
    (case l26 => k_is)
    (case c26 => k_is)
    (case k26 => k_is)
    (case a30 => k_is)
    (case l30 => k_is)
    (case c30 => k_is)
    (case k30 => k_is)
    (case a27 => k_is)
    (case l27 => k_is)
    (case c27 => k_is)
    (case k27 => k_is)
    (case a32 => k_is)
    (case l32 => k_is)
    (case c32 => k_is)
    (case k32 => k_is)
    (case a25 => k_is)
    (case l25 => k_is)
    (case c25 => k_is)
    (case k25 => k_is)
    (case a31 => k_is)
    (case l31 => k_is)
    (case c31 => k_is)
    (case k31 => k_is)
    (case a36 => k_is)
    (case l36 => k_is)
    (case c36 => k_is)
    (case k36 => k_is)
    (case zhn => k_is)
    (case zht => k_is)
    (case ga_InvalidText => k_is)
    (case ga_InvalidCount => k_is)
    (case ga_QueueError => k_is)
    (case xd_QueueError => k_is)
    (case ty_QueueError => k_is)
    (case qa_QueueError => k_is)
    (case qb_QueueError => k_is)
    (case qc_QueueError => k_is)
    (case cl_InvalidText => k_is)
    (case sa_InvalidText => k_is)
    (case ex_InvalidText => k_is)
    (case ty_InvalidText => k_is)
    (case kc_InvalidText => k_is)
    (case xa_InvalidText => k_is)
    (case xb_InvalidText => k_is)
    (case xd_InvalidText => k_is)
    (case xe_InvalidText => k_is)
    (case xm_InvalidText => k_is)
    (case no_InvalidText => k_is)
    (case ia_InvalidText => k_is)
    (case it_InvalidText => k_is)
    (case il_InvalidText => k_is)
    (case ic_InvalidText => k_is)
    (case ik_InvalidText => k_is)
    (case sx_InvalidText_InvalidText => k_is)
    (case sx_InvalidText_InvalidCount => k_is)
    (case sx_InvalidText_QueueError => k_is)
    (case cl_InvalidCount => k_is)
    (case sa_InvalidCount => k_is)
    (case ex_InvalidCount => k_is)
    (case ty_InvalidCount => k_is)
    (case kc_InvalidCount => k_is)
    (case xa_InvalidCount => k_is)
    (case xb_InvalidCount => k_is)
    (case xd_InvalidCount => k_is)
    (case xe_InvalidCount => k_is)
    (case xm_InvalidCount => k_is)
    (case no_InvalidCount => k_is)
    (case ia_InvalidCount => k_is)
    (case it_InvalidCount => k_is)
    (case il_InvalidCount => k_is)
    (case ic_InvalidCount => k_is)
    (case ik_InvalidCount => k_is)
    (case sx_InvalidCount_InvalidText => k_is)
    (case sx_InvalidCount_InvalidCount => k_is)
    (case sx_InvalidCount_QueueError => k_is)
    (case z_isinstance => k_is)
    (case z_str => k_is)
    (case z_len => k_is)
    (case z_all => k_is)
    (case z_int => k_is)
    (case z_tuple => k_is)
    (case z_list => k_is)
    (case z_bool => k_is)
    (case z_sum => k_is)
    (case z_abs => k_is)
    (case z_range => k_is)
    (case z_repr => k_is)
    (case z_dict => k_is)
    (case z_max => k_is)
    (case z_min => k_is)
    (case v_MOST_SIGNS => k_is)
    (case v_FIGURES => k_is)

