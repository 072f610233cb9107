import PyProof.Rows.All
import Wide.All
import OpenK.AllK
import Wide.FinOn
import HandS.ForMost
import HandS.IsInst
import HandS.StrMore
import HandS.TupAny
import HandS.TupLe
import HandS.Conv
import PyProof.ReprRoads
import PyProof.RowDictHeap
import HandS.Zip0
import HandS.Iter
import HandS.CallLocal
import PyProof.Draws
import HandS.ExcInit
import HandS.TryMany
import HandS.ExcField
import HandS.ExcIs
import HandS.WordsExc
import KE.KExcIs
import HandS.Codes
import HandS.TupMul
import KE.KDictDisplayH
import PyProof.DictDisplay
import Open.Head
import Open.Seg
import HandS.Head2
import PyProof.Finish
import HandS.Base
import HandS.Style
import PySem.Challenge.RW_inorderonce_k04_commands
set_option Elab.async false
set_option linter.all false
set_option maxRecDepth 100000
set_option maxHeartbeats 8000000
/-! Z: own layer over the hand layer: readings that compute. -/
namespace Z
open PySem PySem.Spec PyProof.Rows L2

/-! ### heaps -/
/-- H2 is H with a new object at p -/
structure Nw (H : Hp) (p : Addr) (o : HO) (H2 : Hp) : Prop where
  fresh : H p = none
  here : H2 p = some o
  off : ∀ a, a ≠ p → H2 a = H a
/-- H2 is H with another object at l -/
structure Wr (H : Hp) (l : Addr) (o : HO) (H2 : Hp) : Prop where
  here : H2 l = some o
  off : ∀ a, a ≠ l → H2 a = H a
/-- all that was tracked is there, but for b -/
def But (b : Addr) (H H2 : Hp) : Prop := ∀ a o, a ≠ b → H a = some o → H2 a = some o
theorem nw {H : Hp} {p : Addr} {o : HO} (h : H p = none) : Nw H p o (upd H p o) := ⟨h, upd_same, fun _ e => upd_ne e⟩
theorem wr {H : Hp} {p : Addr} {o : HO} : Wr H p o (upd H p o) := ⟨upd_same, fun _ e => upd_ne e⟩
theorem Nw.keep {H H2 : Hp} {p a : Addr} {o u : HO} (n : Nw H p o H2) (h : H a = some u) : H2 a = some u := by
  rw [n.off a (ne_of_none h n.fresh)]
  exact h
theorem Nw.same {H H2 : Hp} {p : Addr} {o : HO} (n : Nw H p o H2) : Same H H2 := fun _ _ h => n.keep h
theorem Wr.keep {H H2 : Hp} {l a : Addr} {o u : HO} (n : Wr H l o H2) (e : a ≠ l) (h : H a = some u) : H2 a = some u := by
  rw [n.off a e]
  exact h
theorem Wr.but {H H2 : Hp} {l : Addr} {o : HO} (n : Wr H l o H2) : But l H H2 := fun a _ e h => n.keep e h
theorem Nw.but {H H2 : Hp} {p b : Addr} {o : HO} (n : Nw H p o H2) : But b H H2 := fun _ _ _ h => n.keep h
theorem But.refl (b : Addr) (H : Hp) : But b H H := fun _ _ _ h => h
theorem But.trans {b : Addr} {H H1 H2 : Hp} (x : But b H H1) (y : But b H1 H2) : But b H H2 := fun a o e h => y a o e (x a o e h)
theorem But.of {b : Addr} {H H1 : Hp} (x : Same H H1) : But b H H1 := fun a o _ h => x a o h
theorem But.at {b a : Addr} {o : HO} {H H1 : Hp} (x : But b H H1) (e : a ≠ b) (h : H a = some o) : H1 a = some o := x a o e h
/-- what was new to H and written later: H is kept -/
theorem _root_.L2.Same.wr {H H1 H2 : Hp} {l : Addr} {o : HO} (x : Same H H1) (f : H l = none) (w : Wr H1 l o H2) : Same H H2 := fun a u h =>
  w.keep (ne_of_none h f) (x a u h)
theorem _root_.L2.Same.but {H H1 H2 : Hp} {l : Addr} (x : Same H H1) (f : H l = none) (w : But l H1 H2) : Same H H2 := fun a u h =>
  w a u (ne_of_none h f) (x a u h)
theorem But.butNew {b l : Addr} {H H1 H2 : Hp} (x : But b H H1) (f : H l = none) (w : But l H1 H2) (hb : H b ≠ none → True) : But b H H2 := fun a u e h =>
  w a u (ne_of_none h f) (x a u e h)
theorem But.wr {b l : Addr} {o : HO} {H H1 H2 : Hp} (x : But b H H1) (f : H l = none) (w : Wr H1 l o H2) : But b H H2 := fun a u e h => w.keep (ne_of_none h f) (x a u e h)
theorem But.nw {b l : Addr} {o : HO} {H H1 H2 : Hp} (x : But b H H1) (w : Nw H1 l o H2) : But b H H2 := fun a u e h => w.keep (x a u e h)
theorem But.free {b l : Addr} {H H1 : Hp} (x : But b H H1) (e : l ≠ b) (f : H1 l = none) : H l = none := by
  cases q : H l with
  | none => rfl
  | some o =>
    rw [x l o e q] at f
    cases f
theorem sz {n : Nat} (h : n ≤ 16000000) : n ≤ sizeLine := Nat.le_trans h (by decide)
theorem szlt {n : Nat} (h : n ≤ 16000000) : n < sizeLine := Nat.lt_of_le_of_lt h (by decide)
theorem free_of {H H1 : Hp} {l : Addr} (x : Same H H1) (f : H1 l = none) : H l = none := x.free f

/-- the same of lists and tuples that are read -/
theorem sqL_same {K : PySem.W.Frag} {H H' : Hp} {a : Addr} {xs : List V} (e : Same H H') (h : SqL K H a xs) : SqL K H' a xs := e.seq h
theorem sqT_same {K : PySem.W.Frag} {H H' : Hp} {a : Addr} {xs : List V} (e : Same H H') (h : SqT K H a xs) : SqT K H' a xs := by
  rcases h with (h | ⟨o, h⟩) | h
  · exact .inl (.inl (e _ _ h))
  · exact .inl (.inr ⟨o, e _ _ h⟩)
  · exact .inr h

/-! ### names -/
def tV (i : Nat) : TE := fun σ H Q => match σ[i]? with
  | some (some v) => Q v H
  | _ => False
theorem tV_of {i : Nat} {σ : L2.St} {H : Hp} {Q : VK} (h : tV i σ H Q) : tVar i σ H Q := by
  unfold tV at h
  split at h
  · exact ⟨_, by assumption, h⟩
  · exact h.elim
section
variable {X : Cx}
theorem pz (i : Nat) {x : Str} {pos : Pos} (hN : X.N[i]? = some x := by rfl) (hv : Vis X.env.scope x := by first | exact Or.inl rfl | exact Or.inr (Or.inl rfl) | exact Or.inr (Or.inr rfl)) (hd : (x == ("__debug__" : Str)) = false := by decide)
    (hcd : (x == ("__classdict__" : Str)) = false := by decide) : PE X (.Name x pos) (tV i) :=
  ⟨fun pins s σ H Q I h => (pe_var hN hv hd hcd).run pins s σ H Q I (tV_of h)⟩
end

/-! ### operators on values, that compute -/
def zI (g : Int → Int → V) : R2 := fun x y H Q => match x, y with
  | .int i, .int j => Q (g i j) H
  | _, _ => False
def zIC (C : Int → Int → Prop) (g : Int → Int → V) : R2 := fun x y H Q => match x, y with
  | .int i, .int j => C i j ∧ Q (g i j) H
  | _, _ => False
theorem opr_w {X : Cx} {f : Value → Value → Sem Value} {r r' : R2} (h : OpR X f r') (i : ∀ x y H Q, r x y H Q → r' x y H Q) : OpR X f r :=
  fun pins s σ H x y v u Q I rx ry q => h pins s σ H x y v u Q I rx ry (i x y H Q q)
theorem zI_of {g : Int → Int → V} (x y : V) (H : Hp) (Q : VK) (h : zI g x y H Q) : rI0 g x y H Q := by
  unfold zI at h
  split at h
  · exact ⟨_, _, rfl, rfl, h⟩
  · exact h.elim
theorem zIC_of {C : Int → Int → Prop} {g : Int → Int → V} (x y : V) (H : Hp) (Q : VK) (h : zIC C g x y H Q) : rI C g x y H Q := by
  unfold zIC at h
  split at h
  · exact ⟨_, _, rfl, rfl, h.1, h.2⟩
  · exact h.elim
section
variable {X : Cx}
theorem o_sub : OpR X (binaryOp .Sub) (zI fun i j => .int (i - j)) := opr_w op_sub fun x y H Q h => zI_of x y H Q h
theorem o_mod : OpR X (binaryOp .Mod) (zIC (fun _ j => 0 < j) fun i j => .int (i % j)) := opr_w op_mod fun x y H Q h => zIC_of x y H Q h
theorem o_fdiv : OpR X (binaryOp .FloorDiv) (zIC CDiv fun i j => .int (i / j)) := opr_w op_fdiv fun x y H Q h => zIC_of x y H Q h
theorem o_pow : OpR X (binaryOp .Pow) (zIC CPow fun i j => .int (i ^ j.toNat)) := opr_w op_pow fun x y H Q h => zIC_of x y H Q h
/-- + : ints, texts, lists, tuples -/
def zAdd (K : PySem.W.Frag) : R2 := fun x y H Q => match x, y with
  | .int i, .int j => Q (.int (i + j)) H
  | .str a, .str b => a.length + b.length ≤ sizeLine ∧ Q (.str (a ++ b)) H
  | .ref l, .ref b =>
      (∃ xs zs, H l = some (.lst xs) ∧ H b = some (.lst zs) ∧ xs.length + zs.length ≤ sizeLine ∧ ∀ p H2, Nw H p (.lst (xs ++ zs)) H2 → Q (.ref p) H2) ∨
      (∃ xs zs, SqT K H l xs ∧ SqT K H b zs ∧ xs.length + zs.length ≤ sizeLine ∧ (xs = [] → Q (.ref b) H) ∧ (xs ≠ [] → zs = [] → Q (.ref l) H) ∧
        (xs ≠ [] → zs ≠ [] → ∀ p H2, Nw H p (.tup (xs ++ zs)) H2 → Q (.ref p) H2))
  | _, _ => False
theorem o_add : OpR X (binaryOp .Add) (zAdd X.K) := by
  intro pins s σ H x y v u Q I rx ry h
  unfold zAdd at h
  split at h
  · exact op_add pins s σ H _ _ v u Q I rx ry ⟨_, _, rfl, rfl, h⟩
  · exact op_add_str pins s σ H _ _ v u Q I rx ry ⟨_, _, rfl, rfl, h.1, h.2⟩
  · rcases h with ⟨xs, zs, h1, h2, h3, q⟩ | ⟨xs, zs, h1, h2, h3, q1, q2, q3⟩
    · exact op_cat pins s σ H _ _ v u Q I rx ry ⟨_, _, xs, zs, rfl, rfl, h1, h2, h3, fun p hp => q p _ (nw hp)⟩
    · exact op_catA pins s σ H _ _ v u Q I rx ry ⟨_, _, xs, zs, rfl, rfl, h1, h2, h3, q1, q2, fun a b p hp => q3 a b p _ (nw hp)⟩
  · exact h.elim
/-- a text so many times -/
def rep (x : Str) (n : Int) : Str := ⟨(List.replicate n.toNat x.cps.toList).flatten.toArray⟩
theorem rep_fold (l : List Nat) : ∀ (n : Nat) (acc : Array Nat), (List.replicate n l.toArray).foldl (· ++ ·) acc = acc ++ (List.replicate n l).flatten.toArray
  | 0, acc => by simp
  | n + 1, acc => by
    rw [List.replicate_succ, List.foldl_cons, rep_fold l n, List.replicate_succ, List.flatten_cons]
    simp [Array.append_assoc]
/-- * : ints, a text, a list -/
def zMul : R2 := fun x y H Q => match x, y with
  | .int i, .int j => CMul i j ∧ Q (.int (i * j)) H
  | .str a, .int n => -(2 ^ 62) ≤ n ∧ n < 2 ^ 62 ∧ a.length * n.toNat ≤ 1000000 ∧ Q (.str (rep a n)) H
  | .ref l, .int k => ∃ xs, H l = some (.lst xs) ∧ -(2 ^ 63) ≤ k ∧ k < 2 ^ 63 ∧ xs.length * k.toNat ≤ sizeLine ∧ ∀ p H2, Nw H p (.lst (List.replicate k.toNat xs).flatten) H2 → Q (.ref p) H2
  | _, _ => False
theorem str_size0 {a : Str} (h : a.length = 0) : a = Str.empty := by
  obtain ⟨c⟩ := a
  have h : c.size = 0 := h
  have : c = #[] := Array.eq_empty_of_size_eq_zero h
  rw [this]
  rfl
theorem o_mul : OpR X (binaryOp .Mult) zMul := by
  intro pins s σ H x y v u Q I rx ry h
  unfold zMul at h
  split at h
  · exact op_mul pins s σ H _ _ v u Q I rx ry ⟨_, _, rfl, rfl, h.1, h.2⟩
  · rename_i a n
    obtain ⟨h1, h2, h3, q⟩ := h
    obtain ⟨t, rfl⟩ := rx
    obtain ⟨t', rfl⟩ := ry
    have two : (2 : Int) ^ 62 = 4611686018427387904 := by decide
    have two3 : (2 : Int) ^ 63 = 9223372036854775808 := by decide
    refine PySem.P.mul_str ?_ (fun hn hz => ?_) (fun hn hz => ?_) ?_
    · rw [decide_eq_false (by omega), decide_eq_false (by omega)]
      rfl
    · intro hc
      have hn1 : 1 ≤ n := by omega
      have hd : ((2 : Int) ^ 63 - 1) / n * n ≤ 2 ^ 63 - 1 := Int.ediv_mul_le _ (by omega)
      have hlt : ((2 : Int) ^ 63 - 1) < (((2 : Int) ^ 63 - 1) / n + 1) * n := Int.lt_ediv_add_one_mul_self _ (by omega)
      have hle : (((2 : Int) ^ 63 - 1) / n + 1) * n ≤ (a.length : Int) * n := Int.mul_le_mul_of_nonneg_right (by omega) (by omega)
      have hcast : ((a.length * n.toNat : Nat) : Int) = (a.length : Int) * n := by
        rw [Int.natCast_mul, Int.toNat_of_nonneg (by omega)]
      omega
    · show decide (a.length * n.toNat > sizeLine) = false
      have hs : 1000000 ≤ sizeLine := by decide
      exact decide_eq_false (by omega)
    · have fit : (rep a n).length ≤ sizeLine := by
        have e : (rep a n).length = a.length * n.toNat := by
          show ((List.replicate n.toNat a.cps.toList).flatten.toArray).size = a.length * n.toNat
          rw [List.size_toArray, List.length_flatten, List.map_replicate, List.sum_replicate_nat, Array.length_toList, Nat.mul_comm]
          rfl
        have hs : 1000000 ≤ sizeLine := by decide
        omega
      have fin : ∀ (tk : Nat) (t' : Tok), EP X pins σ Q (.str (rep a n) t') { s with toks := tk } := fun tk t' => ⟨.str (rep a n), H, I.tok tk, ⟨t', rfl⟩, q⟩
      by_cases hn : n < 1
      · have e : rep a n = Str.empty := by
          have : n.toNat = 0 := by omega
          unfold rep
          rw [this]
          rfl
        rw [if_pos hn]
        rw [e] at fin
        exact ⟨by decide, fin _ _⟩
      · rw [if_neg hn]
        by_cases hz : (n == 1 || a.length == 0) = true
        · rw [if_pos hz]
          have e : rep a n = a := by
            rw [Bool.or_eq_true] at hz
            rcases hz with hz | hz
            · have : n = 1 := by simpa using hz
              subst this
              obtain ⟨c⟩ := a
              show (⟨(List.replicate (1 : Int).toNat c.toList).flatten.toArray⟩ : Str) = ⟨c⟩
              simp
            · have e0 := str_size0 (a := a) (by simpa using hz)
              subst e0
              unfold rep
              show (⟨(List.replicate n.toNat ([] : List Nat)).flatten.toArray⟩ : Str) = Str.empty
              rw [List.flatten_replicate_nil]
              rfl
          rw [e] at fin
          exact fin s.toks t
        · rw [if_neg hz]
          have e : (⟨(List.replicate n.toNat a.cps).foldl (· ++ ·) #[]⟩ : Str) = rep a n := by
            obtain ⟨c⟩ := a
            unfold rep
            have q := rep_fold c.toList n.toNat #[]
            simp only [Array.toArray_toList] at q
            rw [q]
            simp
          rw [e]
          exact ⟨fit, fin _ _⟩
  · obtain ⟨xs, h1, h2, h3, h4, q⟩ := h
    exact op_rep pins s σ H _ _ v u Q I rx ry ⟨_, _, xs, rfl, rfl, h1, h2, h3, h4, fun p hp => q p _ (nw hp)⟩
  · exact h.elim
end

/-! ### any rule, its end carried -/
def mon (t : TE) : TE := fun σ H Q => ∃ Q0 : VK, t σ H Q0 ∧ ∀ x H1, Q0 x H1 → Q x H1
def monA (t : TA) : TA := fun σ H Q => ∃ Q0 : List V → Hp → Prop, t σ H Q0 ∧ ∀ x H1, Q0 x H1 → Q x H1
def monR (r : R2) : R2 := fun x y H Q => ∃ Q0 : VK, r x y H Q0 ∧ ∀ x H1, Q0 x H1 → Q x H1
section
variable {X : Cx} {a b e o : Expr} {es rest : List Expr} {ta tb te to : TE} {t t' : TE} {pos : Pos}
theorem pe_w (h : PE X e t) (i : ∀ σ H Q, t' σ H Q → t σ H Q) : PE X e t' := ⟨fun pins s σ H Q I q => h.run pins s σ H Q I (i σ H Q q)⟩
theorem pt_w {t t' : TT} (h : PT X e t) (i : ∀ σ H Q, t' σ H Q → t σ H Q) : PT X e t' := ⟨fun pins s σ H Q I q => h.run pins s σ H Q I (i σ H Q q)⟩
theorem po_w {e : Option Expr} {t t' : TO} (h : PO X e t) (i : ∀ σ H Q, t' σ H Q → t σ H Q) : PO X e t' := ⟨fun pins s σ H Q I q => h.run pins s σ H Q I (i σ H Q q)⟩
theorem ps_w {st : Stmt} {t t' : TS} (h : PS X st t) (i : ∀ D σ H, t' D σ H → t D σ H) : PS X st t' := ⟨fun pins s σ H D I q => h.run pins s σ H D I (i D σ H q)⟩
theorem pg_w {g : Expr} {t t' : TG} (h : PG X g t) (i : ∀ v σ H Q, t' v σ H Q → t v σ H Q) : PG X g t' := ⟨fun pins s σ H v u Q I r q => h.run pins s σ H v u Q I r (i v σ H Q q)⟩
theorem pi_w {g e : Expr} {t t' : TI} (h : PI X g e t) (i : ∀ σ H R, t' σ H R → t σ H R) : PI X g e t' := ⟨fun pins s σ H R I q => h.run pins s σ H R I (i σ H R q)⟩
theorem callr_w {f : Value} {r r' : List V → Hp → VK → Prop} (h : CallR X f r') (i : ∀ vs H Q, r vs H Q → r' vs H Q) : CallR X f r :=
  fun pins s σ H xs us Q I rs q => h pins s σ H xs us Q I rs (i xs H Q q)
theorem pe_mon (h : PE X e t) : PE X e (mon t) := ⟨fun pins s σ H Q I ⟨Q0, q, i⟩ => thn (h.run pins s σ H Q0 I q) fun u s' ⟨v, H', I', r, z⟩ => ⟨v, H', I', r, i v H' z⟩⟩
theorem pa_mon {t : TA} (h : PA X es t) : PA X es (monA t) := ⟨fun pos pins s σ H Q I ⟨Q0, q, i⟩ => thn (h.run pos pins s σ H Q0 I q) fun u s' ⟨v, H', I', r, z⟩ => ⟨v, H', I', r, i v H' z⟩⟩
theorem opr_mon {f : Value → Value → Sem Value} {r : R2} (h : OpR X f r) : OpR X f (monR r) := fun pins s σ H x y v u Q I rx ry ⟨Q0, q, i⟩ =>
  thn (h pins s σ H x y v u Q0 I rx ry q) fun u s' ⟨v, H', I', r, z⟩ => ⟨v, H', I', r, i v H' z⟩

/-! ### tests and bools -/
/-- what follows of a bool -/
def zB (x : V) (H : Hp) (Q : Bool → Hp → Prop) : Prop := match x with
  | .bl k => Q k H
  | _ => False
theorem zB_of {x : V} {H : Hp} {Q : Bool → Hp → Prop} (h : zB x H Q) : ∃ k, x = .bl k ∧ Q k H := by
  unfold zB at h
  split at h
  · exact ⟨_, rfl, h⟩
  · exact h.elim
def tBz (t : TE) : TT := fun σ H Q => t σ H fun x H1 => zB x H1 Q
theorem pt_cmpZ {op : CmpOp} {r : R2} (ho : OpR X (compareOp op) r) (ha : PE X a ta) (hb : PE X b tb) (hm : behindInMarks op b = false) : PT X (.Compare a [op] [b] pos) (tBz (tOp r ta tb)) :=
  pt_w (pt_cmpR (opr_mon ho) (pe_mon ha) (pe_mon hb) hm) fun σ H Q h => ⟨_, h, fun x H1 h1 => ⟨_, h1, fun y H2 h2 => ⟨_, h2, fun z H3 h3 => zB_of h3⟩⟩⟩
theorem pt_chainZ {c : Expr} {tc : TE} {op op' : CmpOp} {r r' : R2} (h : PE X (.Compare a [op, op'] [b, c] pos) t) (he : ∀ whole, isTrue (.Compare a [op, op'] [b, c] pos) X.env whole = (do let v ← whole; standAt (Expr.Compare a [op, op'] [b, c] pos).pos; holding [v] (truthy v)) := by intro _; rfl) :
    PT X (.Compare a [op, op'] [b, c] pos) (tBz t) := pt_w (pt_val (pe_mon h) he) fun σ H Q h => ⟨_, h, fun x H1 h1 => zB_of h1⟩
/-- a < b < c as a value -/
def tChZ (r r' : R2) (ta tb tc : TE) : TE := fun σ H Q => ta σ H fun x H1 => tb σ H1 fun y H2 => r x y H2 fun z H3 => zB z H3 fun k H3 => if k = true then tc σ H3 fun w' H4 => r' y w' H4 Q else Q (.bl false) H3
theorem pe_chZ {c : Expr} {tc : TE} {op op' : CmpOp} {r r' : R2} (h : PE X (.Compare a [op, op'] [b, c] pos) (tChain (monR r) r' (mon ta) (mon tb) tc)) : PE X (.Compare a [op, op'] [b, c] pos) (tChZ r r' ta tb tc) :=
  pe_w h fun σ H Q h => ⟨_, h, fun x H1 h1 => ⟨_, h1, fun y H2 h2 => ⟨_, h2, fun z H3 h3 => zB_of h3⟩⟩⟩
/-- an expression's truth -/
def zTr (K : PySem.W.Frag) (x : V) (H : Hp) (Q : Bool → Hp → Prop) : Prop := match x with
  | .bl k => Q k H
  | .non => Q false H
  | .int i => Q (i != 0) H
  | .str y => y.length ≤ sizeLine ∧ Q ((y.length : Int) != 0) H
  | .ref p => (∃ xs, SqL K H p xs ∧ Q (!xs.isEmpty) H) ∨ (∃ xs, SqT K H p xs ∧ Q (!xs.isEmpty) H) ∨ ∃ kvs, H p = some (.dK kvs) ∧ Q (!kvs.isEmpty) H
  | _ => False
theorem zTr_of {K : PySem.W.Frag} {x : V} {H : Hp} {Q : Bool → Hp → Prop} (h : zTr K x H Q) : ∃ k, TruV K x H k ∧ Q k H := by
  unfold zTr at h
  split at h
  · exact ⟨_, rfl, h⟩
  · exact ⟨_, rfl, h⟩
  · exact ⟨_, rfl, h⟩
  · exact ⟨_, ⟨h.1, rfl⟩, h.2⟩
  · rcases h with ⟨xs, h, q⟩ | ⟨xs, h, q⟩ | ⟨kvs, h, q⟩
    · exact ⟨_, .inl ⟨xs, h, rfl⟩, q⟩
    · exact ⟨_, .inr (.inl ⟨xs, h, rfl⟩), q⟩
    · exact ⟨_, .inr (.inr ⟨kvs, h, rfl⟩), q⟩
  · exact h.elim
def tTr (K : PySem.W.Frag) (t : TE) : TT := fun σ H Q => t σ H fun x H1 => zTr K x H1 Q
theorem pt_tr (h : PE X a ta) (he : ∀ whole, isTrue a X.env whole = (do let v ← whole; standAt a.pos; holding [v] (truthy v)) := by intro _; rfl) : PT X a (tTr X.K ta) :=
  pt_w (pt_truth (pe_mon h) he) fun σ H Q h => ⟨_, h, fun x H1 h1 => zTr_of h1⟩
/-- and, or, not as values of bools -/
def tAndZ (ta tb : TE) : TE := fun σ H Q => ta σ H fun x H1 => zB x H1 fun c H1 => if c = true then tb σ H1 Q else Q (.bl false) H1
def tOrZ (ta tb : TE) : TE := fun σ H Q => ta σ H fun x H1 => zB x H1 fun c H1 => if c = true then Q (.bl true) H1 else tb σ H1 Q
def tNotZ (ta : TE) : TE := fun σ H Q => ta σ H fun x H1 => zB x H1 fun c H1 => Q (.bl (!c)) H1
theorem pe_andZ (ha : PE X a ta) (hb : PE X (.BoolOp .And (b :: rest) pos) tb) : PE X (.BoolOp .And (a :: b :: rest) pos) (tAndZ ta tb) :=
  pe_w (pe_and (pe_mon ha) hb) fun σ H Q h => ⟨_, h, fun x H1 h1 => zB_of h1⟩
theorem pe_orZ (ha : PE X a ta) (hb : PE X (.BoolOp .Or (b :: rest) pos) tb) : PE X (.BoolOp .Or (a :: b :: rest) pos) (tOrZ ta tb) :=
  pe_w (pe_or (pe_mon ha) hb) fun σ H Q h => ⟨_, h, fun x H1 h1 => zB_of h1⟩
theorem pe_notZ (ha : PE X a ta) : PE X (.UnaryOp .Not a pos) (tNotZ ta) := pe_w (pe_not (pe_mon ha)) fun σ H Q h => ⟨_, h, fun x H1 h1 => zB_of h1⟩

/-! ### comparisons -/
theorem o_lt : OpR X (compareOp .Lt) (zI fun i j => .bl (decide (i < j))) := opr_w op_lt fun x y H Q h => zI_of x y H Q h
theorem o_le : OpR X (compareOp .LtE) (zI fun i j => .bl (decide (i ≤ j))) := opr_w op_le fun x y H Q h => zI_of x y H Q h
theorem o_gt : OpR X (compareOp .Gt) (zI fun i j => .bl (decide (j < i))) := opr_w op_gt fun x y H Q h => zI_of x y H Q h
theorem o_ge : OpR X (compareOp .GtE) (zI fun i j => .bl (decide (j ≤ i))) := opr_w op_ge fun x y H Q h => zI_of x y H Q h
/-- < of two signs or ints -/
def zLt : R2 := fun x y H Q => match x, y with
  | .int i, .int j => Q (.bl (decide (i < j))) H
  | .str a, .str b => Q (.bl (decide (a.cps.toList < b.cps.toList))) H
  | _, _ => False
def zGt : R2 := fun x y H Q => match x, y with
  | .int i, .int j => Q (.bl (decide (j < i))) H
  | .str a, .str b => Q (.bl (decide (b.cps.toList < a.cps.toList))) H
  | _, _ => False
theorem o_ltS : OpR X (compareOp .Lt) zLt := by
  intro pins s σ H x y v u Q I rx ry h
  unfold zLt at h
  split at h
  · exact op_lt pins s σ H _ _ v u Q I rx ry ⟨_, _, rfl, rfl, h⟩
  · exact op_lt_str pins s σ H _ _ v u Q I rx ry ⟨_, _, rfl, rfl, h⟩
  · exact h.elim
theorem o_gtS : OpR X (compareOp .Gt) zGt := by
  intro pins s σ H x y v u Q I rx ry h
  unfold zGt at h
  split at h
  · exact op_gt pins s σ H _ _ v u Q I rx ry ⟨_, _, rfl, rfl, h⟩
  · exact op_gt_str pins s σ H _ _ v u Q I rx ry ⟨_, _, rfl, rfl, h⟩
  · exact h.elim
/-- == of plain things, of data -/
def zEq (K : PySem.W.Frag) (neg : Bool) : R2 := fun x y H Q => match scal x y with
  | true => Q (.bl (neg ^^ decide (x = y))) H
  | false => ∃ d e, Dp K H x d ∧ Dp K H y e ∧ SeqAt.shaped d = true ∧ SeqAt.shaped e = true ∧ Q (.bl (neg ^^ PyData.eqv d e)) H
theorem o_eq (hu : X.A.units + 64 < cLine) : OpR X (compareOp .Eq) (zEq X.K false) := by
  intro pins s σ H x y v u Q I rx ry h
  unfold zEq at h
  split at h
  · rename_i e
    exact op_eq pins s σ H x y v u Q I rx ry ⟨e, by simpa using h⟩
  · exact op_eqD hu pins s σ H x y v u Q I rx ry (by simpa [rEqD] using h)
theorem o_ne (hu : X.A.units + 64 < cLine) : OpR X (compareOp .NotEq) (zEq X.K true) := by
  intro pins s σ H x y v u Q I rx ry h
  unfold zEq at h
  split at h
  · rename_i e
    exact op_ne pins s σ H x y v u Q I rx ry ⟨e, by simpa using h⟩
  · exact op_neD hu pins s σ H x y v u Q I rx ry (by simpa [rNeD] using h)
/-- is None, is True, is False -/
def zIs (neg : Bool) : R2 := fun x y H Q => match y, x with
  | .non, x => Q (.bl (neg ^^ decide (x = .non))) H
  | .bl b, .bl a => Q (.bl (neg ^^ decide (a = b))) H
  | _, _ => False
theorem o_is : OpR X (compareOp .Is) (zIs false) := by
  intro pins s σ H x y v u Q I rx ry h
  unfold zIs at h
  split at h
  · exact op_isN pins s σ H _ _ v u Q I rx ry ⟨rfl, by simpa using h⟩
  · exact op_is_bl pins s σ H _ _ v u Q I rx ry ⟨_, _, rfl, rfl, by simpa using h⟩
  · exact h.elim
theorem o_isn : OpR X (compareOp .IsNot) (zIs true) := by
  intro pins s σ H x y v u Q I rx ry h
  unfold zIs at h
  split at h
  · exact op_notN pins s σ H _ _ v u Q I rx ry ⟨rfl, by simpa using h⟩
  · exact op_isnot_bl pins s σ H _ _ v u Q I rx ry ⟨_, _, rfl, rfl, by simpa using h⟩
  · exact h.elim
/-- in, not in: a sign in a text, a flat thing in a list or tuple -/
def zIn (K : PySem.W.Frag) (neg : Bool) : R2 := fun x y H Q => match y with
  | .str z => ∃ c : Nat, x = .str ⟨#[c]⟩ ∧ Q (.bl (neg ^^ decide (c ∈ z.cps.toList))) H
  | .ref p => ∃ xs, (SqL K H p xs ∨ SqT K H p xs) ∧ flatV x = true ∧ xs.all flatV = true ∧ Q (.bl (neg ^^ inV x xs)) H
  | _ => False
theorem o_in : OpR X (compareOp .In) (zIn X.K false) := by
  intro pins s σ H x y v u Q I rx ry h
  unfold zIn at h
  split at h
  · obtain ⟨c, rfl, q⟩ := h
    exact op_in_sign pins s σ H _ _ v u Q I rx ry ⟨c, _, rfl, rfl, by simpa using q⟩
  · obtain ⟨xs, h1, h2, h3, q⟩ := h
    exact op_in_seq pins s σ H _ _ v u Q I rx ry ⟨_, xs, rfl, h1, h2, h3, by simpa using q⟩
  · exact h.elim
theorem o_nin : OpR X (compareOp .NotIn) (zIn X.K true) := by
  intro pins s σ H x y v u Q I rx ry h
  unfold zIn at h
  split at h
  · obtain ⟨c, rfl, q⟩ := h
    exact op_notIn_sign pins s σ H _ _ v u Q I rx ry ⟨c, _, rfl, rfl, by simpa using q⟩
  · obtain ⟨xs, h1, h2, h3, q⟩ := h
    exact op_notIn_seq pins s σ H _ _ v u Q I rx ry ⟨_, xs, rfl, h1, h2, h3, by simpa using q⟩
  · exact h.elim

/-! ### items and slices -/
def zIx (K : PySem.W.Frag) : R2 := fun x y H Q => match x, y with
  | .str z, .int i => ∃ c, z.length ≤ sizeLine ∧ atI z.cps.toList i = some c ∧ Q (.str ⟨#[c]⟩) H
  | .ref p, .int i => ∃ xs v, (SqL K H p xs ∨ SqT K H p xs) ∧ atI xs i = some v ∧ Q v H
  | _, _ => False
theorem o_ix : IxR X (zIx X.K) := by
  intro value slice pins s σ H x y v u Q I rx ry h hs
  unfold zIx at h
  split at h
  · obtain ⟨c, h1, h2, q⟩ := h
    exact ix_str value slice pins s σ H _ _ v u Q I rx ry ⟨_, _, c, rfl, rfl, h1, h2, q⟩ hs
  · obtain ⟨xs, z, h1 | h1, h2, q⟩ := h
    · exact ix_list value slice pins s σ H _ _ v u Q I rx ry ⟨_, _, _, z, rfl, rfl, h1, h2, q⟩ hs
    · exact ix_tup value slice pins s σ H _ _ v u Q I rx ry ⟨_, _, _, z, rfl, rfl, h1, h2, q⟩ hs
  · exact h.elim
def zSl (K : PySem.W.Frag) : V → Option Int → Option Int → Hp → VK → Prop := fun x lo hi H Q => match x with
  | .str z => z.length ≤ sizeLine ∧ Q (.str (cutS z lo hi)) H
  | .ref a => (∃ xs, SqL K H a xs ∧ ∀ p H2, Nw H p (.lst (cutV xs lo hi)) H2 → Q (.ref p) H2) ∨
      (∃ xs, SqT K H a xs ∧ (HT.sIx xs.length 0 lo = 0 ∧ HT.sIx xs.length xs.length hi = xs.length → Q (.ref a) H) ∧
        (¬ (HT.sIx xs.length 0 lo = 0 ∧ HT.sIx xs.length xs.length hi = xs.length) → ∀ p H2, Nw H p (.tup (cutV xs lo hi)) H2 → Q (.ref p) H2))
  | _ => False
theorem o_sl : SlR X (zSl X.K) := by
  intro pins s σ H x v vl vu lo hi sl Q I rx hs pl pu h
  unfold zSl at h
  split at h
  · exact sl_str pins s σ H _ v vl vu lo hi sl Q I rx hs pl pu ⟨_, rfl, h.1, h.2⟩
  · rcases h with ⟨xs, h1, q⟩ | ⟨xs, h1, q1, q2⟩
    · exact sl_list pins s σ H _ v vl vu lo hi sl Q I rx hs pl pu ⟨_, xs, rfl, h1, fun p hp => q p _ (nw hp)⟩
    · exact sl_tupA pins s σ H _ v vl vu lo hi sl Q I rx hs pl pu ⟨_, xs, rfl, h1, q1, fun z p hp => q2 z p _ (nw hp)⟩
  · exact h.elim
def tPz (t : TE) : TO := fun σ H Q => t σ H fun x H1 => match x with
  | .int i => Q (some i) H1
  | _ => False
theorem po_z (h : PE X e te) : PO X (some e) (tPz te) := po_w (po_some (pe_mon h)) fun σ H Q h => ⟨_, h, fun x H1 h1 => by
  split at h1
  · exact ⟨_, rfl, h1⟩
  · exact h1.elim⟩

/-! ### displays -/
def tLz (t : TA) : TE := fun σ H Q => t σ H fun xs H1 => xs.length ≤ sizeLine ∧ ∀ p H2, Nw H1 p (.lst xs) H2 → Q (.ref p) H2
def tTz (t : TA) : TE := fun σ H Q => t σ H fun xs H1 => xs.length ≤ sizeLine ∧ ∀ p H2, Nw H1 p (.tup xs) H2 → Q (.ref p) H2
theorem pe_lz {t : TA} (h : PA X es t) : PE X (.List es pos) (tLz t) := pe_w (pe_lst (pa_mon h)) fun σ H Q h => ⟨_, h, fun xs H1 h1 => ⟨h1.1, fun p hp => h1.2 p _ (nw hp)⟩⟩
theorem pe_tz {t : TA} {x1} (h : PA X es t) : PE X (.Tuple es x1 pos) (tTz t) := pe_w (pe_tup (pa_mon h)) fun σ H Q h => ⟨_, h, fun xs H1 h1 => ⟨h1.1, fun p hp => h1.2 p _ (nw hp)⟩⟩

/-! ### calls of built-ins -/
def zLen (K : PySem.W.Frag) : List V → Hp → VK → Prop := fun vs H Q => match vs with
  | [.str z] => z.length ≤ sizeLine ∧ Q (.int z.length) H
  | [.ref p] => (∃ xs, (SqL K H p xs ∨ SqT K H p xs) ∧ Q (.int xs.length) H) ∨ ∃ kvs, H p = some (.dK kvs) ∧ Q (.int kvs.length) H
  | _ => False
theorem c_len : CallR X (.builtin "len") (zLen X.K) := by
  intro pins s σ H xs us Q I r h
  unfold zLen at h
  split at h
  · exact call_len_str pins s σ H _ us Q I r ⟨_, rfl, h.1, h.2⟩
  · rcases h with ⟨xs, h, q⟩ | ⟨kvs, h, q⟩
    · exact call_len_seq pins s σ H _ us Q I r ⟨_, xs, rfl, h, q⟩
    · exact call_lenD pins s σ H _ us Q I r ⟨_, kvs, rfl, h, q⟩
  · exact h.elim
def zInt : List V → Hp → VK → Prop := fun vs H Q => match vs with
  | [.int i] => Q (.int i) H
  | [.bl k] => Q (.int (if k then 1 else 0)) H
  | [.str a] => ∃ n, PySem.intText? a = some n ∧ a.length ≤ 640 ∧ Q (.int n) H
  | _ => False
theorem c_int : CallR X (.type "int") zInt := by
  intro pins s σ H xs us Q I r h
  unfold zInt at h
  split at h
  · exact call_int1 pins s σ H _ us Q I r (.inl ⟨_, rfl, h⟩)
  · exact call_int1 pins s σ H _ us Q I r (.inr ⟨_, rfl, h⟩)
  · obtain ⟨n, h1, h2, q⟩ := h
    exact call_int_str pins s σ H _ us Q I r ⟨_, n, rfl, h1, h2, q⟩
  · exact h.elim
def zStr : List V → Hp → VK → Prop := fun vs H Q => match vs with
  | [.int i] => i.natAbs.log2 < 1920 ∧ Q (.str (toString i)) H
  | _ => False
theorem c_str : CallR X (.type "str") zStr := callr_w call_str_int fun vs H Q h => by
  unfold zStr at h
  split at h
  · exact ⟨_, rfl, h.1, h.2⟩
  · exact h.elim
def zAbs : List V → Hp → VK → Prop := fun vs H Q => match vs with
  | [.int i] => Q (.int (if i < 0 then -i else i)) H
  | _ => False
theorem c_abs : CallR X (.builtin "abs") zAbs := callr_w call_abs fun vs H Q h => by
  unfold zAbs at h
  split at h
  · exact ⟨_, rfl, h⟩
  · exact h.elim
def zMax : List V → Hp → VK → Prop := fun vs H Q => match vs with
  | [.int i, .int j] => Q (.int (if j > i then j else i)) H
  | _ => False
theorem c_max (hc : X.calm = true) : CallR X (.builtin "max") zMax := callr_w (call_max2 hc) fun vs H Q h => by
  unfold zMax at h
  split at h
  · exact ⟨_, _, rfl, h⟩
  · exact h.elim
def zMin : List V → Hp → VK → Prop := fun vs H Q => match vs with
  | [.int i, .int j] => Q (.int (if j < i then j else i)) H
  | _ => False
theorem c_min (hc : X.calm = true) : CallR X (.builtin "min") zMin := callr_w (call_min2 hc) fun vs H Q h => by
  unfold zMin at h
  split at h
  · exact ⟨_, _, rfl, h⟩
  · exact h.elim
def zSum (K : PySem.W.Frag) : List V → Hp → VK → Prop := fun vs H Q => match vs with
  | [.ref p] => ∃ ns : List Int, SqL K H p (ns.map V.int) ∧ Q (.int ns.sum) H
  | _ => False
theorem c_sum (hc : X.calm = true) : CallR X (.builtin "sum") (zSum X.K) := callr_w (cr_sum hc) fun vs H Q h => by
  unfold zSum at h
  split at h
  · obtain ⟨ns, h, q⟩ := h
    exact ⟨_, ns, rfl, h, q⟩
  · exact h.elim
def zAll (K : PySem.W.Frag) : List V → Hp → VK → Prop := fun vs H Q => match vs with
  | [.ref p] => ∃ bs : List Bool, SqL K H p (bs.map V.bl) ∧ Q (.bl (bs.all id)) H
  | _ => False
theorem c_all (hc : X.calm = true) : CallR X (.builtin "all") (zAll X.K) := callr_w (cr_all hc) fun vs H Q h => by
  unfold zAll at h
  split at h
  · obtain ⟨ns, h, q⟩ := h
    exact ⟨_, ns, rfl, h, q⟩
  · exact h.elim
def zList (K : PySem.W.Frag) : List V → Hp → VK → Prop := fun vs H Q => match vs with
  | [.ref p] => ∃ ys, (SqL K H p ys ∨ SqT K H p ys) ∧ ∀ l H2, Nw H l (.lst ys) H2 → Q (.ref l) H2
  | _ => False
theorem c_list : CallR X (.type "list") (zList X.K) := callr_w call_list_of fun vs H Q h => by
  unfold zList at h
  split at h
  · obtain ⟨ys, h, q⟩ := h
    exact ⟨_, ys, rfl, h, fun l hl => q l _ (nw hl)⟩
  · exact h.elim
def zTuple (K : PySem.W.Frag) : List V → Hp → VK → Prop := fun vs H Q => match vs with
  | [.ref p] => ∃ ys, (SqL K H p ys ∧ ∀ l H2, Nw H l (.tup ys) H2 → Q (.ref l) H2) ∨ (SqT K H p ys ∧ Q (.ref p) H)
  | _ => False
theorem c_tuple : CallR X (.type "tuple") (zTuple X.K) := callr_w call_tuple_of fun vs H Q h => by
  unfold zTuple at h
  split at h
  · obtain ⟨ys, ⟨h, q⟩ | ⟨h, q⟩⟩ := h
    · exact ⟨_, ys, rfl, .inl ⟨h, fun l hl => q l _ (nw hl)⟩⟩
    · exact ⟨_, ys, rfl, .inr ⟨h, q⟩⟩
  · exact h.elim

/-! ### isinstance -/
def isK (k T : String) : Bool := k == T || (k == "bool" && T == "int")
/-- a value's kind -/
def KindV (K : PySem.W.Frag) (H : Hp) (x : V) (k : String) : Prop := match x with
  | .non => k = "NoneType"
  | .bl _ => k = "bool"
  | .int _ => k = "int"
  | .str _ => k = "str"
  | .ref p => (k = "list" ∧ ∃ xs, SqL K H p xs) ∨ (k = "tuple" ∧ ∃ xs, SqT K H p xs) ∨ (k = "dict" ∧ ((∃ kvs, H p = some (.dK kvs)) ∨ ∃ kvs, H p = some (.dT kvs)))
  | _ => False
theorem KindV.tyx {K : PySem.W.Frag} {H : Hp} {x : V} {k : String} (h : KindV K H x k) : TyX K H x (.type k) ∧ k ∈ ["NoneType", "bool", "int", "str", "list", "tuple", "dict"] := by
  unfold KindV at h
  split at h
  · subst h; exact ⟨.base .non, by simp⟩
  · subst h; exact ⟨.base (.bl _), by simp⟩
  · subst h; exact ⟨.base (.int _), by simp⟩
  · subst h; exact ⟨.base (.str _), by simp⟩
  · rcases h with ⟨rfl, xs, (h | ⟨o, h⟩) | ⟨o, its, n, h1, h2, _⟩⟩ | ⟨rfl, xs, (h | ⟨o, h⟩) | ⟨o, its, n, h1, h2, _⟩⟩ | ⟨rfl, ⟨kvs, h⟩ | ⟨kvs, h⟩⟩
    · exact ⟨.base (.lst h), by simp⟩
    · exact ⟨.base (.frz h), by simp⟩
    · exact ⟨.kList h1 h2, by simp⟩
    · exact ⟨.base (.tup h), by simp⟩
    · exact ⟨.fTuple h, by simp⟩
    · exact ⟨.kTuple h1 h2, by simp⟩
    · exact ⟨.base (.dK h), by simp⟩
    · exact ⟨.base (.dT h), by simp⟩
  · exact h.elim
theorem kit_isK {K : PySem.W.Frag} {k T : String} (hk : k ∈ ["NoneType", "bool", "int", "str", "list", "tuple", "dict"]) (hT : T ∈ ["bool", "int", "str", "list", "tuple", "dict"]) : PySem.W.kitOne K (.type k) (.type T) = some (isK k T) := by
  refine kit_ty ?_
  have all : (["NoneType", "bool", "int", "str", "list", "tuple", "dict"].all fun k => ["bool", "int", "str", "list", "tuple", "dict"].all fun T => kitB k T == some (isK k T)) = true := by decide +kernel
  have h1 := (List.all_eq_true.mp all) k hk
  have h2 := (List.all_eq_true.mp h1) T hT
  exact eq_of_beq h2
def zIsi (K : PySem.W.Frag) : List V → Hp → VK → Prop := fun vs H Q => match vs with
  | [x, .ty T] => T ∈ ["bool", "int", "str", "list", "tuple", "dict"] ∧ ∃ k, KindV K H x k ∧ Q (.bl (isK k T)) H
  | [x, .ref tp] => ∃ T U k, H tp = some (.tup [.ty T, .ty U]) ∧ T ∈ ["bool", "int", "str", "list", "tuple", "dict"] ∧ U ∈ ["bool", "int", "str", "list", "tuple", "dict"] ∧ KindV K H x k ∧ Q (.bl (isK k T || isK k U)) H
  | _ => False
theorem c_isi : CallR X (.builtin "isinstance") (zIsi X.K) := by
  intro pins s σ H xs us Q I r h
  unfold zIsi at h
  split at h
  · obtain ⟨hT, k, hk, q⟩ := h
    obtain ⟨h1, h2⟩ := hk.tyx
    exact call_isi pins s σ H _ us Q I r ⟨_, _, _, _, _, rfl, .ty _, h1, kit_isK h2 hT, q⟩
  · obtain ⟨T, U, k, hp, hT, hU, hk, q⟩ := h
    obtain ⟨h1, h2⟩ := hk.tyx
    refine call_isiT pins s σ H _ us Q I r ⟨_, _, _, _, _, _, rfl, hp, .cons (.ty T) (.cons (.ty U) .nil), h1, kitAny_cons (b := isK k T) (kit_isK h2 hT) (fun e => ?_) (fun e => ?_), q⟩
    · rw [e, Bool.false_or]
      refine kitAny_cons (kit_isK h2 hU) (fun e2 => ?_) (fun e2 => e2)
      rw [e2]
      rfl
    · rw [e]
      rfl
  · exact h.elim
end

/-! ### methods of built-in types -/
section
variable {X : Cx} {a b e o : Expr} {es : List Expr} {te to : TE} {t : TA} {name : Str} {apos cpos : Pos} {T id : String}
/-- a text's method -/
def tMs (r : Str → List V → Hp → VK → Prop) (to : TE) (t : TA) : TE := fun σ H Q => to σ H fun x H1 => match x with
  | .str a => t σ H1 fun xs H2 => r a xs H2 Q
  | _ => False
def tMs0 (r : Str → Hp → VK → Prop) (to : TE) : TE := fun σ H Q => to σ H fun x H1 => match x with
  | .str a => r a H1 Q
  | _ => False
def ofS (r : Str → List V → Hp → VK → Prop) : V → List V → Hp → VK → Prop := fun x xs H Q => ∃ a, x = .str a ∧ r a xs H Q
theorem pe_ms {r : Str → List V → Hp → VK → Prop} (slot : Slot "str" name id) (hty : typeOf (.builtin id) = pure (.type "method_descriptor")) (hm : MtR X id (ofS r)) (ho : PE X o to) (ha : PA X (e :: es) t)
    (hbase : attributeBase o name X.env (eval o X.env) = eval o X.env := by rfl)
    (hfew : ((backTo cpos (starEach (e :: es) X.env)).all (fun x => !x.1) && (backToKw cpos (keywordEach [] X.env)).all (fun x => x.1.isSome)
      && decide ((e :: es).length + ([] : List Keyword).length + (if ([] : List Keyword).isEmpty then 0 else 1) < 30)) = true := by rfl)
    (hline : (apos.endLine == cpos.line) = true := by rfl) (hs : starEach (e :: es) X.env = (false, eval e X.env) :: starEach es X.env := by rfl) (hplain : (backTo cpos (starEach es X.env)).any (·.1) = false := by rfl) :
    PE X (.Call (.Attribute o name apos) (e :: es) [] cpos) (tMs r to t) :=
  pe_w (pe_bm PySem.F.plainAttrs_str slot hty hm (pe_mon ho) (pa_mon ha) hbase hfew hline hs hplain) fun σ H Q h => ⟨_, h, fun x H1 h1 => by
    split at h1
    · exact ⟨rfl, _, h1, fun xs H2 h2 => ⟨_, rfl, h2⟩⟩
    · exact h1.elim⟩
theorem pe_ms0 {r : Str → Hp → VK → Prop} (slot : Slot "str" name id) (hty : typeOf (.builtin id) = pure (.type "method_descriptor")) (hm : MtR X id (ofS fun a xs H Q => xs = [] ∧ r a H Q)) (ho : PE X o to)
    (hbase : attributeBase o name X.env (eval o X.env) = eval o X.env := by rfl) (hline : (apos.endLine == cpos.line) = true := by rfl) :
    PE X (.Call (.Attribute o name apos) [] [] cpos) (tMs0 r to) :=
  pe_w (pe_bm0 PySem.F.plainAttrs_str slot hty hm (pe_mon ho) hbase hline) fun σ H Q h => ⟨_, h, fun x H1 h1 => by
    split at h1
    · exact ⟨rfl, _, rfl, rfl, h1⟩
    · exact h1.elim⟩
theorem mt_w {id : String} {r r' : V → List V → Hp → VK → Prop} (h : MtR X id r') (i : ∀ x vs H Q, r x vs H Q → r' x vs H Q) : MtR X id r :=
  fun pins s σ H x xs v us Q I rx rs q => h pins s σ H x xs v us Q I rx rs (i x xs H Q q)
def zJoin (K : PySem.W.Frag) : Str → List V → Hp → VK → Prop := fun a xs H Q => match xs with
  | [.ref p] => ∃ ys : List Str, (SqL K H p (ys.map V.str) ∨ SqT K H p (ys.map V.str)) ∧ (ys.map (·.length)).sum + ys.length * a.length ≤ 16777216 ∧ Q (.str (Txt.join a ys)) H
  | _ => False
theorem m_join : MtR X "str.join" (ofS (zJoin X.K)) := mt_w mt_join fun x vs H Q ⟨a, e, h⟩ => by
  unfold zJoin at h
  split at h
  · obtain ⟨ys, h1, h2, q⟩ := h
    exact ⟨a, _, ys, e, rfl, h1, h2, q⟩
  · exact h.elim
def zZfill : Str → List V → Hp → VK → Prop := fun a xs H Q => match xs with
  | [.int i] => PadOk i = true ∧ Q (.str (Txt.zfill a i)) H
  | _ => False
theorem m_zfill : MtR X "str.zfill" (ofS zZfill) := mt_w mt_zfill fun x vs H Q ⟨a, e, h⟩ => by
  unfold zZfill at h
  split at h
  · exact ⟨a, _, e, rfl, h.1, h.2⟩
  · exact h.elim
def zPure (g : Str → V) : Str → Hp → VK → Prop := fun a H Q => Q (g a) H
theorem m0_of {id : String} {g : Str → V} (h : MtR X id (fun x xs H Q => ∃ a, x = .str a ∧ xs = [] ∧ True ∧ Q (g a) H)) : MtR X id (ofS fun a xs H Q => xs = [] ∧ zPure g a H Q) :=
  mt_w h fun x vs H Q ⟨a, e, h1, h2⟩ => ⟨a, e, h1, trivial, h2⟩
theorem m_isascii : MtR X "str.isascii" (ofS fun a xs H Q => xs = [] ∧ zPure (fun a => .bl (Txt.isascii a)) a H Q) := m0_of mt_isascii
theorem m_isprintable : MtR X "str.isprintable" (ofS fun a xs H Q => xs = [] ∧ zPure (fun a => .bl (Txt.isprintable a)) a H Q) := m0_of mt_isprintable
theorem m_islower : MtR X "str.islower" (ofS fun a xs H Q => xs = [] ∧ zPure (fun a => .bl (Txt.islower a)) a H Q) := m0_of mt_islower
theorem m_isalpha : MtR X "str.isalpha" (ofS fun a xs H Q => xs = [] ∧ zPure (fun a => .bl (Txt.isalpha a)) a H Q) := m0_of mt_isalpha
theorem m_isdigit : MtR X "str.isdigit" (ofS fun a xs H Q => xs = [] ∧ zPure (fun a => .bl (Txt.isdigit a)) a H Q) := m0_of mt_isdigit
/-- a list's method -/
def tMl (K : PySem.W.Frag) (r : Addr → List V → Hp → VK → Prop) (to : TE) (t : TA) : TE := fun σ H Q => to σ H fun x H1 => match x with
  | .ref l => (∃ xs, SqL K H1 l xs) ∧ t σ H1 fun xs H2 => r l xs H2 Q
  | _ => False
def ofL (r : Addr → List V → Hp → VK → Prop) : V → List V → Hp → VK → Prop := fun x xs H Q => ∃ a, x = .ref a ∧ r a xs H Q
theorem pe_ml {r : Addr → List V → Hp → VK → Prop} (slot : Slot "list" name id) (hty : typeOf (.builtin id) = pure (.type "method_descriptor")) (hm : MtR X id (ofL r)) (ho : PE X o to) (ha : PA X (e :: es) t)
    (hbase : attributeBase o name X.env (eval o X.env) = eval o X.env := by rfl)
    (hfew : ((backTo cpos (starEach (e :: es) X.env)).all (fun x => !x.1) && (backToKw cpos (keywordEach [] X.env)).all (fun x => x.1.isSome)
      && decide ((e :: es).length + ([] : List Keyword).length + (if ([] : List Keyword).isEmpty then 0 else 1) < 30)) = true := by rfl)
    (hline : (apos.endLine == cpos.line) = true := by rfl) (hs : starEach (e :: es) X.env = (false, eval e X.env) :: starEach es X.env := by rfl) (hplain : (backTo cpos (starEach es X.env)).any (·.1) = false := by rfl) :
    PE X (.Call (.Attribute o name apos) (e :: es) [] cpos) (tMl X.K r to t) :=
  pe_w (pe_bm PySem.F.plainAttrs_list slot hty hm (pe_mon ho) (pa_mon ha) hbase hfew hline hs hplain) fun σ H Q h => ⟨_, h, fun x H1 h1 => by
    split at h1
    · exact ⟨.inl ⟨rfl, h1.1⟩, _, h1.2, fun xs H2 h2 => ⟨_, rfl, h2⟩⟩
    · exact h1.elim⟩
def zApp : Addr → List V → Hp → VK → Prop := fun l ys H Q => match ys with
  | [y] => ∃ xs, H l = some (.lst xs) ∧ xs.length < sizeLine ∧ ∀ H2, Wr H l (.lst (xs ++ [y])) H2 → Q .non H2
  | _ => False
theorem m_append : MtR X "list.append" (ofL zApp) := mt_w mt_append fun x vs H Q ⟨a, e, h⟩ => by
  unfold zApp at h
  split at h
  · obtain ⟨xs, h1, h2, q⟩ := h
    exact ⟨a, xs, _, e, rfl, h1, h2, q _ wr⟩
  · exact h.elim
end

/-! ### targets and statements -/
section
variable {X : Cx} {a b e o i : Expr} {es : List Expr} {te to ti : TE} {pos : Pos}
def zSetL : V → V → V → Hp → (Hp → Prop) → Prop := fun o i v H Q => match o, i with
  | .ref p, .int k => ∃ xs j, H p = some (.lst xs) ∧ ixN xs.length k = some j ∧ ∀ H2, Wr H p (.lst (xs.set j v)) H2 → Q H2
  | _, _ => False
theorem s_list : PSet X zSetL := by
  intro pins s σ H o i v ov iv u Q I ro ri rv h
  unfold zSetL at h
  split at h
  · obtain ⟨xs, j, h1, h2, q⟩ := h
    exact set_list pins s σ H _ _ v ov iv u Q I ro ri rv ⟨_, xs, _, j, rfl, rfl, h1, h2, q _ wr⟩
  · exact h.elim
def gCz (t : TG) (u : TGs) : TGs := fun vs σ H Q => match vs with
  | v :: r => t v σ H fun σ' H' => u r σ' H' Q
  | [] => False
def gNz : TGs := fun vs σ H Q => match vs with
  | [] => Q σ H
  | _ => False
theorem pgs_w {g : List Expr} {t t' : TGs} (h : PGs X g t) (i : ∀ v σ H Q, t' v σ H Q → t v σ H Q) : PGs X g t' := ⟨fun pins s σ H v u Q I r q => h.run pins s σ H v u Q I r (i v σ H Q q)⟩
theorem pgs_nz : PGs X [] gNz := pgs_w pgs_nil fun v σ H Q h => by
  unfold gNz at h
  split at h
  · exact ⟨rfl, h⟩
  · exact h.elim
theorem pgs_cz {t : TG} {u : TGs} (ht : PG X e t) (hu : PGs X es u) (hs : (assignEach (e :: es) X.env).map (·.2) = assign e X.env :: (assignEach es X.env).map (·.2) := by rfl) : PGs X (e :: es) (gCz t u) :=
  pgs_w (pgs_cons ht hu hs) fun v σ H Q h => by
    unfold gCz at h
    split at h
    · exact ⟨_, _, rfl, h⟩
    · exact h.elim
def gTz (K : PySem.W.Frag) (n : Nat) (t : TGs) : TG := fun v σ H Q => match v with
  | .ref a => ∃ xs, SqT K H a xs ∧ xs.length = n ∧ t xs σ H Q
  | _ => False
theorem pg_tz {k : Nat} {t : TGs} {n : Nat} (hc : X.calm = true) (h : PGs X es t) (hn : (assignEach es X.env).length = n := by rfl) (hst : (assignEach es X.env).findIdx? (·.1) = none := by rfl) : PG X (.Tuple es k pos) (gTz X.K n t) :=
  pg_w (pg_tup hc h hn hst) fun v σ H Q h => by
    unfold gTz at h
    split at h
    · obtain ⟨xs, h1, h2, q⟩ := h
      exact ⟨_, xs, rfl, h1, h2, q⟩
    · exact h.elim
def tPrz (i j : Nat) (ta : TA) : TS := fun D σ H => ta σ H fun vs H1 => match vs with
  | [v, w] => D.nx ((σ.set i (some v)).set j (some w)) H1
  | _ => False
theorem ps_parZ {i j : Nat} {x y : Str} {ta : TA} {px py pt : Pos} {kt k2 pt2} (hc : X.calm = true) (hN : X.N.Nodup) (hi : X.N[i]? = some x) (hj : X.N[j]? = some y) (hij : i ≠ j)
    (hx : X.env.scope.names.lookup x = some .local) (hy : X.env.scope.names.lookup y = some .local) (ha : PA X [a, b] ta)
    (hw : swappedStores [.Tuple [.Name x px, .Name y py] kt pt] (.Tuple [a, b] k2 pt2) X.env = pure (some [x, y]))
    (hs : swapsWithSole [.Tuple [.Name x px, .Name y py] kt pt] (.Tuple [a, b] k2 pt2) pos.line X.env = pure false := by rfl) :
    PS X (.Assign [.Tuple [.Name x px, .Name y py] kt pt] (.Tuple [a, b] k2 pt2) pos) (tPrz i j ta) :=
  ps_w (ps_par hc hN hi hj hij hx hy (pa_mon ha) hw hs) fun D σ H h => ⟨_, h, fun vs H1 h1 => by
    split at h1
    · exact ⟨_, _, rfl, h1⟩
    · exact h1.elim⟩
def tRngZ (ta : TA) : TI := fun σ H R => ta σ H fun vs H1 => match vs with
  | [.int j] => -(2 ^ 62) ≤ j ∧ j < 2 ^ 62 ∧ R (Itr 0 j.toNat) H1
  | _ => False
theorem pi_rngZ {tg : Expr} {p : Pos} {ta : TA} (hg : Gl X "range") (hm : X.mg "range" = none) (ha : PA X [a] ta) (hs : starEach [a] X.env = [(false, eval a X.env)] := by rfl) : PI X tg (.Call (.Name "range" p) [a] [] pos) (tRngZ ta) :=
  pi_w (pi_range1 hg hm (pa_mon ha) hs) fun σ H R h => ⟨_, h, fun vs H1 h1 => by
    split at h1
    · exact ⟨_, rfl, h1⟩
    · exact h1.elim⟩
def tItL (K : PySem.W.Frag) (te : TE) : TI := fun σ H R => te σ H fun x H1 => match x with
  | .ref a => (∃ xs, SqL K H1 a xs) ∧ R (Itl K a) H1
  | _ => False
theorem pi_lz {tg : Expr} (h : PE X e te) : PI X tg e (tItL X.K te) := pi_w (pi_list (pe_mon h)) fun σ H R h => ⟨_, h, fun x H1 h1 => by
  split at h1
  · exact ⟨_, rfl, h1.1, h1.2⟩
  · exact h1.elim⟩
def tItT (K : PySem.W.Frag) (te : TE) : TI := fun σ H R => te σ H fun x H1 => match x with
  | .ref a => (∃ xs, SqT K H1 a xs) ∧ R (Itt K a) H1
  | _ => False
theorem pi_tz {tg : Expr} (h : PE X e te) : PI X tg e (tItT X.K te) := pi_w (pi_tup (pe_mon h)) fun σ H R h => ⟨_, h, fun x H1 h1 => by
  split at h1
  · exact ⟨_, rfl, h1.1, h1.2⟩
  · exact h1.elim⟩
def tItS (te : TE) : TI := fun σ H R => te σ H fun x H1 => match x with
  | .str a => R (Its a) H1
  | _ => False
theorem pi_sz {tg : Expr} (h : PE X e te) : PI X tg e (tItS te) := pi_w (pi_str (pe_mon h)) fun σ H R h => ⟨_, h, fun x H1 h1 => by
  split at h1
  · exact ⟨_, rfl, h1⟩
  · exact h1.elim⟩
end

/-! ### defs -/
/-- a def that stands under its name: its contract -/
structure Ct (P : Program) (w : World) (K : PySem.W.Frag) (mg : Str → Option Value) (base : Heap) (CX : CXT) (k : Nat) (x : Str) (ps : List Str) (sp : Sp) : Prop where
  ex : ∃ f fd, mg x = some (.ref f) ∧ PySem.W.keepIn K (.ref f) = true ∧ Binds K fd ps [] ∧ FnOk P w K mg base CX k f fd ps sp ∧ ∃ oc od osl, K.lookup f = some ⟨oc, od, .func fd, osl⟩
/-- a def of the top as it stands -/
structure Df (K : PySem.W.Frag) (mg : Str → Option Value) (x : Str) (st : Stmt) (ps : List Str) : Prop where
  ex : ∃ f fd, Fun K x x st f fd ∧ mg x = some (.ref f) ∧ Binds K fd ps []
def tCl (sp : Sp) (E : XK) (t : TA) : TE := fun σ H Q => t σ H fun vs H1 => sp vs H1 Q E
section
variable {X : Cx} {CX : CXT} {k : Nat} {x : Str} {ps : List Str} {sp : Sp} {E : XK} {p pos : Pos} {e : Expr} {es : List Expr} {t : TA}
theorem pe_cl (C : Ct X.prog X.w X.K X.mg X.base CX k x ps sp) (hr : Room k X.A) (hx : Passes CX X E) (ha : PA X (e :: es) t) (hg : Gl X x := by rfl)
    (hdb : (x == ("__debug__" : Str)) = false := by decide)
    (he : starEach (e :: es) X.env = (false, eval e X.env) :: starEach es X.env := by rfl) (hpl : (backTo pos (starEach es X.env)).any (·.1) = false := by rfl) : PE X (.Call (.Name x p) (e :: es) [] pos) (tCl sp E t) := by
  obtain ⟨f, fd, hm, hk, hb, F, _⟩ := C.ex
  refine pe_w (pe_call F hr hg hm hk hb .nil hx ha hdb he hpl) fun σ H Q h => ?_
  show t σ H fun vs H1 => sp (vs ++ []) H1 Q E
  have e : (fun (vs : List V) (H1 : Hp) => sp (vs ++ []) H1 Q E) = fun vs H1 => sp vs H1 Q E := by
    funext vs H1
    rw [List.append_nil]
  rw [e]
  exact h
theorem pe_cl0 (C : Ct X.prog X.w X.K X.mg X.base CX k x ps sp) (hr : Room k X.A) (hx : Passes CX X E) (hg : Gl X x := by rfl) (hdb : (x == ("__debug__" : Str)) = false := by decide) : PE X (.Call (.Name x p) [] [] pos) (tCl sp E tNil) := by
  obtain ⟨f, fd, hm, hk, hb, F, _⟩ := C.ex
  exact pe_call0 F hr hg hm hk hb .nil hx hdb
end
/-- promises by the parameters -/
def sp1 (p : V → Hp → VK → XK → Prop) : Sp := fun vs H Q E => match vs with
  | [a] => p a H Q E
  | _ => False
def sp2 (p : V → V → Hp → VK → XK → Prop) : Sp := fun vs H Q E => match vs with
  | [a, b] => p a b H Q E
  | _ => False
def sp3 (p : V → V → V → Hp → VK → XK → Prop) : Sp := fun vs H Q E => match vs with
  | [a, b, c] => p a b c H Q E
  | _ => False
def sp4 (p : V → V → V → V → Hp → VK → XK → Prop) : Sp := fun vs H Q E => match vs with
  | [a, b, c, d] => p a b c d H Q E
  | _ => False
theorem sp1_of {p : V → Hp → VK → XK → Prop} {vs : List V} {H : Hp} {Q : VK} {E : XK} (h : sp1 p vs H Q E) : ∃ a, vs = [a] ∧ p a H Q E := by
  unfold sp1 at h
  split at h
  · exact ⟨_, rfl, h⟩
  · exact h.elim
theorem sp2_of {p : V → V → Hp → VK → XK → Prop} {vs : List V} {H : Hp} {Q : VK} {E : XK} (h : sp2 p vs H Q E) : ∃ a b, vs = [a, b] ∧ p a b H Q E := by
  unfold sp2 at h
  split at h
  · exact ⟨_, _, rfl, h⟩
  · exact h.elim
theorem sp3_of {p : V → V → V → Hp → VK → XK → Prop} {vs : List V} {H : Hp} {Q : VK} {E : XK} (h : sp3 p vs H Q E) : ∃ a b c, vs = [a, b, c] ∧ p a b c H Q E := by
  unfold sp3 at h
  split at h
  · exact ⟨_, _, _, rfl, h⟩
  · exact h.elim
theorem sp4_of {p : V → V → V → V → Hp → VK → XK → Prop} {vs : List V} {H : Hp} {Q : VK} {E : XK} (h : sp4 p vs H Q E) : ∃ a b c d, vs = [a, b, c, d] ∧ p a b c d H Q E := by
  unfold sp4 at h
  split at h
  · exact ⟨_, _, _, _, rfl, h⟩
  · exact h.elim
section
variable {P : Program} {w : World} {K : PySem.W.Frag} {mg : Str → Option Value} {base : Heap}
theorem fun_at {x q : Str} {st : Stmt} {f : Addr} {fd : FuncData} (F : Fun K x q st f fd) : ∃ oc od osl, K.lookup f = some ⟨oc, od, .func fd, osl⟩ := by
  obtain ⟨oc, od, _, _, _, _, _, _, osl, _, h, _⟩ := F.ex
  exact ⟨oc, od, osl, h⟩
/-- the same def called by names alone, the names in the order ks: g puts the values in the parameters' order -/
structure CtK (P : Program) (w : World) (K : PySem.W.Frag) (mg : Str → Option Value) (base : Heap) (CX : CXT) (k : Nat) (x : Str) (ps ks : List Str) (g : {α : Type} → List α → List α) (sp : Sp) : Prop where
  ex : ∃ f fd, mg x = some (.ref f) ∧ PySem.W.keepIn K (.ref f) = true ∧ (∀ (s : Shared) (ws : List Value), (g ws).length = ps.length → BindsTo s fd ⟨[], ks.zip ws⟩ (ps.zip (g ws))) ∧
    (∀ {zs : List V} {ws : List Value}, Vals zs ws → Vals (g zs) (g ws)) ∧ FnOk P w K mg base CX k f fd ps sp
theorem Ct.kw {CX : CXT} {k : Nat} {x : Str} {st : Stmt} {ps ks : List Str} {g : {α : Type} → List α → List α} {sp : Sp} (C : Ct P w K mg base CX k x ps sp) (D : Df K mg x st ps)
    (h : ∀ (kV doc pm : Value) (an : Option Addr) (cdv ct : Value) (ws : List Value), (g ws).length = ps.length → bindArgs (PySem.W.fnOf x x (defArgs st) (defBody st) (defScope st) .none kV doc pm an cdv ct) ⟨[], ks.zip ws⟩ = pure (ps.zip (g ws)))
    (hg : ∀ {zs : List V} {ws : List Value}, Vals zs ws → Vals (g zs) (g ws)) : CtK P w K mg base CX k x ps ks g sp := by
  obtain ⟨f, fd, hm, hk, hb, F, oc, od, osl, hl⟩ := C.ex
  obtain ⟨f', fd', F', hm', _⟩ := D.ex
  have e : f = f' := by
    rw [hm] at hm'
    cases hm'
    rfl
  subst e
  obtain ⟨oc', od', kV, doc, pm, an, cdv, ct, osl', rfl, hl', _⟩ := F'.ex
  have e2 : fd = PySem.W.fnOf x x (defArgs st) (defBody st) (defScope st) .none kV doc pm an cdv ct := by
    rw [hl] at hl'
    cases hl'
    rfl
  subst e2
  exact ⟨f, _, hm, hk, fun s ws hlen => .of_eq (h kV doc pm an cdv ct ws hlen), hg, F⟩
/-- f(k = v, ..) -/
def tClK (g : {α : Type} → List α → List α) (sp : Sp) (E : XK) (t : TA) : TE := fun σ H Q => t σ H fun zs H1 => sp (g zs) H1 Q E
theorem pe_clK {X : Cx} {CX : CXT} {k : Nat} {x : Str} {ps ks : List Str} {g : {α : Type} → List α → List α} {sp : Sp} {E : XK} {p pos : Pos} {kws : List Keyword} {t : TA} (C : CtK X.prog X.w X.K X.mg X.base CX k x ps ks g sp) (hr : Room k X.A) (hx : Passes CX X E)
    (hkw : PK X kws t) (hg : Gl X x := by rfl) (hall : (backToKw pos (keywordEach kws X.env)).all (·.1.isSome) = true := by rfl) (hks : (backToKw pos (keywordEach kws X.env)).filterMap (·.1) = ks := by rfl)
    (hdb : (x == ("__debug__" : Str)) = false := by decide)
    (hpl : ((backTo pos (starEach [] X.env)).any (·.1) || (backToKw pos (keywordEach kws X.env)).any (·.1.isNone)) = false := by rfl) :
    PE X (.Call (.Name x p) [] kws pos) (tClK g sp E t) := by
  obtain ⟨f, fd, hm, hk, hb, hrel, F⟩ := C.ex
  refine ⟨fun pins s σ H Q I h => wpAny_Call_Name_kw (ld_glob I hg hm ?_ hdb)⟩
  refine PySem.W.callWith_KW0 (h₀ := X.base) I.ok.mod.kin hk hall (thn (hkw.run pos pins s σ H _ I h) fun ws s1 ⟨zs, H1, I1, rz, q⟩ => ⟨I1.kIn, ?_⟩) hpl
  rw [hks]
  have r2 := hrel rz
  have hl : (g ws).length = ps.length := by
    rw [← r2.length]
    exact F.len _ _ _ _ q
  refine wpAny_call (codeAny_mono (F.run X.A X.stack s1 H1 ⟨[], ks.zip ws⟩ (g ws) (g zs) Q E hr I1.env0 (hb s1 ws hl) r2 q) fun r s' hq => ?_)
  match r, hq with
  | .error e, hq => exact hx pins σ H1 s1 e s' I1 hq
  | .ok (.ret u), hq => exact I1.after hq
  | .ok .next, hq => exact False.elim hq
  | .ok .brk, hq => exact False.elim hq
  | .ok .cont, hq => exact False.elim hq
/-- a def that raises nothing, one parameter -/
theorem ct1 {x : Str} {st : Stmt} {a : Str} {N : List Str} {k : Nat} {p : V → Hp → VK → XK → Prop} (D : Df K mg x st [a]) (S : FnScope N [a] (defScope st))
    (body : ∀ (f : Addr) (cdv : Value) (A : Around) (outer : List Env) (s : Shared) (H : Hp) (u : V) (Q : VK) (E : XK), Room k (A.deeper (envOfC x (defScope st) s.heap.objs.size f cdv)) → p u H Q E →
      ∃ t, PSs (cxOf CX0 P w K mg base N x (defScope st) f cdv A outer s H E).nox (defBody st) t ∧ t { nx := fun _ H' => Q .non H', rt := Q } (start N [u]) H) : Ct P w K mg base CX0 (k + 1) x [a] (sp1 p) := by
  obtain ⟨f, fd, F, hm, hb⟩ := D.ex
  refine ⟨f, fd, hm, F.kp, hb, F.ok S (fun vs H Q E h => ?_) (fun cdv A outer s H vs Q E hr h => ?_), fun_at F⟩
  · obtain ⟨u, rfl, _⟩ := sp1_of h
    rfl
  · obtain ⟨u, rfl, h⟩ := sp1_of h
    exact body f cdv A outer s H u Q E hr h
theorem ct2 {x : Str} {st : Stmt} {a b : Str} {N : List Str} {k : Nat} {p : V → V → Hp → VK → XK → Prop} (D : Df K mg x st [a, b]) (S : FnScope N [a, b] (defScope st))
    (body : ∀ (f : Addr) (cdv : Value) (A : Around) (outer : List Env) (s : Shared) (H : Hp) (u v : V) (Q : VK) (E : XK), Room k (A.deeper (envOfC x (defScope st) s.heap.objs.size f cdv)) → p u v H Q E →
      ∃ t, PSs (cxOf CX0 P w K mg base N x (defScope st) f cdv A outer s H E).nox (defBody st) t ∧ t { nx := fun _ H' => Q .non H', rt := Q } (start N [u, v]) H) : Ct P w K mg base CX0 (k + 1) x [a, b] (sp2 p) := by
  obtain ⟨f, fd, F, hm, hb⟩ := D.ex
  refine ⟨f, fd, hm, F.kp, hb, F.ok S (fun vs H Q E h => ?_) (fun cdv A outer s H vs Q E hr h => ?_), fun_at F⟩
  · obtain ⟨u, v, rfl, _⟩ := sp2_of h
    rfl
  · obtain ⟨u, v, rfl, h⟩ := sp2_of h
    exact body f cdv A outer s H u v Q E hr h
theorem ct3 {x : Str} {st : Stmt} {a b c : Str} {N : List Str} {k : Nat} {p : V → V → V → Hp → VK → XK → Prop} (D : Df K mg x st [a, b, c]) (S : FnScope N [a, b, c] (defScope st))
    (body : ∀ (f : Addr) (cdv : Value) (A : Around) (outer : List Env) (s : Shared) (H : Hp) (u v y : V) (Q : VK) (E : XK), Room k (A.deeper (envOfC x (defScope st) s.heap.objs.size f cdv)) → p u v y H Q E →
      ∃ t, PSs (cxOf CX0 P w K mg base N x (defScope st) f cdv A outer s H E).nox (defBody st) t ∧ t { nx := fun _ H' => Q .non H', rt := Q } (start N [u, v, y]) H) : Ct P w K mg base CX0 (k + 1) x [a, b, c] (sp3 p) := by
  obtain ⟨f, fd, F, hm, hb⟩ := D.ex
  refine ⟨f, fd, hm, F.kp, hb, F.ok S (fun vs H Q E h => ?_) (fun cdv A outer s H vs Q E hr h => ?_), fun_at F⟩
  · obtain ⟨u, v, y, rfl, _⟩ := sp3_of h
    rfl
  · obtain ⟨u, v, y, rfl, h⟩ := sp3_of h
    exact body f cdv A outer s H u v y Q E hr h
theorem ct4 {x : Str} {st : Stmt} {a b c d : Str} {N : List Str} {k : Nat} {p : V → V → V → V → Hp → VK → XK → Prop} (D : Df K mg x st [a, b, c, d]) (S : FnScope N [a, b, c, d] (defScope st))
    (body : ∀ (f : Addr) (cdv : Value) (A : Around) (outer : List Env) (s : Shared) (H : Hp) (u v y z : V) (Q : VK) (E : XK), Room k (A.deeper (envOfC x (defScope st) s.heap.objs.size f cdv)) → p u v y z H Q E →
      ∃ t, PSs (cxOf CX0 P w K mg base N x (defScope st) f cdv A outer s H E).nox (defBody st) t ∧ t { nx := fun _ H' => Q .non H', rt := Q } (start N [u, v, y, z]) H) : Ct P w K mg base CX0 (k + 1) x [a, b, c, d] (sp4 p) := by
  obtain ⟨f, fd, F, hm, hb⟩ := D.ex
  refine ⟨f, fd, hm, F.kp, hb, F.ok S (fun vs H Q E h => ?_) (fun cdv A outer s H vs Q E hr h => ?_), fun_at F⟩
  · obtain ⟨u, v, y, z, rfl, _⟩ := sp4_of h
    rfl
  · obtain ⟨u, v, y, z, rfl, h⟩ := sp4_of h
    exact body f cdv A outer s H u v y z Q E hr h
end

/-! ### loops over known items -/
/-- the iterator J gives these items while S stands -/
structure Wk (J : It) (items : List V) (S : Hp → Prop) : Prop where
  go : ∀ i H, S H → i < items.length → J.go i H
  stop : ∀ H, S H → J.stop items.length H
  yld : ∀ i H x H', S H → i < items.length → J.yld i H x H' → H' = H ∧ items[i]? = some x
theorem wk_list {K : PySem.W.Frag} {a : Addr} (xs : List V) : Wk (Itl K a) xs (fun H => SqL K H a xs) where
  go i H s h := ⟨xs, xs[i], s, by simp [h]⟩
  stop H s := ⟨xs, s, Nat.le_refl _⟩
  yld i H x H' s _ y := ⟨y.1, y.2 xs s⟩
theorem wk_tup {K : PySem.W.Frag} {a : Addr} (xs : List V) : Wk (Itt K a) xs (fun H => SqT K H a xs) where
  go i H s h := ⟨xs, xs[i], s, by simp [h]⟩
  stop H s := ⟨xs, s, Nat.le_refl _⟩
  yld i H x H' s _ y := ⟨y.1, y.2 xs s⟩
def rngV (lo : Int) (n : Nat) : List V := (List.range n).map fun (i : Nat) => V.int (lo + i)
theorem rngV_len (lo : Int) (n : Nat) : (rngV lo n).length = n := by simp [rngV]
theorem rngV_get {lo : Int} {n i : Nat} (h : i < n) : (rngV lo n)[i]? = some (.int (lo + i)) := by
  rw [rngV, List.getElem?_map, List.getElem?_range h]
  rfl
theorem rngV_at {lo : Int} {n i : Nat} {x : V} (h : (rngV lo n)[i]? = some x) : i < n ∧ x = .int (lo + i) := by
  have hi : i < n := by
    have q := (List.getElem?_eq_some_iff.mp h).1
    rw [rngV_len] at q
    exact q
  rw [rngV_get hi] at h
  exact ⟨hi, (Option.some.inj h).symm⟩
theorem wk_rng (lo : Int) (n : Nat) : Wk (Itr lo n) (rngV lo n) (fun _ => True) where
  go i H _ h := by
    rw [rngV_len] at h
    exact h
  stop H _ := by
    show n ≤ (rngV lo n).length
    rw [rngV_len]
    exact Nat.le_refl n
  yld i H x H' s h y := by
    rw [rngV_len] at h
    obtain ⟨y1, y2⟩ := y
    exact ⟨y1, by rw [y2, rngV_get h]⟩
def signV (c : Nat) : V := V.str ⟨#[c]⟩
def signsV (x : Str) : List V := x.cps.toList.map signV
theorem wk_str (x : Str) : Wk (Its x) (signsV x) (fun _ => True) where
  go i H _ h := by
    rw [signsV, List.length_map, Array.length_toList] at h
    exact h
  stop H _ := by
    show x.cps.size ≤ (signsV x).length
    rw [signsV, List.length_map, Array.length_toList]
    exact Nat.le_refl _
  yld i H v H' s h y := by
    obtain ⟨y1, c, y2, y3⟩ := y
    refine ⟨y1, ?_⟩
    rw [signsV, List.getElem?_map, Array.getElem?_toList, y2, y3]
    rfl
/-- for: the invariant by the turn -/
theorem for_w {J : It} {items : List V} {S : Hp → Prop} (wk : Wk J items S) {g : TG} {tb : TS} {D : Ends} {σ : L2.St} {H : Hp} (Pv : Nat → L2.St → Hp → Prop) (h0 : Pv 0 σ H) (hS : ∀ i σ H, Pv i σ H → S H)
    (hs : ∀ i x σ H, items[i]? = some x → Pv i σ H → g x σ H fun σ2 H2 => tb { D with nx := Pv (i + 1), ct := Pv (i + 1), bk := D.nx } σ2 H2) (hd : ∀ σ H, Pv items.length σ H → D.nx σ H) :
    ∃ W : Nat → Nat → L2.St → Hp → Prop, (∃ m, W 0 m σ H) ∧ ∀ i m σ H, W i m σ H →
      (J.stop i H ∧ D.nx σ H) ∨ (J.go i H ∧ ∃ N : L2.St → Hp → Prop, (∀ σ' H', N σ' H' → ∃ m', m' < m ∧ W (i + 1) m' σ' H') ∧ ∀ x H', J.yld i H x H' → g x σ H' fun σ2 H2 => tb { D with nx := N, ct := N, bk := D.nx } σ2 H2) := by
  refine ⟨fun i m σ H => m = items.length - i ∧ i ≤ items.length ∧ Pv i σ H, ⟨_, rfl, Nat.zero_le _, h0⟩, ?_⟩
  rintro i m σ H ⟨rfl, hi, p⟩
  have s := hS i σ H p
  rcases Nat.lt_or_ge i items.length with hlt | hge
  · refine .inr ⟨wk.go i H s hlt, Pv (i + 1), fun σ' H' p' => ⟨items.length - (i + 1), by omega, rfl, hlt, p'⟩, fun x H' y => ?_⟩
    obtain ⟨rfl, hx⟩ := wk.yld i H x H' s hlt y
    exact hs i x σ _ hx p
  · have e : i = items.length := Nat.le_antisymm hi hge
    subst e
    exact .inl ⟨wk.stop H s, hd σ H p⟩

/-! ### comprehensions -/
def monI (t : TI) : TI := fun σ H R => ∃ R0 : It → Hp → Prop, t σ H R0 ∧ ∀ J H1, R0 J H1 → R J H1
def monG (t : TG) : TG := fun v σ H Q => ∃ Q0 : L2.St → Hp → Prop, t v σ H Q0 ∧ ∀ σ1 H1, Q0 σ1 H1 → Q σ1 H1
def monT (t : TT) : TT := fun σ H Q => ∃ Q0 : Bool → Hp → Prop, t σ H Q0 ∧ ∀ b H1, Q0 b H1 → Q b H1
theorem pi_mon {X : Cx} {g e : Expr} {t : TI} (h : PI X g e t) : PI X g e (monI t) := ⟨fun pins s σ H R I ⟨R0, q, i⟩ =>
  thn (h.run pins s σ H R0 I q) fun v s1 h1 => thn h1 fun u s2 ⟨it, fp, tn, J, H', a1, a2, a3, a4, a5, a6⟩ => ⟨it, fp, tn, J, H', a1, a2, a3, a4, a5, i _ _ a6⟩⟩
theorem pg_mon {X : Cx} {g : Expr} {t : TG} (h : PG X g t) : PG X g (monG t) := ⟨fun pins s σ H v u Q I r ⟨Q0, q, i⟩ =>
  thn (h.run pins s σ H v u Q0 I r q) fun _ s1 ⟨σ', H', a, b⟩ => ⟨σ', H', a, i _ _ b⟩⟩
theorem pts_mon {X : Cx} {es : List Expr} {t : TT} (h : PTs X es t) : PTs X es (monT t) := ⟨fun pins s σ H Q I ⟨Q0, q, i⟩ =>
  thn (h.run pins s σ H Q0 I q) fun b s1 ⟨H', a, c⟩ => ⟨H', a, i _ _ c⟩⟩
/-- [te for g in wi if tt]: W by the turn, a measure, the list so far -/
def tLcz (wi : TI) (g : TG) (tt : TT) (te : TE) (vs : List Nat) : TE := fun σ H Q => wi σ H fun J H1 => ∀ D, H1 D = none → ∃ W : Nat → Nat → List V → Hp → Prop, (∃ m, ∀ H2, Nw H1 D (.lst []) H2 → W 0 m [] H2) ∧
  ∀ i m acc H, H D = some (.lst acc) → W i m acc H → (J.stop i H ∧ Q (.ref D) H) ∨
    (acc.length < sizeLine ∧ J.go i H ∧ ∃ Nx : List V → Hp → Prop, (∀ a' H', Nx a' H' → ∃ m', m' < m ∧ W (i + 1) m' a' H') ∧ ∀ x H', J.yld i H x H' → g x (wipe σ vs) H' fun σ2 H2 => wipe σ2 vs = wipe σ vs ∧ tt σ2 H2 fun b H3 =>
      if b = true then te σ2 H3 fun y H4 => H4 D = some (.lst acc) ∧ ∀ H5, Wr H4 D (.lst (acc ++ [y])) H5 → Nx (acc ++ [y]) H5 else H3 D = some (.lst acc) ∧ Nx acc H3)
theorem tLcz_of {wi : TI} {g : TG} {tt : TT} {te : TE} {vs : List Nat} {σ : L2.St} {H : Hp} {Q : VK} (h : tLcz wi g tt te vs σ H Q) : tLc (monI wi) (monG g) (monT tt) (mon te) vs σ H Q := by
  refine ⟨_, h, fun J H1 h1 D hD => ?_⟩
  obtain ⟨W, ⟨m, w0⟩, step⟩ := h1 D hD
  refine ⟨fun i m H => ∃ acc, H D = some (.lst acc) ∧ W i m acc H, ⟨m, [], upd_same, w0 _ (nw hD)⟩, ?_⟩
  rintro i m H ⟨acc, hacc, w⟩
  rcases step i m acc H hacc w with q | ⟨hz, go, Nx, hN, body⟩
  · exact .inl q
  · refine .inr ⟨go, fun H' => ∃ acc, H' D = some (.lst acc) ∧ Nx acc H', fun H' ⟨a', e, n⟩ => ?_, fun x H' y => ?_⟩
    · obtain ⟨m', l, w'⟩ := hN a' H' n
      exact ⟨m', l, a', e, w'⟩
    · refine ⟨_, body x H' y, fun σ2 H2 ⟨e, h2⟩ => ⟨e, _, h2, fun b H3 h3 => ?_⟩⟩
      cases b with
      | true =>
        rw [if_pos rfl] at h3 ⊢
        exact ⟨_, h3, fun z H4 h4 => ⟨acc, h4.1, hz, _, upd_same, h4.2 _ wr⟩⟩
      | false =>
        rw [if_neg Bool.false_ne_true] at h3 ⊢
        exact ⟨acc, h3.1, h3.2⟩
theorem pe_lcz {X : Cx} {elt tg iter : Expr} {ifs : List Expr} {scope : Scope} {own : List (Str × Nat)} {pos : Pos} {wi : TI} {g : TG} {tt : TT} {te : TE} (hc : X.calm = true) (hN : X.N.Nodup) (hi : PI X tg iter wi) (ok : BlkOk X.N X.env.scope scope own)
    (hg : ∀ (s : Shared) (H : Hp) (C : Addr) (cl : List (Str × Addr)) (fp : List Addr), PG (X.blk s H scope (compEnvC scope cl C X.env) fp) tg g) (ht : ∀ (s : Shared) (H : Hp) (C : Addr) (cl : List (Str × Addr)) (fp : List Addr), PTs (X.blk s H scope (compEnvC scope cl C X.env) fp) ifs tt)
    (he : ∀ (s : Shared) (H : Hp) (C : Addr) (cl : List (Str × Addr)) (fp : List Addr), PE (X.blk s H scope (compEnvC scope cl C X.env) fp) elt te) (hs : ∀ x, foldedSetIterable iter X.env x = pure x := by intro _; rfl) :
    PE X (.ListComp elt [⟨tg, iter, ifs, 0⟩] scope pos) (tLcz wi g tt te (own.map (·.2))) :=
  pe_w (pe_lc hc hN (pi_mon hi) ok (fun s H C cl fp => pg_mon (hg s H C cl fp)) (fun s H C cl fp => pts_mon (ht s H C cl fp)) (fun s H C cl fp => pe_mon (he s H C cl fp)) hs) fun σ H Q h => tLcz_of h
theorem ps_setLcz {X : Cx} {i : Nat} {y : Str} {py : Pos} {elt tg iter : Expr} {ifs : List Expr} {scope : Scope} {own : List (Str × Nat)} {pos spos : Pos} {wi : TI} {g : TG} {tt : TT} {te : TE} (hc : X.calm = true) (hN : X.N.Nodup) (hy : X.N[i]? = some y) (hyl : X.env.scope.names.lookup y = some .local)
    (hsw : swapsWith (.ListComp elt [⟨tg, iter, ifs, 0⟩] scope pos) (some (.Name y py)) spos.line X.env = pure true) (hi : PI X tg iter wi) (ok : BlkOk X.N X.env.scope scope own)
    (hg : ∀ (s : Shared) (H : Hp) (C : Addr) (cl : List (Str × Addr)) (fp : List Addr), PG (X.blk s H scope (compEnvC scope cl C X.env) fp) tg g) (ht : ∀ (s : Shared) (H : Hp) (C : Addr) (cl : List (Str × Addr)) (fp : List Addr), PTs (X.blk s H scope (compEnvC scope cl C X.env) fp) ifs tt)
    (he : ∀ (s : Shared) (H : Hp) (C : Addr) (cl : List (Str × Addr)) (fp : List Addr), PE (X.blk s H scope (compEnvC scope cl C X.env) fp) elt te) (hs : ∀ x, foldedSetIterable iter X.env x = pure x := by intro _; rfl) :
    PS X (.Assign [.Name y py] (.ListComp elt [⟨tg, iter, ifs, 0⟩] scope pos) spos) (tAsg (tLcz wi g tt te (own.map (·.2))) (gName i)) :=
  ps_w (ps_setLc hc hN hy hyl hsw (pi_mon hi) ok (fun s H C cl fp => pg_mon (hg s H C cl fp)) (fun s H C cl fp => pts_mon (ht s H C cl fp)) (fun s H C cl fp => pe_mon (he s H C cl fp)) hs) fun D σ H h => tLcz_of h
/-- a comprehension over known items: the invariant by the turn and the list so far -/
theorem lc_w {J : It} {items : List V} {S : Hp → Prop} (wk : Wk J items S) (hz : items.length ≤ 1000000) {g : TG} {tt : TT} {te : TE} {vs : List Nat} {σ : L2.St} {H1 : Hp} {D : Addr} {Qd : Hp → Prop} (Pv : Nat → List V → Hp → Prop) (h0 : ∀ H2, Nw H1 D (.lst []) H2 → Pv 0 [] H2)
    (hS : ∀ i acc H, Pv i acc H → S H) (hL : ∀ i acc H, Pv i acc H → acc.length ≤ i)
    (hs : ∀ i x acc H, items[i]? = some x → H D = some (.lst acc) → Pv i acc H → g x (wipe σ vs) H fun σ2 H2 => wipe σ2 vs = wipe σ vs ∧ tt σ2 H2 fun b H3 =>
      if b = true then te σ2 H3 fun y H4 => H4 D = some (.lst acc) ∧ ∀ H5, Wr H4 D (.lst (acc ++ [y])) H5 → Pv (i + 1) (acc ++ [y]) H5 else H3 D = some (.lst acc) ∧ Pv (i + 1) acc H3)
    (hd : ∀ acc H, acc.length ≤ items.length → H D = some (.lst acc) → Pv items.length acc H → Qd H) :
    ∃ W : Nat → Nat → List V → Hp → Prop, (∃ m, ∀ H2, Nw H1 D (.lst []) H2 → W 0 m [] H2) ∧
  ∀ i m acc H, H D = some (.lst acc) → W i m acc H → (J.stop i H ∧ Qd H) ∨
    (acc.length < sizeLine ∧ J.go i H ∧ ∃ Nx : List V → Hp → Prop, (∀ a' H', Nx a' H' → ∃ m', m' < m ∧ W (i + 1) m' a' H') ∧ ∀ x H', J.yld i H x H' → g x (wipe σ vs) H' fun σ2 H2 => wipe σ2 vs = wipe σ vs ∧ tt σ2 H2 fun b H3 =>
      if b = true then te σ2 H3 fun y H4 => H4 D = some (.lst acc) ∧ ∀ H5, Wr H4 D (.lst (acc ++ [y])) H5 → Nx (acc ++ [y]) H5 else H3 D = some (.lst acc) ∧ Nx acc H3) := by
  have hs1 : 1000000 < sizeLine := by decide
  -- the list is never longer than the turns done
  refine ⟨fun i m acc H => m = items.length - i ∧ i ≤ items.length ∧ Pv i acc H, ⟨items.length, fun H2 n => ⟨by omega, Nat.zero_le _, h0 H2 n⟩⟩, ?_⟩
  rintro i m acc H hacc ⟨rfl, hi, p⟩
  have hl := hL i acc H p
  have s := hS i acc H p
  rcases Nat.lt_or_ge i items.length with hlt | hge
  · refine .inr ⟨by omega, wk.go i H s hlt, Pv (i + 1), fun a' H' p' => ⟨items.length - (i + 1), by omega, rfl, hlt, p'⟩, fun x H' y => ?_⟩
    obtain ⟨rfl, hx⟩ := wk.yld i H x H' s hlt y
    exact hs i x acc _ hx hacc p
  · have e : i = items.length := Nat.le_antisymm hi hge
    subst e
    exact .inl ⟨wk.stop H s, hd acc H hl hacc p⟩

/-! ### constants of the module, permutations -/
theorem pe_gk {X : Cx} {x : Str} {v : V} {pos : Pos} (h : ∃ u, X.mg x = some u ∧ RelV v u) (hg : Gl X x := by rfl) (hd : (x == ("__debug__" : Str)) = false := by decide) : PE X (.Name x pos) (tC v) := by
  obtain ⟨u, hm, r⟩ := h
  exact pe_glob hg hm r hd
def zNeg : V → Hp → VK → Prop := fun x H Q => match x with
  | .int i => Q (.int (-i)) H
  | _ => False
theorem un_negZ {X : Cx} : UnR X (unaryOp .USub) zNeg :=
  fun pins s σ H x v Q I r h => by
    unfold zNeg at h
    split at h
    · exact un_neg pins s σ H _ v Q I r ⟨_, rfl, h⟩
    · exact h.elim
def perm_0 {α : Type} (l : List α) : List α := l
theorem perm_0_ok {zs : List V} {ws : List Value} (r : Vals zs ws) : Vals (perm_0 zs) (perm_0 ws) := r
def perm_1_0 {α : Type} : List α → List α
  | [a, b] => [b, a]
  | _ => []
theorem perm_1_0_ok {zs : List V} {ws : List Value} (r : Vals zs ws) : Vals (perm_1_0 zs) (perm_1_0 ws) := by
  match zs, ws, r with
  | [], [], _ => exact .nil
  | [_], [_], _ => exact .nil
  | [_, _], [_, _], .cons a (.cons b .nil) => exact .cons b (.cons a .nil)
  | _ :: _ :: _ :: _, _ :: _ :: _ :: _, _ => exact .nil

/-! ### the same rules over the written part by its own name (a block's rules must not speak of the block) -/
section
variable {X : Cx} (K : PySem.W.Frag)
theorem k_add (hK : X.K = K := by rfl) : OpR X (binaryOp .Add) (zAdd K) := hK ▸ o_add
theorem k_eq (hu : X.A.units + 64 < cLine) (hK : X.K = K := by rfl) : OpR X (compareOp .Eq) (zEq K false) := hK ▸ o_eq hu
theorem k_ne (hu : X.A.units + 64 < cLine) (hK : X.K = K := by rfl) : OpR X (compareOp .NotEq) (zEq K true) := hK ▸ o_ne hu
theorem k_in (hK : X.K = K := by rfl) : OpR X (compareOp .In) (zIn K false) := hK ▸ o_in
theorem k_nin (hK : X.K = K := by rfl) : OpR X (compareOp .NotIn) (zIn K true) := hK ▸ o_nin
theorem k_ix (hK : X.K = K := by rfl) : IxR X (zIx K) := hK ▸ o_ix
theorem k_sl (hK : X.K = K := by rfl) : SlR X (zSl K) := hK ▸ o_sl
theorem k_len (hK : X.K = K := by rfl) : CallR X (.builtin "len") (zLen K) := hK ▸ c_len
theorem k_sum (hc : X.calm = true) (hK : X.K = K := by rfl) : CallR X (.builtin "sum") (zSum K) := hK ▸ c_sum hc
theorem k_all (hc : X.calm = true) (hK : X.K = K := by rfl) : CallR X (.builtin "all") (zAll K) := hK ▸ c_all hc
theorem k_list (hK : X.K = K := by rfl) : CallR X (.type "list") (zList K) := hK ▸ c_list
theorem k_tuple (hK : X.K = K := by rfl) : CallR X (.type "tuple") (zTuple K) := hK ▸ c_tuple
theorem k_isi (hK : X.K = K := by rfl) : CallR X (.builtin "isinstance") (zIsi K) := hK ▸ c_isi
theorem mk_join (hK : X.K = K := by rfl) : MtR X "str.join" (ofS (zJoin K)) := hK ▸ m_join
theorem pt_trK {a : Expr} {ta : TE} (h : PE X a ta) (hK : X.K = K := by rfl) (he : ∀ whole, isTrue a X.env whole = (do let v ← whole; standAt a.pos; holding [v] (truthy v)) := by intro _; rfl) : PT X a (tTr K ta) := hK ▸ pt_tr h he
theorem pi_lzK {tg e : Expr} {te : TE} (h : PE X e te) (hK : X.K = K := by rfl) : PI X tg e (tItL K te) := hK ▸ pi_lz h
theorem pi_tzK {tg e : Expr} {te : TE} (h : PE X e te) (hK : X.K = K := by rfl) : PI X tg e (tItT K te) := hK ▸ pi_tz h
theorem pg_tzK {es : List Expr} {k : Nat} {pos : Pos} {t : TGs} {n : Nat} (hc : X.calm = true) (h : PGs X es t) (hK : X.K = K := by rfl) (hn : (assignEach es X.env).length = n := by rfl) (hst : (assignEach es X.env).findIdx? (·.1) = none := by rfl) : PG X (.Tuple es k pos) (gTz K n t) :=
  hK ▸ pg_tz hc h hn hst
theorem pe_mlK {e o : Expr} {es : List Expr} {to : TE} {t : TA} {name : Str} {apos cpos : Pos} {id : String} {r : Addr → List V → Hp → VK → Prop} (slot : Slot "list" name id) (hty : typeOf (.builtin id) = pure (.type "method_descriptor")) (hm : MtR X id (ofL r)) (ho : PE X o to) (ha : PA X (e :: es) t)
    (hK : X.K = K := by rfl) (hbase : attributeBase o name X.env (eval o X.env) = eval o X.env := by rfl)
    (hfew : ((backTo cpos (starEach (e :: es) X.env)).all (fun x => !x.1) && (backToKw cpos (keywordEach [] X.env)).all (fun x => x.1.isSome)
      && decide ((e :: es).length + ([] : List Keyword).length + (if ([] : List Keyword).isEmpty then 0 else 1) < 30)) = true := by rfl)
    (hline : (apos.endLine == cpos.line) = true := by rfl) (hs : starEach (e :: es) X.env = (false, eval e X.env) :: starEach es X.env := by rfl) (hplain : (backTo cpos (starEach es X.env)).any (·.1) = false := by rfl) :
    PE X (.Call (.Attribute o name apos) (e :: es) [] cpos) (tMl K r to t) := hK ▸ pe_ml slot hty hm ho ha hbase hfew hline hs hplain
end

/-! ### items at a place -/
theorem atI_some {α : Type} {xs : List α} {r : Int} (h0 : 0 ≤ r) (h : r < (xs.length : Int)) : ∃ v, atI xs r = some v ∧ v ∈ xs ∧ xs[r.toNat]? = some v := by
  have hl : r.toNat < xs.length := by omega
  have q := atI_nat (List.getElem?_eq_getElem hl)
  rw [Int.toNat_of_nonneg h0] at q
  exact ⟨xs[r.toNat], q, List.getElem_mem hl, List.getElem?_eq_getElem hl⟩
/-- an int of a written list -/
theorem menuI (ms : List Int) {r : Int} (h0 : 0 ≤ r) (h : r < (ms.length : Int)) : ∃ v, atI (ms.map V.int) r = some (.int v) ∧ v ∈ ms := by
  obtain ⟨v, h1, h2, _⟩ := atI_some (xs := ms.map V.int) h0 (by rw [List.length_map]; exact h)
  obtain ⟨i, hi, rfl⟩ := List.mem_map.mp h2
  exact ⟨i, h1, hi⟩
theorem iteY {c : Bool} {A B : Prop} (h : c = true) (a : A) : if c = true then A else B := by
  rw [if_pos h]
  exact a
theorem iteN {c : Bool} {A B : Prop} (h : c = false) (b : B) : if c = true then A else B := by
  rw [if_neg (by rw [h]; exact Bool.false_ne_true)]
  exact b
/-- one of two walks -/
def tIor (a b : TI) : TI := fun σ H R => a σ H R ∨ b σ H R
theorem pi_or {X : Cx} {tg e : Expr} {a b : TI} (ha : PI X tg e a) (hb : PI X tg e b) : PI X tg e (tIor a b) := ⟨fun pins s σ H R I h => by
  rcases h with h | h
  · exact ha.run pins s σ H R I h
  · exact hb.run pins s σ H R I h⟩
theorem dT {p : Prop} [Decidable p] (h : decide p = true) : p := of_decide_eq_true h
theorem dF {p : Prop} [Decidable p] (h : ¬ decide p = true) : ¬ p := fun q => h (decide_eq_true q)
theorem signsV_len (x : Str) : (signsV x).length = x.length := by
  rw [signsV, List.length_map, Array.length_toList]
  rfl
theorem signsV_at {x : Str} {i : Nat} {v : V} (h : (signsV x)[i]? = some v) : ∃ c, x.cps.toList[i]? = some c ∧ v = signV c := by
  rw [signsV, List.getElem?_map] at h
  cases e : x.cps.toList[i]? with
  | none => rw [e] at h; cases h
  | some c =>
    rw [e] at h
    exact ⟨c, rfl, (Option.some.inj h).symm⟩

/-! ### the end -/
section
variable {P : Program} {w : World} {K : PySem.W.Frag} {mg : Str → Option Value} {base : Heap}
theorem df_mk {h : Heap} (X : K.In h) (G : h.Ns mainGlobals mg) {x : Str} {st : Stmt} {ps : List Str} {f : Addr} {oc : Value} {od an : Option Addr} {osl : Array (Option Value)} {kV doc pm cdv ct : Value} (a : PySem.W.nsIn K mainGlobals x = some (some (.ref f)))
    (l : K.lookup f = some ⟨oc, od, .func (PySem.W.fnOf x x (defArgs st) (defBody st) (defScope st) .none kV doc pm an cdv ct), osl⟩) (c : PySem.W.codeIn K cdv x = true) (k : PySem.W.keepIn K (.ref f) = true)
    (b : ∀ (kV doc pm : Value) (an : Option Addr) (cdv ct : Value) (us : List Value), us.length = ps.length → bindArgs (PySem.W.fnOf x x (defArgs st) (defBody st) (defScope st) .none kV doc pm an cdv ct) ⟨us, []⟩ = pure (ps.zip us)) : Df K mg x st ps :=
  ⟨f, _, fun_mk l c k, PySem.W.mg_of X G a, (fun_mk l c k).binds b⟩
theorem law_fn {CX : CXT} {k : Nat} {x : Str} {ps : List Str} {sp : Sp} {fa : Addr} {fd : FuncData} {oc : Value} {od : Option Addr} {osl : Array (Option Value)} (C : Ct P w K mg base CX k x ps sp) (hfa : mg x = some (.ref fa))
    (l : K.lookup fa = some ⟨oc, od, .func fd, osl⟩) : FnOk P w K mg base CX k fa fd ps sp := by
  obtain ⟨f, fd', hm, _, _, F, oc', od', osl', hl⟩ := C.ex
  have e : f = fa := by
    rw [hm] at hfa
    cases hfa
    rfl
  subst e
  have e2 : fd' = fd := by
    rw [hl] at l
    cases l
    rfl
  subst e2
  exact F
end
end Z

/-! G: defs that call repr: what the room says of the guards is known. -/
namespace Z
open PySem PySem.Spec PyProof.Rows L2

/-- room, and nothing is being shown -/
structure RoomG (k : Nat) (A : Around) : Prop where
  room : Room k A
  free : A.guards = some []
theorem RoomG.mono {j k : Nat} {A : Around} (r : RoomG k A) (h : j ≤ k) : RoomG j A := ⟨r.room.mono h, r.free⟩
theorem RoomG.down {k : Nat} {A : Around} (r : RoomG (k + 1) A) (env : Env) : RoomG k (A.deeper env) := ⟨r.room.deeper env, r.free⟩
/-- one call of a def, at one place -/
theorem one_call {CX : CXT} {P : Program} {w : World} {K : PySem.W.Frag} {mg : Str → Option Value} {base : Heap} {k : Nat} {x qual : Str} {st : Stmt} {f : Addr} {fd : FuncData} {N ps : List Str} (F : Fun K x qual st f fd) (S : FnScope N ps (defScope st))
    {A : Around} {outer : List Env} {s : Shared} {H : Hp} {args : Args} {us : List Value} {vs : List V} {Q : VK} {E : XK} (hr : Room (k + 1) A) (e0 : Env0 P w K mg base A outer s H) (hb : BindsTo s fd args (ps.zip us)) (r : Vals vs us) (hl : vs.length = ps.length)
    (body : ∀ cdv : Value, ∃ t, PSs (cxOf CX P w K mg base N qual (defScope st) f cdv A outer s H E) (defBody st) t ∧ t { nx := fun _ H' => Q .non H', rt := Q } (start N vs) H) :
    codeAny (model P w) A (.call (.ref f) args) (CR CX outer P w H s Q E) s := by
  obtain ⟨oc, od, kV, doc, pm, an, cdv, ct, osl, e, lk, hcd⟩ := F.ex
  subst e
  obtain ⟨t, ht, hq⟩ := body cdv
  have grow : ∀ b o, base.get? b = some o → s.heap.get? b = some o := fun b o q => (e0.bs b o q).1
  have inK := e0.mod.kin.keeps grow
  have seen : ∀ y ∈ ps.zip us, (defScope st).names.lookup y.1 = some .local ∨ ((defScope st).names.lookup y.1 = some .cell ∧ ((cellsFrom (s.heap.objs.size + 1) (defScope st).names []).lookup y.1).isSome = true) := by
    intro y hy
    exact (S.par y.1 (List.of_mem_zip (a := y.1) (b := y.2) hy).1).imp_right fun q => ⟨q, PySem.W.cellsFrom_some _ _ _ (.inl q)⟩
  apply codeAny_call_function hr.depth (inK _ _ lk) rfl S.co S.gen rfl (PySem.W.codeRec_of inK hcd)
  apply hb
  apply wpAny_newFunctionEnv_cells S.kind seen
  rintro env rfl s1 x1
  refine And.intro ((e0.mod.nolimit.keeps grow).keeps x1.toInCall.keep) (codeAny_func ?_)
  have I := inv_start (CX := CX) (E := E) S hr.hd e0 hl r x1
  refine wpAny_mono (ht.run [] s1 (start N vs) H _ I hq) ?_ (fun _ _ z => z)
  have out : ∀ (s' : Shared) (σ' : L2.St) (H' : Hp) (v : V) (u : Value), Inv (cxOf CX P w K mg base N qual (defScope st) f cdv A outer s H E) [] σ' H' s' → RelV v u → Q v H' → CE outer P w H s Q u s' :=
    fun s' σ' H' v u J rv z => ⟨v, H', J.os, J.bare, J.base, J.hok, rv, z⟩
  intro fl s' hs
  match fl, hs with
  | .ret u, ⟨v, σ', H', J, rv, z⟩ => exact out s' σ' H' v u J rv z
  | .next, ⟨σ', H', J, z⟩ => exact out s' σ' H' .non .none J rfl z
  | .brk, ⟨_, _, _, z⟩ => exact z.elim
  | .cont, ⟨_, _, _, z⟩ => exact z.elim
/-- a def's promise where nothing is being shown -/
structure FnG (P : Program) (w : World) (K : PySem.W.Frag) (mg : Str → Option Value) (base : Heap) (CX : CXT) (k : Nat) (f : Addr) (fd : FuncData) (ps : List Str) (sp : Sp) : Prop where
  many : ∀ vs H Q E, sp vs H Q E → vs.length = ps.length
  call : ∀ (A : Around) (outer : List Env) (s : Shared) (H : Hp) (args : Args) (us : List Value) (vs : List V) (Q : VK) (E : XK), RoomG k A → Env0 P w K mg base A outer s H → BindsTo s fd args (ps.zip us) → Vals vs us → sp vs H Q E →
    codeAny (model P w) A (.call (.ref f) args) (CR CX outer P w H s Q E) s
structure Cg (P : Program) (w : World) (K : PySem.W.Frag) (mg : Str → Option Value) (base : Heap) (CX : CXT) (k : Nat) (x : Str) (ps : List Str) (sp : Sp) : Prop where
  ex : ∃ f fd, mg x = some (.ref f) ∧ PySem.W.keepIn K (.ref f) = true ∧ Binds K fd ps [] ∧ FnG P w K mg base CX k f fd ps sp ∧ ∃ oc od osl, K.lookup f = some ⟨oc, od, .func fd, osl⟩
theorem Ct.g {P : Program} {w : World} {K : PySem.W.Frag} {mg : Str → Option Value} {base : Heap} {CX : CXT} {k : Nat} {x : Str} {ps : List Str} {sp : Sp} (C : Ct P w K mg base CX k x ps sp) : Cg P w K mg base CX k x ps sp := by
  obtain ⟨f, fd, a, b, c, F, d⟩ := C.ex
  exact ⟨f, fd, a, b, c, ⟨F.len, fun A outer s H args us vs Q E r => F.run A outer s H args us vs Q E r.room⟩, d⟩
section
variable {X : Cx} {CX : CXT} {k : Nat} {x : Str} {ps : List Str} {sp : Sp} {E : XK} {p pos : Pos} {e : Expr} {es : List Expr} {t : TA}
/-- the callee runs -/
theorem fng_at {f : Addr} {fd : FuncData} {pins : List (Addr × Obj)} {σ : L2.St} {H : Hp} {s : Shared} {Q : VK} {us : List Value} {vs : List V} (F : FnG X.prog X.w X.K X.mg X.base CX k f fd ps sp) (hr : RoomG k X.A) (hb : Binds X.K fd ps []) (hx : Passes CX X E)
    (I : Inv X pins σ H s) (r : Vals vs us) (h : sp vs H Q E) : wpAny (model X.prog X.w) X.A (call (.ref f) us) (EP X pins σ Q) X.xe s := by
  have hl : us.length = ps.length := r.length.symm.trans (F.many _ _ _ _ h)
  have b := hb s us I.kIn (by simpa using hl)
  rw [List.append_nil] at b
  refine wpAny_call (codeAny_mono (F.call X.A X.stack s H ⟨us, []⟩ us vs Q E hr I.env0 b r h) ?_)
  intro r s' hq
  match r, hq with
  | .error e, hq => exact hx pins σ H s e s' I hq
  | .ok (.ret u), hq => exact I.after hq
  | .ok .next, hq => exact False.elim hq
  | .ok .brk, hq => exact False.elim hq
  | .ok .cont, hq => exact False.elim hq
theorem pe_cg (C : Cg X.prog X.w X.K X.mg X.base CX k x ps sp) (hr : RoomG k X.A) (hx : Passes CX X E) (ha : PA X (e :: es) t) (hg : Gl X x := by rfl)
    (hdb : (x == ("__debug__" : Str)) = false := by decide)
    (he : starEach (e :: es) X.env = (false, eval e X.env) :: starEach es X.env := by rfl) (hpl : (backTo pos (starEach es X.env)).any (·.1) = false := by rfl) : PE X (.Call (.Name x p) (e :: es) [] pos) (tCl sp E t) := by
  obtain ⟨f, fd, hm, hk, hb, F, _⟩ := C.ex
  exact ⟨fun pins s σ H Q I h => wpAny_Call_Name_kw (ld_glob I hg hm (PySem.W.callWith_K (h₀ := X.base) I.ok.mod.kin hk (thn (ha.run pos pins s σ H _ I h) fun us s1 ⟨vs, H1, I1, r, q⟩ => ⟨I1.kIn, fng_at F hr hb hx I1 r q⟩) he hpl) hdb)⟩
end
section
variable {P : Program} {w : World} {K : PySem.W.Frag} {mg : Str → Option Value} {base : Heap}
theorem fng {x : Str} {st : Stmt} {f : Addr} {fd : FuncData} {N ps : List Str} {k : Nat} {sp : Sp} (F : Fun K x x st f fd) (S : FnScope N ps (defScope st)) (len : ∀ vs H Q E, sp vs H Q E → vs.length = ps.length)
    (body : ∀ (cdv : Value) (A : Around) (outer : List Env) (s : Shared) (H : Hp) (vs : List V) (Q : VK) (E : XK), RoomG k (A.deeper (envOfC x (defScope st) s.heap.objs.size f cdv)) → sp vs H Q E →
      ∃ t, PSs (cxOf CX0 P w K mg base N x (defScope st) f cdv A outer s H E).nox (defBody st) t ∧ t { nx := fun _ H' => Q .non H', rt := Q } (start N vs) H) : FnG P w K mg base CX0 (k + 1) f fd ps sp :=
  ⟨len, fun A outer s H args us vs Q E hr e0 hb r h => one_call F S hr.room e0 hb r (len _ _ _ _ h) fun cdv => by
    obtain ⟨t, a, b⟩ := body cdv A outer s H vs Q E (hr.down _) h
    exact ⟨t, a.nox, b⟩⟩
theorem cg0 {x : Str} {st : Stmt} {N : List Str} {k : Nat} {p : Hp → VK → XK → Prop} (D : Df K mg x st []) (S : FnScope N [] (defScope st))
    (body : ∀ (f : Addr) (cdv : Value) (A : Around) (outer : List Env) (s : Shared) (H : Hp) (Q : VK) (E : XK), RoomG k (A.deeper (envOfC x (defScope st) s.heap.objs.size f cdv)) → p H Q E →
      ∃ t, PSs (cxOf CX0 P w K mg base N x (defScope st) f cdv A outer s H E).nox (defBody st) t ∧ t { nx := fun _ H' => Q .non H', rt := Q } (start N []) H) : Cg P w K mg base CX0 (k + 1) x [] (fun vs H Q E => vs = [] ∧ p H Q E) := by
  obtain ⟨f, fd, F, hm, hb⟩ := D.ex
  refine ⟨f, fd, hm, F.kp, hb, fng F S (fun vs H Q E h => by rw [h.1]; rfl) (fun cdv A outer s H vs Q E hr h => ?_), fun_at F⟩
  obtain ⟨rfl, h⟩ := h
  exact body f cdv A outer s H Q E hr h
theorem cg1 {x : Str} {st : Stmt} {a : Str} {N : List Str} {k : Nat} {p : V → Hp → VK → XK → Prop} (D : Df K mg x st [a]) (S : FnScope N [a] (defScope st))
    (body : ∀ (f : Addr) (cdv : Value) (A : Around) (outer : List Env) (s : Shared) (H : Hp) (u : V) (Q : VK) (E : XK), RoomG k (A.deeper (envOfC x (defScope st) s.heap.objs.size f cdv)) → p u H Q E →
      ∃ t, PSs (cxOf CX0 P w K mg base N x (defScope st) f cdv A outer s H E).nox (defBody st) t ∧ t { nx := fun _ H' => Q .non H', rt := Q } (start N [u]) H) : Cg P w K mg base CX0 (k + 1) x [a] (sp1 p) := by
  obtain ⟨f, fd, F, hm, hb⟩ := D.ex
  refine ⟨f, fd, hm, F.kp, hb, fng F S (fun vs H Q E h => ?_) (fun cdv A outer s H vs Q E hr h => ?_), fun_at F⟩
  · obtain ⟨u, rfl, _⟩ := sp1_of h
    rfl
  · obtain ⟨u, rfl, h⟩ := sp1_of h
    exact body f cdv A outer s H u Q E hr h
theorem cg2 {x : Str} {st : Stmt} {a b : Str} {N : List Str} {k : Nat} {p : V → V → Hp → VK → XK → Prop} (D : Df K mg x st [a, b]) (S : FnScope N [a, b] (defScope st))
    (body : ∀ (f : Addr) (cdv : Value) (A : Around) (outer : List Env) (s : Shared) (H : Hp) (u v : V) (Q : VK) (E : XK), RoomG k (A.deeper (envOfC x (defScope st) s.heap.objs.size f cdv)) → p u v H Q E →
      ∃ t, PSs (cxOf CX0 P w K mg base N x (defScope st) f cdv A outer s H E).nox (defBody st) t ∧ t { nx := fun _ H' => Q .non H', rt := Q } (start N [u, v]) H) : Cg P w K mg base CX0 (k + 1) x [a, b] (sp2 p) := by
  obtain ⟨f, fd, F, hm, hb⟩ := D.ex
  refine ⟨f, fd, hm, F.kp, hb, fng F S (fun vs H Q E h => ?_) (fun cdv A outer s H vs Q E hr h => ?_), fun_at F⟩
  · obtain ⟨u, v, rfl, _⟩ := sp2_of h
    rfl
  · obtain ⟨u, v, rfl, h⟩ := sp2_of h
    exact body f cdv A outer s H u v Q E hr h
theorem cg3 {x : Str} {st : Stmt} {a b c : Str} {N : List Str} {k : Nat} {p : V → V → V → Hp → VK → XK → Prop} (D : Df K mg x st [a, b, c]) (S : FnScope N [a, b, c] (defScope st))
    (body : ∀ (f : Addr) (cdv : Value) (A : Around) (outer : List Env) (s : Shared) (H : Hp) (u v v3 : V) (Q : VK) (E : XK), RoomG k (A.deeper (envOfC x (defScope st) s.heap.objs.size f cdv)) → p u v v3 H Q E →
      ∃ t, PSs (cxOf CX0 P w K mg base N x (defScope st) f cdv A outer s H E).nox (defBody st) t ∧ t { nx := fun _ H' => Q .non H', rt := Q } (start N [u, v, v3]) H) : Cg P w K mg base CX0 (k + 1) x [a, b, c] (sp3 p) := by
  obtain ⟨f, fd, F, hm, hb⟩ := D.ex
  refine ⟨f, fd, hm, F.kp, hb, fng F S (fun vs H Q E h => ?_) (fun cdv A outer s H vs Q E hr h => ?_), fun_at F⟩
  · obtain ⟨u, v, v3, rfl, _⟩ := sp3_of h
    rfl
  · obtain ⟨u, v, v3, rfl, h⟩ := sp3_of h
    exact body f cdv A outer s H u v v3 Q E hr h
end
end Z

/-! D: data with dicts, as it stands in the abstract heap; repr. -/
namespace Z
open PySem PySem.Spec PyProof.V PyProof.Rows L2

def keyD : Key → PyData
  | .inl i => .int i
  | .inr x => .str x
mutual
/-- a value as data; g: the lists do not lie where the modules do (what is asked where a dict is shown, too) -/
inductive Dz (g : Bool) (H : Hp) : V → PyData → Prop
  | non : Dz g H .non .none
  | bl (b : Bool) : Dz g H (.bl b) (.bool b)
  | int (i : Int) : Dz g H (.int i) (.int i)
  | str (x : Str) : Dz g H (.str x) (.str x)
  | lst {a : Addr} {xs : List V} {ds : List PyData} : H a = some (.lst xs) → (g = true → a ≠ sysModules) → DzAll g H xs ds → Dz g H (.ref a) (.list ds)
  | tup {a : Addr} {xs : List V} {ds : List PyData} : H a = some (.tup xs) → DzAll g H xs ds → Dz g H (.ref a) (.tuple ds)
  | dic {a : Addr} {kvs : List (Key × V)} {D : List (PyData × PyData)} : H a = some (.dK kvs) → DzKv g H kvs D → Dz g H (.ref a) (.dict D)
inductive DzAll (g : Bool) (H : Hp) : List V → List PyData → Prop
  | nil : DzAll g H [] []
  | cons {v : V} {vs : List V} {d : PyData} {ds : List PyData} : Dz g H v d → DzAll g H vs ds → DzAll g H (v :: vs) (d :: ds)
inductive DzKv (g : Bool) (H : Hp) : List (Key × V) → List (PyData × PyData) → Prop
  | nil : DzKv g H [] []
  | cons {k : Key} {v : V} {kvs : List (Key × V)} {d : PyData} {D : List (PyData × PyData)} : Dz g H v d → DzKv g H kvs D → DzKv g H ((k, v) :: kvs) ((keyD k, d) :: D)
end
mutual
theorem Dz.same {g : Bool} {H H2 : Hp} (s : Same H H2) : ∀ {v : V} {d : PyData}, Dz g H v d → Dz g H2 v d
  | _, _, .non => .non
  | _, _, .bl b => .bl b
  | _, _, .int i => .int i
  | _, _, .str x => .str x
  | _, _, .lst h n a => .lst (s _ _ h) n (DzAll.same s a)
  | _, _, .tup h a => .tup (s _ _ h) (DzAll.same s a)
  | _, _, .dic h a => .dic (s _ _ h) (DzKv.same s a)
theorem DzAll.same {g : Bool} {H H2 : Hp} (s : Same H H2) : ∀ {vs : List V} {ds : List PyData}, DzAll g H vs ds → DzAll g H2 vs ds
  | _, _, .nil => .nil
  | _, _, .cons h t => .cons (Dz.same s h) (DzAll.same s t)
theorem DzKv.same {g : Bool} {H H2 : Hp} (s : Same H H2) : ∀ {kvs : List (Key × V)} {D : List (PyData × PyData)}, DzKv g H kvs D → DzKv g H2 kvs D
  | _, _, .nil => .nil
  | _, _, .cons h t => .cons (Dz.same s h) (DzKv.same s t)
end
theorem key_reads {h : Heap} : ∀ (k : Key) (key : Value), keyIs k key = true → Reads h key (keyD k) [] := fun k key e => by
  rcases keyIs_shape e with ⟨i, t, rfl, rfl⟩ | ⟨x, t, rfl, rfl⟩
  · exact .int i t
  · exact .str x t
section
variable {g : Bool} {X : Cx} {pins : List (Addr × Obj)} {σ : L2.St} {H : Hp} {s : Shared}
mutual
theorem Dz.reads (I : Inv X pins σ H s) : ∀ {v : V} {d : PyData} (u : Value), Dz g H v d → RelV v u → ∃ as, Reads s.heap u d as ∧ (g = true → sysModules ∉ as)
  | _, _, u, .non, r => by
    cases r
    exact ⟨_, .none, fun _ => by simp⟩
  | _, _, u, .bl b, r => by
    cases r
    exact ⟨_, .bool b, fun _ => by simp⟩
  | _, _, u, .int i, r => by
    obtain ⟨t, rfl⟩ := r
    exact ⟨_, .int i t, fun _ => by simp⟩
  | _, _, u, .str x, r => by
    obtain ⟨t, rfl⟩ := r
    exact ⟨_, .str x t, fun _ => by simp⟩
  | _, _, u, .lst h n a, r => by
    cases r
    obtain ⟨_, its, m, rv, e⟩ := I.hok _ _ h
    obtain ⟨as, q, w⟩ := DzAll.reads I its a rv
    exact ⟨_, .list e rfl rfl (by simpa using q), fun e => by simp only [List.mem_cons, not_or]; exact ⟨fun z => n e z.symm, w e⟩⟩
  | _, _, u, .tup h a, r => by
    cases r
    obtain ⟨_, its, rv, o, ho, hc, m, hd⟩ := I.hok _ _ h
    obtain ⟨as, q, w⟩ := DzAll.reads I its a rv
    exact ⟨_, .tuple ho hc hd (by simpa using q), w⟩
  | _, _, u, .dic h a, r => by
    cases r
    obtain ⟨_, n, vs, rv, e⟩ := I.hok _ _ h
    obtain ⟨bs, q, w⟩ := DzKv.reads I vs a rv
    exact ⟨_, reads_dictOf key_reads e q, fun e => by simp only [List.mem_cons, not_or]; exact ⟨fun z => by rw [← z] at n; exact absurd n (by decide), w e⟩⟩
theorem DzAll.reads (I : Inv X pins σ H s) : ∀ {vs : List V} {ds : List PyData} (us : List Value), DzAll g H vs ds → Vals vs us → ∃ as, ReadsAll s.heap us ds as ∧ (g = true → sysModules ∉ as)
  | _, _, us, .nil, r => by
    cases r
    exact ⟨_, .nil, fun _ => by simp⟩
  | _, _, us, .cons h t, r => by
    cases r with
    | cons r1 r2 =>
      obtain ⟨as, q1, w1⟩ := Dz.reads I _ h r1
      obtain ⟨bs, q2, w2⟩ := DzAll.reads I _ t r2
      exact ⟨_, .cons q1 q2, fun e z => (List.mem_append.mp z).elim (w1 e) (w2 e)⟩
theorem DzKv.reads (I : Inv X pins σ H s) : ∀ {kvs : List (Key × V)} {D : List (PyData × PyData)} (vs : List (Key × Value)), DzKv g H kvs D → KV kvs vs → ∃ as, PairsRead s.heap keyD vs D as ∧ (g = true → sysModules ∉ as)
  | _, _, vs, .nil, r => by
    cases r
    exact ⟨_, .nil, fun _ => by simp⟩
  | _, _, vs, .cons h t, r => by
    cases r with
    | @cons _ b _ _ r1 r2 =>
      obtain ⟨k, u⟩ := b
      obtain ⟨rfl, r1⟩ := r1
      obtain ⟨as, q1, w1⟩ := Dz.reads I _ h r1
      obtain ⟨bs, q2, w2⟩ := DzKv.reads I _ t r2
      exact ⟨_, .cons q1 q2, fun e z => (List.mem_append.mp z).elim (w1 e) (w2 e)⟩
end
end
/-- repr(x) of data -/
def zRepr : List V → Hp → VK → Prop := fun vs H Q => match vs with
  | [v] => ∃ g d, Dz g H v d ∧ (d.hasDict = true → g = true) ∧ d.showable = true ∧ d.depth ≤ 60 ∧ d.shown.length ≤ sizeLine ∧ Q (.str d.shown) H
  | _ => False
theorem c_repr {X : Cx} {k : Nat} (hr : RoomG k X.A) : CallR X (.builtin "repr") zRepr := by
  intro pins s σ H xs us Q I r h
  unfold zRepr at h
  split at h
  · obtain ⟨g, d, hd, hg, hs, hp, hz, q⟩ := h
    obtain ⟨u, rfl, ru⟩ := vals1 r
    have un := hr.room.un
    obtain ⟨as, rd, w⟩ := Dz.reads I u hd ru
    have keep : ∀ {t : Nat} {h' : Heap}, (∀ b o, s.heap.get? b = some o → h'.get? b = some o) → ∀ t', EP X pins σ Q (.str d.shown t') { s with heap := h', toks := t } := fun hk t' => ⟨.str d.shown, H, I.kept hk, ⟨_, rfl⟩, q⟩
    cases rd with
    | none => exact PySem.P.repr_of_none ⟨.str _, H, I.tok _, ⟨_, rfl⟩, q⟩
    | bool b => exact PySem.P.repr_of_bool ⟨.str _, H, I.tok _, ⟨_, rfl⟩, by cases b <;> exact q⟩
    | int i t => exact PySem.P.repr_of_int (by simpa [PyData.showable] using hs) ⟨.str _, H, I.tok _, ⟨_, rfl⟩, q⟩
    | str x t => exact PySem.P.repr_of_str ⟨.str _, H, I.tok _, ⟨_, rfl⟩, q⟩ hz
    | list a b c e => exact repr_of_reads' (Reads.list a b c e) hs (fun z => w (hg z)) hr.free (by omega) (fun _ _ z => z) (fun h' u tk hk => keep hk _) hz
    | tuple a b c e => exact repr_of_reads' (Reads.tuple a b c e) hs (fun z => w (hg z)) hr.free (by omega) (fun _ _ z => z) (fun h' u tk hk => keep hk _) hz
    | dict a b c e f => exact repr_of_reads' (Reads.dict a b c e f) hs (fun z => w (hg z)) hr.free (by omega) (fun _ _ z => z) (fun h' u tk hk => keep hk _) hz
  · exact h.elim
/-- a list display, not where the modules are -/
def tLzS (t : TA) : TE := fun σ H Q => t σ H fun xs H1 => xs.length ≤ sizeLine ∧ ∀ p H2, Nw H1 p (.lst xs) H2 → p ≠ sysModules → Q (.ref p) H2
theorem pe_lzS {X : Cx} {es : List Expr} {t : TA} {pos : Pos} (h : PA X es t) : PE X (.List es pos) (tLzS t) := by
  constructor
  intro pins s σ H Q I hq
  refine wpAny_List_spliced (thn (h.run pos pins s σ H _ I hq) ?_)
  rintro us s1 ⟨xs, H1, I1, r, z, q⟩
  have free : H1 s1.heap.objs.size = none := I1.hok.fresh (Nat.le_refl _)
  have far : s1.heap.objs.size ≠ sysModules := Nat.ne_of_gt I1.big
  refine ⟨by rw [← r.length]; exact z, .ref _, _, I1.laid (t' := s1.toks) (o := .lst xs) (fun b u e => Heap.get?_push_of_some _ e) (Nat.le_refl _) ⟨z, us, 0, r, Heap.get?_push_size _ rfl⟩, rfl, q _ _ (nw free) far⟩
end Z

/-! E: the end of a law whose def calls repr. -/
namespace Z
open PySem PySem.Spec PyProof.Rows L2

/-- the script alone is tracked, if the object does not know it -/
def scriptH (K : PySem.W.Frag) (a : Addr) (o : Obj) (ns : List Int) : Hp := fun b => if b = a ∧ (K.lookup a).isNone = true then some (.frz o (.lst (ns.map V.int))) else none
theorem scriptH_at {K : PySem.W.Frag} {a b : Addr} {o : Obj} {ns : List Int} {u : HO} (h : scriptH K a o ns b = some u) : b = a ∧ K.lookup a = none ∧ u = .frz o (.lst (ns.map V.int)) := by
  unfold scriptH at h
  split at h
  · rename_i c
    exact ⟨c.1, Option.isNone_iff_eq_none.mp c.2, (Option.some.inj h).symm⟩
  · cases h
theorem walk_g {l : PySem.W.OpenLaw} {n k : Nat} {q : Program} {loose : List Str} {XP : (Str → Option Value) → Heap → Prop} {YP : World → Heap → Prop} {d : DefRec} {K : Params → PySem.W.Frag} {CX : CXT} {sp : World → Sp} {x : Str}
    (hn : l.most = some n) (hn2 : n ≤ sizeLine) (hdf : d.params.defaults = []) (hr : RoomG k callerA) (hY : ∀ (w : World) (h : Heap), YP w h → (K w.params).In h)
    (F : ∀ (w : World) (mg : Str → Option Value) (fa : Addr) (h : Heap), (K w.params).In h → h.Ns mainGlobals mg → mg d.name = some (.ref fa) →
      ∃ fd : FuncData, (∀ (s : Shared) (u : Value), BindsTo s fd ⟨[u], []⟩ [(x, u)]) ∧ ∀ base : Heap, (K w.params).In base → base.Ns mainGlobals mg → FnG l.prog w (K w.params) mg base CX k fa fd [x] (sp w))
    (hsp : ∀ (w : World) (H : Hp) (a : Addr) (ns : List Int), ns.length ≤ n → SqL (K w.params) H a (ns.map V.int) → sp w [.ref a] H (fun v _ => v = .bl true) fun _ _ _ => False)
    (hCX : ∀ (H : Hp) (s : Shared) (e : Value) (s' : Shared), CX [] H s (fun _ _ _ => False) e s' → False) :
    PySem.W.WalkO q loose XP YP l.row.toRowW d [] (fun f vs => PySem.call f vs) := by
  refine Att.attach_call hn hdf ?_
  intro w s₀ s₁ mg mb fa o pm cd doc a vs ns G Y _ _ _ hmg ha hints hlen hg
  have KX := hY w _ Y
  obtain ⟨fd, hbind, hF⟩ := F w mg fa _ KX G.T.g hmg
  have hspw := hsp w
  generalize K w.params = K at *
  generalize eo : ({ cls := .type "list", data := .seq vs.toArray } : Obj) = obj at ha
  have rv := vals_ints hints
  have lenV := hints.length
  have hS : SqL K (scriptH K a obj ns) a (ns.map V.int) := by
    cases hk : K.lookup a with
    | none => exact .inl (.inr ⟨obj, if_pos ⟨rfl, by rw [hk]; rfl⟩⟩)
    | some o2 =>
      have e2 := KX a o2 hk
      rw [ha] at e2
      cases e2
      subst eo
      exact .inr ⟨_, vs.toArray, _, hk, rfl, rfl, rfl, by rw [List.size_toArray, lenV]; exact Nat.le_trans hlen hn2, by simpa using rv⟩
  have seen : ∀ {b : Addr} {u : Obj}, s₁.heap.get? b = some u → (b = a → K.lookup a = some u ∨ False) → (hidT s₁.heap (scriptH K a obj ns)).get? b = some u := fun {b u} e c => hidT_get e (by
    cases z : scriptH K a obj ns b with
    | none => rfl
    | some v =>
      obtain ⟨e1, e2, _⟩ := scriptH_at z
      rcases c e1 with c | c
      · rw [e2] at c; cases c
      · exact c.elim)
  have inK : K.In (hidT s₁.heap (scriptH K a obj ns)) := fun b u e => seen (KX b u e) fun z => .inl (by rw [← z]; exact e)
  have names : ∀ {b : Addr} {m : Str → Option Value}, s₁.heap.Ns b m → (hidT s₁.heap (scriptH K a obj ns)).Ns b m := fun {b m} ⟨u, es, ep, e, dd, rest⟩ => ⟨u, es, ep, seen e (fun z => by
    subst z
    rw [ha] at e
    cases e
    subst eo
    exact nomatch dd), dd, rest⟩
  obtain ⟨mc, lim1, lim2⟩ := G.T.nolimit
  have world : Env0 l.prog w K mg (hidT s₁.heap (scriptH K a obj ns)) callerA [] s₁ (scriptH K a obj ns) := by
    constructor
    · rfl
    · exact ⟨inK, names G.T.g, ⟨mb, names G.T.b, G.T.builtins⟩, ⟨mc, names lim1, lim2⟩⟩
    · exact fun b u e => of_hidT e
    · exact Nat.le_of_eq (hidT_size _ _)
    · trivial
    · exact fun b z => absurd (show b ∈ ([] : List Addr) from z) List.not_mem_nil
    · intro b u e
      obtain ⟨rfl, _, rfl⟩ := scriptH_at e
      exact ⟨ha, by rw [List.length_map]; exact Nat.le_trans hlen hn2, vs, 0, rv, by rw [ha, ← eo]⟩
    · exact .of_eq hg
  have run := (hF _ inK (names G.T.g)).call callerA [] s₁ (scriptH K a obj ns) ⟨[.ref a], []⟩ [.ref a] [.ref a] (fun v _ => v = .bl true) (fun _ _ _ => False) hr world (hbind s₁ (.ref a)) (.cons rfl .nil) (hspw _ a ns hlen hS)
  refine codeAny_mono run ?_
  intro r s' h
  match r, h with
  | .error e, h => exact (hCX _ _ e s' h).elim
  | .ok .next, h => exact False.elim h
  | .ok .brk, h => exact False.elim h
  | .ok .cont, h => exact False.elim h
  | .ok (.ret u), ⟨v, H', os, bare, un, hok', r', hv⟩ =>
    have hv : v = .bl true := hv
    subst hv
    have r' : u = Value.bool true := r'
    subst r'
    refine ⟨rfl, OldK.of_keep ?_, os, bare⟩
    intro b u e
    cases z : scriptH K a obj ns b with
    | none => exact un.keep b u e z (fun c => absurd (show b ∈ ([] : List Addr) from c) List.not_mem_nil) List.not_mem_nil
    | some v =>
      obtain ⟨rfl, _, rfl⟩ := scriptH_at z
      have e2 := (hok' _ _ (un.frzs _ _ _ z)).1
      rw [ha] at e
      cases e
      exact e2
/-- dict(..) of a list of pairs, of a dict -/
def zDict (K : PySem.W.Frag) : List V → Hp → VK → Prop := fun vs H Q => match vs with
  | [.ref a] => (∃ (ps : List Addr) (kvs : List (Key × V)), SqL K H a (ps.map V.ref) ∧ Paired (fun p kv => SqT K H p [kV kv.1, kv.2]) ps kvs ∧ ∀ p H2, Nw H p (.dK (mergeK [] kvs)) H2 → Q (.ref p) H2) ∨
    ∃ kvs, H a = some (.dK kvs) ∧ ∀ p H2, Nw H p (.dK kvs) H2 → Q (.ref p) H2
  | _ => False
theorem c_dict {X : Cx} (hc : X.calm = true) : CallR X (.type "dict") (zDict X.K) := by
  intro pins s σ H xs us Q I r h
  unfold zDict at h
  split at h
  · rename_i a
    rcases h with ⟨ps, kvs, h1, h2, q⟩ | ⟨kvs, h1, q⟩
    · exact call_dictP hc pins s σ H _ us Q I r ⟨a, ps, kvs, rfl, h1, h2, fun p hp => q p _ (nw hp)⟩
    · obtain ⟨u, rfl, ru⟩ := vals1 r
      cases ru
      exact d_copyOf I (.inl h1) fun p s' hp J => ⟨.ref p, _, J, rfl, q p _ (nw hp)⟩
  · exact h.elim
theorem k_dict {X : Cx} (K : PySem.W.Frag) (hc : X.calm = true) (hK : X.K = K := by rfl) : CallR X (.type "dict") (zDict K) := hK ▸ c_dict hc
theorem law_gn {P : Program} {w : World} {K : PySem.W.Frag} {mg : Str → Option Value} {base : Heap} {CX : CXT} {k : Nat} {x : Str} {ps : List Str} {sp : Sp} {fa : Addr} {fd : FuncData} {oc : Value} {od : Option Addr} {osl : Array (Option Value)} (C : Cg P w K mg base CX k x ps sp) (hfa : mg x = some (.ref fa))
    (l : K.lookup fa = some ⟨oc, od, .func fd, osl⟩) : FnG P w K mg base CX k fa fd ps sp := by
  obtain ⟨f, fd', hm, _, _, F, oc', od', osl', hl⟩ := C.ex
  obtain rfl : f = fa := by
    rw [hm] at hfa
    cases hfa
    rfl
  obtain rfl : fd' = fd := by
    rw [hl] at l
    cases l
    rfl
  exact F
end Z

/-! F: tables of the module with keys of several texts; a tuple with its places; a call of what a name holds; == with a text. -/
namespace Z
open PySem PySem.Spec PyProof.Rows L2

/-! ### a tuple with its places -/
theorem tup_enum (l : Addr) (items : Array Value) (n : Nat) (dd : Option Addr) (sl : Array (Option Value)) :
    Meets (Builtin.«enumerate.__new__» ⟨[.type "enumerate", .ref l], []⟩) (fun _ R s => s.heap.get? l = some { cls := .type "tuple", dict := dd, data := .seq items n, slots := sl } ∧
      R (.ok (.ret (.ref (s.heap.push { cls := .type "tuple_iterator", data := .fields #[.ref l, .int 0 0] }).objs.size)))
        { s with heap := (s.heap.push { cls := .type "tuple_iterator", data := .fields #[.ref l, .int 0 0] }).push { cls := .type "enumerate", data := .fields #[.none, .bool false, .ref s.heap.objs.size, rawInt 0, .none, .none] } }) :=
  .of_wp fun prog w A R s h => by
    obtain ⟨hp, gs, dr, tk, os⟩ := s
    obtain ⟨hl, h⟩ := h
    have sub := sub_enumerate
    have hT : Heap.IsTuple (Shared.heap ⟨hp, gs, dr, tk, os⟩) l items := ⟨_, hl, rfl, n, rfl⟩
    wp_walk using AutoSeq1.wpAny_loadPart' hl
    refine wpAny_stack_any fun st => wpAny_pure ?_
    split
    · rename_i c _ _ _ _ _
      cases (c == Value.type "enumerate")
      · wp_walk using AutoSeq1.wpAny_loadPart' hl, wpAny_pyIter_tuple hT
        exact ⟨_, rfl, h⟩
      · wp_walk using AutoSeq1.wpAny_loadPart' hl, wpAny_pyIter_tuple hT
        exact ⟨_, rfl, h⟩
    · wp_walk using AutoSeq1.wpAny_loadPart' hl, wpAny_pyIter_tuple hT
      exact ⟨_, rfl, h⟩
theorem call_tup_enum {prog : Program} {w : World} {A : Around} {E : Value → Shared → Prop} {s : Shared} {l : Addr} {items : Array Value} {Q : Value → Shared → Prop} (hT : s.heap.IsTuple l items)
    (h : ∀ h', IsEnum h' (s.heap.objs.size + 1) s.heap.objs.size 0 .none → h'.IsTupleIter s.heap.objs.size l 0 → (∀ b o, s.heap.get? b = some o → h'.get? b = some o) → Q (.ref (s.heap.objs.size + 1)) { s with heap := h' }) :
    wpAny (model prog w) A (call (.type "enumerate") [.ref l]) Q E s := by
  obtain ⟨⟨c, dd, dt, sl⟩, hl, hc, n, hd⟩ := hT
  obtain rfl : c = .type "tuple" := hc
  obtain rfl : dt = .seq items n := hd
  refine callType_new F.called_enumerate (by decide) (F.typeCall_enumerate_1 _) (F.newCall_enumerate_1 _) (fun obj => F.args_object_init_2 obj _) F.entry_enumerate_new (tup_enum l items n dd sl) ⟨hl, ?_⟩
  have hz : (s.heap.push { cls := .type "tuple_iterator", data := .fields #[.ref l, .int 0 0] }).objs.size = s.heap.objs.size + 1 := Heap.size_push ..
  show _ ∧ _
  rw [hz]
  have he : IsEnum ((s.heap.push { cls := .type "tuple_iterator", data := .fields #[.ref l, .int 0 0] }).push { cls := .type "enumerate", data := .fields #[.none, .bool false, .ref s.heap.objs.size, rawInt 0, .none, .none] }) (s.heap.objs.size + 1) s.heap.objs.size 0 .none := by
    have q := Heap.get?_push_size (s.heap.push { cls := .type "tuple_iterator", data := .fields #[.ref l, .int 0 0] }) (o := { cls := .type "enumerate", data := .fields #[.none, .bool false, .ref s.heap.objs.size, rawInt 0, .none, .none] }) rfl
    rw [hz] at q
    exact q
  exact ⟨⟨_, he, rfl⟩, h _ he ⟨_, Heap.get?_push_of_some _ (Heap.get?_push_size _ rfl), rfl, rfl⟩ fun b o x => Heap.get?_push_of_some _ (Heap.get?_push_of_some _ x)⟩
theorem drawsT {prog : Program} {w : World} {A : Around} (hh : A.handled = none) (it l : Addr) (ne : l ≠ it) (items : Array Value) :
    Draws prog w A it [it, l] items.size (fun i x => items[i]? = some x) (fun i h => h.IsTupleIter it l i ∧ h.IsTuple l items) where
  live := fun _ _ st => by
    obtain ⟨⟨o, ho, _⟩, _⟩ := st
    exact ⟨o, ho⟩
  frame := fun _ _ h' st hk => by
    obtain ⟨⟨o, ho, r⟩, ⟨o2, ho2, r2⟩⟩ := st
    exact ⟨⟨o, hk it (by simp) o ho, r⟩, ⟨o2, hk l (by simp) o2 ho2, r2⟩⟩
  item := fun i s Q E hi st hQ => by
    refine RZ.nextOf_tuple_item st.1 st.2 (x := items[i]) (by simp [hi]) fun h' it' hs => ?_
    exact hQ _ h' s.toks (by simp [hi]) ⟨it', st.2.extBut hs.extBut ne⟩ hs
  done := fun s Q E st hE => RZ.nextOf_tuple_end hh st.1 st.2 (by simp) hE
/-- the tuple at a as it stands at each turn, each item in a new pair -/
def ItE (K : PySem.W.Frag) (a : Addr) : It :=
  ⟨fun i H => ∃ (xs : List V) (x : V), SqT K H a xs ∧ xs[i]? = some x, fun i H v H' => ∃ T x, v = .ref T ∧ H T = none ∧ H' = upd H T (.tup [.int (i : Nat), x]) ∧ ∀ xs, SqT K H a xs → xs[i]? = some x, fun i H => ∃ xs : List V, SqT K H a xs ∧ xs.length = i⟩
theorem turn_tup {P : Program} {w : World} {K : PySem.W.Frag} {elts : List Expr} {kk : Nat} {tpos : Pos} (a e it : Addr) (nea : e ≠ a) (nit : a ≠ it) :
    Turn P w K (.Tuple elts kk tpos) (ItE K a) [e, it] e (fun i h => (∃ old, IsEnum h e it ((i : Nat) : Int) old) ∧ h.IsTupleIter it a i ∧ e ≠ it) where
  mem := by simp
  obj := fun i h st b hb => by
    obtain ⟨⟨old, he⟩, ⟨o, ho, hc, hd⟩, _⟩ := st
    have z : b = e ∨ b = it := by simpa using hb
    rcases z with rfl | rfl
    · exact ⟨_, he, fun v q => nomatch q⟩
    · exact ⟨o, ho, fun v q => by rw [hd] at q; cases q⟩
  keep := fun i h h' st k => by
    obtain ⟨⟨old, he⟩, ⟨o, ho, r⟩, ne⟩ := st
    exact ⟨⟨old, k e (by simp) _ he⟩, ⟨o, k it (by simp) _ ho, r⟩, ne⟩
  item := by
    intro X hP hw hK hc i pins s σ H E I hf st hg
    subst hP hw hK
    obtain ⟨⟨old, he⟩, hit, hne⟩ := st
    obtain ⟨xs, x, hq, hx⟩ := hg
    obtain ⟨its, rv, p, hz⟩ := I.tuple hq
    obtain ⟨u, hu, ru⟩ := rv.get hx
    have hel : e < s.heap.objs.size := Heap.lt_size he
    have hil : it < s.heap.objs.size := by
      obtain ⟨_, q, _⟩ := hit
      exact Heap.lt_size q
    have hlt : i < its.toArray.size := by
      rw [List.size_toArray]
      exact (List.getElem?_eq_some_iff.mp hu).1
    refine wpAny_pyNext_enum_itemD (drawsT (A := X.A.in1) (I.ok.hd hc) it a nit its.toArray) he ⟨hit, p⟩ hlt hne (by simp [hne, nea]) fun y h' tk hy ho hit' hT hsz hk => ?_
    obtain rfl : u = y := by
      have hy : its.toArray[i]? = some y := hy
      rw [List.getElem?_toArray, hu] at hy
      exact Option.some.inj hy
    refine ⟨_, rfl, wpAny_letOwnedTupleGo_enum (s := { s with heap := h', toks := tk + 1 }) ho fun h'' he' sb => ?_⟩
    have hT2 : h''.get? s.heap.objs.size = some { cls := .type "tuple", data := .seq #[.int i tk, u] } := (sb.2 _ (Nat.ne_of_gt hel)).trans hT
    have new : ObjOk X.prog X.w (upd H s.heap.objs.size (.tup [.int (i : Nat), x])) h'' s.heap.objs.size (.tup [.int (i : Nat), x]) :=
      ⟨by show 2 ≤ sizeLine; decide, [.int i tk, u], .cons ⟨_, rfl⟩ (.cons ru .nil), ⟨_, hT2, rfl, _, rfl⟩⟩
    have I1 : Inv X pins σ (upd H s.heap.objs.size (.tup [.int (i : Nat), x])) { s with heap := h'', toks := tk + 1 } :=
      I.turnedNew (ch := [e, it]) (fun b ob hb q => (sb.2 b (fun z => hb (by simp [z]))).trans (hk b ob (fun z => hb (by simp [z])) (fun z => hb (by simp [z])) q)) hf (Nat.le_refl _) new
    refine ⟨.ref s.heap.objs.size, _, I1, rfl, ⟨_, x, rfl, I.hok.fresh (Nat.le_refl _), rfl, fun ys hy => by rw [I.tuple_inj hy hq]; exact hx⟩, ⟨⟨u, ?_⟩, ?_, hne⟩, fun b hb => ?_⟩
    · have e1 : ((i + 1 : Nat) : Int) = (i : Int) + 1 := by omega
      rw [e1]
      exact he'
    · obtain ⟨o, ho, r⟩ := hit'.1
      exact ⟨o, (sb.2 it (Ne.symm hne)).trans ho, r⟩
    · have hb' : b < s.heap.objs.size := by
        have z : b = e ∨ b = it := by simpa using hb
        rcases z with rfl | rfl
        · exact hel
        · exact hil
      rw [upd_ne (Nat.ne_of_lt hb')]
      exact (hf b hb).1
  done := by
    intro X hP hw hK hc i pins s σ H E I hf st hg
    subst hP hw hK
    obtain ⟨⟨old, he⟩, hit, hne⟩ := st
    obtain ⟨xs, hq, hx⟩ := hg
    obtain ⟨its, rv, p, hz⟩ := I.tuple hq
    obtain ⟨f0, f1, f2, f3, f4, f5⟩ := hf it (by simp)
    have hl := rv.length
    have en : i = its.toArray.size := by rw [List.size_toArray]; omega
    subst en
    exact wpAny_pyNext_enum_endD (drawsT (A := X.A.in1) (I.ok.hd hc) it a nit its.toArray) he ⟨hit, p⟩ fun h' eb => ⟨rfl, I.turned (t' := s.toks) (fun b o hb q => eb b o hb q) f0 f1 f3 f4 f5⟩
  self := fun A i s Q E st h => by
    obtain ⟨⟨_, he⟩, _⟩ := st
    exact wpAny_pyIter_enum he h
def iEnT (K : PySem.W.Frag) (ta : TA) : TI := fun σ H R => ta σ H fun vs H1 => match vs with
  | [.ref a] => ∃ xs, SqT K H1 a xs ∧ R (ItE K a) H1
  | _ => False
theorem pi_enT {X : Cx} {e : Expr} {ta : TA} {p pos tpos : Pos} {elts : List Expr} {kk : Nat} (hg : Gl X "enumerate") (hm : X.mg "enumerate" = none) (ha : PA X [e] ta) (hs : starEach [e] X.env = [(false, eval e X.env)] := by rfl) :
    PI X (.Tuple elts kk tpos) (.Call (.Name "enumerate" p) [e] [] pos) (iEnT X.K ta) := by
  refine ⟨fun pins s σ H R I h => ?_⟩
  refine Call_ (ld_blt I hg hm boot_enumerate (PyProof.Rows.callWith_type1 (thn (ha.run pos pins s σ H _ I h) fun us s1 ⟨vs, H1, I1, r1, q1⟩ => ?_) hs rfl))
  dsimp only at q1
  split at q1
  · rename_i a
    obtain ⟨xs, hq, q⟩ := q1
    obtain ⟨u, rfl, ru⟩ := vals1 r1
    cases ru
    obtain ⟨its, rv, p', hz⟩ := I1.tuple hq
    have hal : a < s1.heap.objs.size := by
      obtain ⟨_, z, _⟩ := p'
      exact Heap.lt_size z
    refine call_tup_enum p' fun h' he hit hk => wpAny_pyIter_enum he ?_
    have I2 : Inv X pins σ H1 { s1 with heap := h' } := I1.kept (t' := s1.toks) hk
    refine ⟨s1.heap.objs.size + 1, [s1.heap.objs.size + 1, s1.heap.objs.size], _, _, H1, rfl, I2, turn_tup a (s1.heap.objs.size + 1) s1.heap.objs.size (Nat.ne_of_gt (Nat.lt_succ_of_lt hal)) (Nat.ne_of_lt hal), ⟨⟨.none, he⟩, hit, Nat.succ_ne_self _⟩, fun b hb => ?_, q⟩
    have z : b = s1.heap.objs.size + 1 ∨ b = s1.heap.objs.size := by simpa using hb
    have hle : s1.heap.objs.size ≤ b := by
      rcases z with rfl | rfl
      · exact Nat.le_succ _
      · exact Nat.le_refl _
    exact I1.fpOk hle (I1.hok.fresh hle)
  · exact q1.elim
theorem pi_enK {X : Cx} (K : PySem.W.Frag) {e : Expr} {ta : TA} {p pos tpos : Pos} {elts : List Expr} {kk : Nat} (hg : Gl X "enumerate") (hm : X.mg "enumerate" = none) (ha : PA X [e] ta) (hK : X.K = K := by rfl) (hs : starEach [e] X.env = [(false, eval e X.env)] := by rfl) :
    PI X (.Tuple elts kk tpos) (.Call (.Name "enumerate" p) [e] [] pos) (iEnT K ta) := hK ▸ pi_enT hg hm ha hs
/-- for over a tuple with its places -/
theorem for_e {K : PySem.W.Frag} {a : Addr} {items : List V} {g : TG} {tb : TS} {D : Ends} {σ : L2.St} {H : Hp} (Pv : Nat → L2.St → Hp → Prop) (h0 : Pv 0 σ H) (hS : ∀ i σ H, Pv i σ H → SqT K H a items)
    (hs : ∀ i x σ H T H2, items[i]? = some x → Pv i σ H → Nw H T (.tup [.int (i : Nat), x]) H2 → g (.ref T) σ H2 fun σ2 H3 => tb { D with nx := Pv (i + 1), ct := Pv (i + 1), bk := D.nx } σ2 H3) (hd : ∀ σ H, Pv items.length σ H → D.nx σ H) :
    ∃ W : Nat → Nat → L2.St → Hp → Prop, (∃ m, W 0 m σ H) ∧ ∀ i m σ H, W i m σ H →
      ((ItE K a).stop i H ∧ D.nx σ H) ∨ ((ItE K a).go i H ∧ ∃ N : L2.St → Hp → Prop, (∀ σ' H', N σ' H' → ∃ m', m' < m ∧ W (i + 1) m' σ' H') ∧ ∀ x H', (ItE K a).yld i H x H' → g x σ H' fun σ2 H2 => tb { D with nx := N, ct := N, bk := D.nx } σ2 H2) := by
  refine ⟨fun i m σ H => m = items.length - i ∧ i ≤ items.length ∧ Pv i σ H, ⟨_, rfl, Nat.zero_le _, h0⟩, ?_⟩
  rintro i m σ H ⟨rfl, hi, p⟩
  have s := hS i σ H p
  rcases Nat.lt_or_ge i items.length with hlt | hge
  · refine .inr ⟨⟨items, items[i], s, by simp [hlt]⟩, Pv (i + 1), fun σ' H' p' => ⟨items.length - (i + 1), by omega, rfl, hlt, p'⟩, fun x H' y => ?_⟩
    obtain ⟨T, x, rfl, hT, rfl, hx⟩ := y
    exact hs i x σ _ T _ (hx _ s) p (nw hT)
  · have e : i = items.length := Nat.le_antisymm hi hge
    subst e
    exact .inl ⟨⟨items, s, rfl⟩, hd σ H p⟩

/-! ### a table of the module -/
/-- at d a dict that stands at the top; its keys are tuples of texts -/
def Tab (K : PySem.W.Frag) (P : Program) (w : World) (d : Addr) (kvs : List (List Key × V)) : Prop :=
  ∃ (es : Array DictEntry) (n : Nat) (xs : List (List Key × Addr × Value)), K.lookup d = some ⟨.type "dict", none, .dict es n, #[]⟩ ∧ (d == sysModules) = false ∧ es.toList = xs.map (entryOfKey (tupleKind (mixKind P w))) ∧
    (∀ x ∈ xs, ∃ (o : Obj) (its : Array Value) (m : Nat), K.lookup x.2.1 = some o ∧ o.cls = .type "tuple" ∧ o.data = .seq its m ∧ ItemsAre (mixKind P w) x.1 its.toList) ∧ (xs.map (·.1)).Nodup ∧ Paired (fun p q => p.1 = q.1 ∧ RelV p.2 q.2.2) kvs xs
theorem tab_val {kvs : List (List Key × V)} {xs : List (List Key × Addr × Value)} (r : Paired (fun p q => p.1 = q.1 ∧ RelV p.2 q.2.2) kvs xs) (k : List Key) : RelO (valV kvs k) ((atKey xs k).map (·.2)) := by
  induction r with
  | nil => exact True.intro
  | @cons p q ps qs h t ih =>
    obtain ⟨h1, h2⟩ := h
    by_cases e : p.1 = k
    · have e' : q.1 = k := h1.symm.trans e
      have b : atKey (q :: qs) k = some q.2 := by simp [atKey, List.find?_cons, e']
      rw [valV_pos e, b]
      exact h2
    · have e' : ¬ q.1 = k := fun z => e (h1.trans z)
      have b : atKey (q :: qs) k = atKey qs k := by simp [atKey, List.find?_cons, e']
      rw [valV_neg e, b]
      exact ih
theorem Tab.at {X : Cx} {pins : List (Addr × Obj)} {σ : L2.St} {H : Hp} {s : Shared} {d : Addr} {kvs : List (List Key × V)} (T : Tab X.K X.prog X.w d kvs) (I : Inv X pins σ H s) :
    (d == sysModules) = false ∧ ∃ xs, Paired (fun p q => p.1 = q.1 ∧ RelV p.2 q.2.2) kvs xs ∧ s.heap.DictOfH (tupleKind (mixKind X.prog X.w)) d xs := by
  obtain ⟨es, n, xs, l, lo, e, ks, nd, r⟩ := T
  refine ⟨lo, xs, r, _, es, n, I.kIn _ _ l, ⟨rfl, rfl, rfl⟩, rfl, e, fun x hx => ?_, nd⟩
  obtain ⟨o, its, m, l2, hc, hd, hi⟩ := ks x hx
  exact ⟨o, its, m, I.kIn _ _ l2, hc, hd, hi⟩
/-- T.get(key, other) -/
def tTGet (d : Addr) (kvs : List (List Key × V)) (ty tx : TE) : TE := fun σ H Q => ty σ H fun y H2 => tx σ H2 fun z H3 => ∃ (b : Addr) (k : List Key), y = .ref b ∧ H3 b = some (.tup (k.map kV)) ∧ Q ((valV kvs k).getD z) H3
theorem pe_tget {X : Cx} {x : Str} {p : Pos} {e f : Expr} {apos cpos : Pos} {ty tx : TE} {d : Addr} {kvs : List (List Key × V)} (hu : X.A.units + 1 < cLine) (hd : X.mg x = some (.ref d)) (T : Tab X.K X.prog X.w d kvs) (he : PE X e ty) (hf : PE X f tx) (m : M2 X (.Name x p) "get" apos e f cpos) (hg : Gl X x := by rfl)
    (hdb : (x == ("__debug__" : Str)) = false := by decide) : PE X (.Call (.Attribute (.Name x p) "get" apos) [e, f] [] cpos) (tTGet d kvs ty tx) := by
  refine ⟨fun pins s σ H Q I h => ?_⟩
  refine wpAny_Call_method m.base m.few m.line PySem.F.plainAttrs_dict PySem.F.slot_dict_get PySem.F.type_dict_get (thn ((pe_gk (X := X) (x := x) (v := .ref d) (pos := p) ⟨_, hd, rfl⟩ hg hdb).run pins s σ H (fun v H1 => v = .ref d ∧ H1 = H) I ⟨rfl, rfl⟩) fun u s1 ⟨v, H1, I1, r1, q1⟩ => ?_)
  obtain ⟨rfl, rfl⟩ := q1
  obtain rfl : u = Value.ref d := r1
  obtain ⟨lo, xs, r, dd⟩ := T.at I1
  obtain ⟨ob, _, _, g1, g2, _⟩ := id dd
  refine ⟨dd.typeIs, fun b q => ?_, ?_⟩
  · cases q
    exact ⟨ob, g1, g2.2.1⟩
  rw [m.trees]
  refine Calls.callWith_builtin rfl (Calls.evalArgs_plain (Calls.spliced_cons (thn (he.run pins s1 σ H1 _ I1 h) fun iv s2 ⟨y, H2, I2, ry, q2⟩ =>
    Calls.spliced_cons (thn (hf.run pins s2 σ H2 _ I2 q2) fun fv s3 ⟨z, H3, I3, rz, q3⟩ => Calls.spliced_nil ?_))))
  obtain ⟨b, k, rfl, hb, q3⟩ := q3
  obtain rfl : iv = Value.ref b := ry
  obtain ⟨lo, xs, r, dd⟩ := T.at I3
  refine call_meetsIn PySem.F.slot_dict_get dd.typeIs PySem.F.entry_dict_get (PySem.F.args_dict_get_3 _ _ _) (meetsH_dict_get_default (tupleKind (mixKind X.prog X.w)) d b lo fv) ⟨tupleKind_room_in1 hu, k, xs, key_of I3.hok hb, dd, _, H3, I3.tok _, ?_, q3⟩
  exact (tab_val r k).getD rz
/-! ### what a local name holds, called -/
def tCallU (i : Nat) (Hd : Addr → Sp → Prop) (t : TA) : TE := fun σ H Q => ∃ f sp, σ[i]? = some (some (.ref f)) ∧ Hd f sp ∧ t σ H fun vs H1 => sp vs H1 Q (fun _ _ _ => False)
theorem pe_callU {X : Cx} {k i : Nat} {x : Str} {p pos : Pos} {e : Expr} {es : List Expr} {t : TA} (Hd : Addr → Sp → Prop) (A : ∀ f sp, Hd f sp → Held X.prog X.w X.K X.mg X.base k f sp) (hr : Room k X.A) (hN : X.N[i]? = some x) (hv : Vis X.env.scope x) (ha : PA X (e :: es) t)
    (hdb : (x == ("__debug__" : Str)) = false := by decide) (hcd : (x == ("__classdict__" : Str)) = false := by decide)
    (he : starEach (e :: es) X.env = (false, eval e X.env) :: starEach es X.env := by rfl) (hpl : (backTo pos (starEach es X.env)).any (·.1) = false := by rfl) : PE X (.Call (.Name x p) (e :: es) [] pos) (tCallU i Hd t) := by
  refine ⟨fun pins s σ H Q I h => ?_⟩
  obtain ⟨f, sp, hs, hH, ht⟩ := h
  obtain ⟨fd, ps, F, hk, hb⟩ := (A f sp hH).ex
  refine (pe_callL (i := i) (f := f) (sp := sp) (dvs := []) (E := fun _ _ _ => False) F hr hN hv hk hb .nil (fun _ _ _ _ _ _ _ z => z.elim) ha hdb hcd he hpl).run pins s σ H Q I ⟨hs, ?_⟩
  have e0 : (fun (vs : List V) (H1 : Hp) => sp (vs ++ []) H1 Q (fun _ _ _ => False)) = fun vs H1 => sp vs H1 Q (fun _ _ _ => False) := by
    funext vs H1
    rw [List.append_nil]
  show t σ H (fun vs H1 => sp (vs ++ []) H1 Q (fun _ _ _ => False))
  rw [e0]
  exact ht
theorem held_of {P : Program} {w : World} {K : PySem.W.Frag} {mg : Str → Option Value} {base : Heap} {j k : Nat} {x : Str} {ps : List Str} {sp sp' : Sp} {f : Addr} (C : Ct P w K mg base CX0 j x ps sp) (hj : j ≤ k) (hm : mg x = some (.ref f))
    (i : ∀ vs H Q E, sp' vs H Q E → sp vs H Q E) : Held P w K mg base k f sp' := by
  obtain ⟨f', fd, hm', hk, hb, F, _⟩ := C.ex
  rw [hm] at hm'
  cases hm'
  exact ⟨fd, ps, (F.mono hj).imp i, hk, hb⟩

/-! ### == with a text -/
theorem dict_not_str (l : Addr) (es : Array DictEntry) (n : Nat) (dd : Option Addr) (sl : Array (Option Value)) (b : Str) (u : Tok) :
    Meets (Builtin.«dict.__eq__» ⟨[.ref l, .str b u], []⟩) (fun _ R s => s.heap.get? l = some { cls := .type "dict", dict := dd, data := .dict es n, slots := sl } ∧ R (.ok (.ret .notImplemented)) s) :=
  .of_wp fun prog w A R s h => by
    obtain ⟨hp, gs, dr, tk, os⟩ := s
    obtain ⟨hl, h⟩ := h
    have f1 := F.sub_str_dict
    wp_walk using AutoSeq1.wpAny_loadPart' hl
    exact ⟨_, rfl, h⟩
theorem str_not_dict (l : Addr) (es : Array DictEntry) (n : Nat) (dd : Option Addr) (sl : Array (Option Value)) (b : Str) (u : Tok) :
    Meets (Builtin.«str.__eq__» ⟨[.str b u, .ref l], []⟩) (fun _ R s => s.heap.get? l = some { cls := .type "dict", dict := dd, data := .dict es n, slots := sl } ∧ R (.ok (.ret .notImplemented)) s) :=
  .of_wp fun prog w A R s h => by
    obtain ⟨hp, gs, dr, tk, os⟩ := s
    obtain ⟨hl, h⟩ := h
    wp_walk using AutoSeq1.wpAny_loadPart' hl, wpAny_load hl
    exact ⟨_, rfl, h⟩
theorem rc_dict_str {A : Around} {s : Shared} {l : Addr} {es : Array DictEntry} {n : Nat} {dd : Option Addr} {sl : Array (Option Value)} (b : Str) (u : Tok) (ho : s.heap.get? l = some { cls := .type "dict", dict := dd, data := .dict es n, slots := sl }) (hu : A.units < cLine) : SeqAt.RcAt A s (.ref l) (.str b u) false := fun prog w E Q h =>
  SeqAt.rc_eq_decline_or (k := false) ⟨_, ho, rfl⟩ (typeIs_str s b u) (by decide) F.sub_str_dict F.slot_dict_eq F.slot_str_eq_refl
    (fun _ hq => call_meets F.slot_dict_eq ⟨_, ho, rfl⟩ F.entry_dict_eq (F.args_dict_eq_2 _ _) (dict_not_str l es n dd sl b u) ⟨ho, hq⟩)
    (fun _ hq => call_meets F.slot_str_eq_refl (typeIs_str s b u) F.entry_str_eq (F.args_str_eq_2 _ _) (str_not_dict l es n dd sl b u) ⟨ho, hq⟩)
    (fun _ hq => wpAny_of_eq (rfl : isSame (.ref l) (.str b u) = pure false) hq) (.inr hu) h
def zEqT (K : PySem.W.Frag) : R2 := fun x y H Q => match x, y with
  | .ref a, .str _ => ((∃ xs, SqL K H a xs) ∨ (∃ xs, SqT K H a xs) ∨ ∃ kvs, H a = some (.dK kvs)) ∧ Q (.bl false) H
  | x, y => zEq K false x y H Q
theorem o_eqT {X : Cx} (hu : X.A.units + 64 < cLine) : OpR X (compareOp .Eq) (zEqT X.K) := by
  intro pins s σ H x y v u Q I rx ry h
  unfold zEqT at h
  split at h
  · rename_i a z
    obtain ⟨c, q⟩ := h
    cases rx
    obtain ⟨t, rfl⟩ := ry
    have un : X.A.units < cLine := by omega
    have fin : EP X pins σ Q (.bool false) s := ⟨.bl false, H, I, rfl, q⟩
    rcases c with ⟨xs, c⟩ | ⟨xs, c⟩ | ⟨kvs, c⟩
    · obtain ⟨its, rv, p, _⟩ := I.list c
      exact SeqAt.RcAt.list_str z t p.isList un _ _ _ _ fin
    · obtain ⟨its, rv, p, _⟩ := I.tuple c
      exact SeqAt.RcAt.tuple_str z t p un _ _ _ _ fin
    · obtain ⟨_, _, vs, _, dd⟩ := dk_of I.hok c
      obtain ⟨⟨c1, c2, c3, c4⟩, es, ep, h1, ⟨h2, h3, h4⟩, h5, _⟩ := dd
      obtain rfl : c1 = .type "dict" := h2
      obtain rfl : c3 = .dict es ep := h5
      exact rc_dict_str z t h1 un _ _ _ _ fin
  · exact o_eq hu pins s σ H _ _ v u Q I rx ry h
theorem k_eqT {X : Cx} (K : PySem.W.Frag) (hu : X.A.units + 64 < cLine) (hK : X.K = K := by rfl) : OpR X (compareOp .Eq) (zEqT K) := hK ▸ o_eqT hu
/-! ### == with nothing -/
def zEqE (K : PySem.W.Frag) : R2 := fun x y H Q => match x, y with
  | .ref a, .ref b => (∃ xs, H a = some (.lst xs) ∧ H b = some (.lst []) ∧ Q (.bl xs.isEmpty) H) ∨ ∃ xs, SqT K H a xs ∧ SqT K H b [] ∧ Q (.bl xs.isEmpty) H
  | _, _ => False
theorem o_eqE {X : Cx} (hu : X.A.units + 64 < cLine) : OpR X (compareOp .Eq) (zEqE X.K) := by
  intro pins s σ H x y v u Q I rx ry h
  have un : X.A.units < cLine := by omega
  unfold zEqE at h
  split at h
  · rename_i a b
    cases rx
    cases ry
    rcases h with ⟨xs, h1, h2, q⟩ | ⟨xs, h1, h2, q⟩
    · cases xs with
      | nil => exact op_eqD hu pins s σ H (.ref a) (.ref b) _ _ Q I rfl rfl ⟨_, _, .lst (SqL.of h1) .nil, .lst (SqL.of h2) .nil, rfl, rfl, q⟩
      | cons x xs =>
        obtain ⟨_, its, n, r1, e1⟩ := I.hok _ _ h1
        obtain ⟨_, its2, n2, r2, e2⟩ := I.hok _ _ h2
        cases r2
        cases r1 with
        | cons z zs => exact P.eq_list_lengths e1 e2 (by simp) un ⟨.bl false, H, I, rfl, q⟩
    · obtain ⟨its, r1, ⟨⟨c1, d1, t1, s1⟩, g1, gc1, n1, gd1⟩, _⟩ := I.tuple h1
      obtain ⟨its2, r2, ⟨⟨c2, d2, t2, s2⟩, g2, gc2, n2, gd2⟩, _⟩ := I.tuple h2
      obtain rfl : c1 = .type "tuple" := gc1
      obtain rfl : c2 = .type "tuple" := gc2
      obtain rfl : t1 = .seq its.toArray n1 := gd1
      obtain rfl : t2 = .seq its2.toArray n2 := gd2
      have l2 : its2 = [] := List.eq_nil_of_length_eq_zero r2.length.symm
      subst l2
      have l1 := r1.length
      have e : ((List.range (min its.toArray.size ([] : List Value).toArray.size)).all (fun _ => true) && its.toArray.size == ([] : List Value).toArray.size) = xs.isEmpty := by
        cases xs with
        | nil =>
          have : its = [] := List.eq_nil_of_length_eq_zero l1.symm
          subst this
          rfl
        | cons x xs =>
          cases its with
          | nil => cases l1
          | cons z zs => simp
      refine richCompare_meets_room (op := .Eq) ⟨_, g1, rfl⟩ ⟨_, g2, rfl⟩ F.slot_tuple_eq F.entry_tuple_eq (F.args_tuple_eq_2 _ _) (SeqAt.tuple_eqAt a b its.toArray #[] n1 n2 d1 d2 s1 s2 (fun _ => true)) ⟨g1, g2, fun j z1 z2 => absurd z2 (by simp), ?_⟩ un
      rw [e]
      exact ⟨(fun x => nomatch x), .bl xs.isEmpty, H, I, rfl, q⟩
  · exact h.elim
theorem k_eqE {X : Cx} (K : PySem.W.Frag) (hu : X.A.units + 64 < cLine) (hK : X.K = K := by rfl) : OpR X (compareOp .Eq) (zEqE K) := hK ▸ o_eqE hu
end Z

/-! X: own errors over an own class over Exception. -/
namespace Z
open PySem PySem.Spec PyProof.Rows L2

abbrev tailE : List Value := [.type "Exception", .type "BaseException", .type "object"]
/-- the classes of an error: its own, the package's, Exception's -/
def mroE (C B : Addr) : List Value := .ref C :: .ref B :: tailE
theorem mroE_has (C B : Addr) (Y : String) : (mroE C B).contains (.type Y) = tailE.contains (.type Y) := by
  unfold mroE
  rw [List.contains_cons, List.contains_cons]
  rfl
theorem mroE_pass (C B : Addr) (self : Value) : refuseLoop self "__setattr__" (mroE C B) = pure () := by
  unfold mroE
  rw [refuseLoop_ref, refuseLoop_ref]
  exact PySem.F.store_Exception.passes self
/-- what the written part says of an error's class -/
structure ErrC (K : PySem.W.Frag) (C B : Addr) : Prop where
  cls : ∃ nm q N bs sn sub ab col dd k0 k1 k2 k3 k5, K.lookup C = some (excClassObj nm q C N bs (.ref B :: tailE) true sn sub ab col dd k0 k1 k2 k3 k5 "Exception.__new__")
  sa : PySem.W.findIn K (.ref C) "__setattr__" = some (some (.builtin "object.__setattr__"))
  exC : PySem.W.subIn K (.ref C) (.type "BaseException") = some true
  tyC : PySem.W.typeIn K (.ref C) = some (.type "type")
  kC : PySem.W.keepIn K (.ref C) = true
section
open PySem.W PySem.Calls PySem.HandSPX Builtin Builtin.ObjectAttr
variable {prog : Program} {w : World} {A : Around} {R : Result → Shared → Prop} {hp : Heap} {g : Array GenState} {d : Drawn} {t : Nat} {os : OsState}
/-- the first field of an error -/
theorem first_field {K : PySem.W.Frag} {nm : Str} {tk : Tok} {v : Value} {x C B : Addr} {fv : Array Value} {cd : ClassData} (inK : K.In hp) (here : hp.get? x = some { cls := .ref C, data := .fields fv }) (kd : PySem.W.clsIn K C = some cd) (mro : cd.mro = mroE C B) (has : cd.hasDict = true)
    (own : PySem.W.findIn K (.ref C) nm = some none)
    (done : ∀ h' tk' dx, (∀ b o, b ≠ x → hp.get? b = some o → h'.get? b = some o) → hp.objs.size ≤ dx → dx ≠ x → h'.get? x = some { cls := .ref C, dict := some dx, data := .fields fv } → h'.Ns1 dx (fun y => if y = nm then some v else none) →
      R (.ok (.ret .none)) ⟨h', g, d, tk', os⟩) : codeAny (model prog w) A (.call (.builtin "object.__setattr__") ⟨[.ref x, .str nm tk, v], []⟩) R ⟨hp, g, d, t, os⟩ := by
  have at0 : PySem.W.InstAt hp x { cls := .ref C, data := .fields fv } C none := ⟨here, rfl, rfl, trivial⟩
  have far : x ≠ hp.objs.size := Nat.ne_of_lt (Heap.lt_size here)
  have obj : cd.mro.contains (.type "object") = true := by rw [mro, mroE_has]; decide +kernel
  have isObj : PySem.W.Looks (model prog w) hp (isInstance (.ref x) (.type "object")) true :=
    at0.type.andThen (PySem.W.looks_mroIn inK (by unfold PySem.W.mroIn; rw [kd, Option.bind_some, if_neg (by rw [mro]; exact Bool.false_ne_true), obj]))
  have St := PySem.F.store_object
  apply codeAny_call_builtin St.slot.plain St.entry
  apply @PySem.W.check_slot (model prog w) _ _ ⟨hp, g, d, t, os⟩ "object.__setattr__" "object" "__setattr__" (.ref x) [.str nm tk, v] [] _ St.kind St.split isObj (St.args (.ref x) (.str nm tk) v)
  have theMro : PySem.W.Looks (model prog w) hp (mroOf (.ref C)) cd.mro := PySem.W.Looks.andThen (PySem.W.looks_clsIn inK kd) .now
  have noTaker : PySem.W.Looks (model prog w) hp (storeTaker? none) none := .now
  have theCls : PySem.W.Looks (model prog w) hp (classData C) cd := PySem.W.looks_clsIn inK kd
  rw [PySem.W.osa_eq, refuse_eq]
  apply wpAny_bind
  apply wpAny_bind
  apply at0.type.at
  apply wpAny_bind
  apply theMro.at
  rw [mro, mroE_pass]
  apply wpAny_pure
  apply wpAny_bind
  apply at0.type.at
  apply wpAny_bind
  apply PySem.W.Looks.at (PySem.W.looks_findIn inK own)
  apply wpAny_bind
  apply noTaker.at
  show wpAny _ _ (storeInOwnDict (.ref x) (.ref C) (.str nm tk) nm v false) _ _ _
  cases cd with
  | mk n1 n2 n3 n4 n5 n6 n7 n8 n9 n10 n11 =>
    have n6t : n6 = true := has
    subst n6t
    unfold storeInOwnDict ownDictForStores
    repeat (first | with_reducible refine store_in_new ?_ ?_ | with_reducible refine wpAny_loadPart_at here ?_ | with_reducible refine theCls.at ?_ | wp_step)
    · exact ⟨_, #[], _, (Heap.get?_update_ne _ _ _ _ far.symm).trans (Heap.get?_push_at rfl rfl), rfl, fun e z => absurd z (by simp), fun _ => rfl⟩
    · intro h' tk' names but
      have there := Heap.get?_push_of_some { cls := .type "dict", data := .dict #[] } here
      refine done h' tk' hp.objs.size ?_ (Nat.le_refl _) far.symm ((but.2 x far).trans (Heap.get?_update_self _ there rfl)) names
      intro b o nb ob
      exact ((but.2 b (Nat.ne_of_lt (Heap.lt_size ob))).trans (Heap.get?_update_ne _ _ _ _ nb)).trans (Heap.get?_push_of_some _ ob)
end
section
variable {X : Cx} {pins : List (Addr × Obj)} {σ : L2.St} {H : Hp} {s : Shared} {a C B : Addr} {E : Value → Shared → Prop} {A : Around}
/-- the base's own part of the making: nothing of it is seen -/
theorem base_init {us : List Value} {Q : Value → Shared → Prop} (T : ErrC X.K C B) (I : Inv X pins σ H s) (e : H a = some (exo a C none)) (hl : us.length ≤ sizeLine) (h : ∀ s', Inv X pins σ H s' → Q .none s') :
    wpAny (model X.prog X.w) A (call (.builtin "Exception.__init__") (.ref a :: us)) Q E s := by
  obtain ⟨_, _, _, _, _, _, _, _, _, _, _, _, _, _, cl⟩ := T.cls
  obtain ⟨old, here⟩ := exo_at I.hok e
  cases s with
  | mk hp g d t os =>
    apply wpAny_call
    apply PySem.HandSPX.init_base PySem.F.excBase_Exception (fun Y => by rw [List.contains_cons]; rfl) (I.kIn _ _ cl) here hl
    intro h' new keep now
    have same : upd H a (exo a C none) = H := funext fun b => by
      unfold upd
      split
      · rename_i z
        rw [z, e]
      · rfl
    have J := I.write (t' := t) (x := a) (e := a) (o := exo a C none) (by rw [e]; exact True.intro) (Or.inl rfl) keep ⟨_, now⟩ (exo_ok now)
    rw [same] at J
    exact h _ J
/-- what is tracked as another kind stands elsewhere -/
theorem apart {b c : Addr} {o u : HO} (p : H b = some o) (q : H c = some u) (d : o ≠ u) : c ≠ b := fun z => d (by
  rw [z, p] at q
  exact Option.some.inj q)
/-- self.f = y, the first field -/
theorem err_set {f : Str} {y : V} {u : Value} {Q : Unit → Shared → Prop} (T : ErrC X.K C B) (I : Inv X pins σ H s) (e : H a = some (exo a C none)) (own : PySem.W.findIn X.K (.ref C) f = some none) (ry : RelV y u)
    (h : ∀ dx s', H dx = none → dx ≠ a → Inv X pins σ (upd (upd H dx (exd dx [(f, y)])) a (exo a C (some dx))) s' → Q () s') : wpAny (model X.prog X.w) A (setAttr (.ref a) f u) Q E s := by
  obtain ⟨m1, m2, m3, m4, m5, m6, m7, m8, m9, m10, m11, m12, m13, m14, cl⟩ := T.cls
  have kd : PySem.W.clsIn X.K C = some ⟨m1, m4, mroE C B, m3, m2, true, m5, m6, m7, m8, false⟩ := by
    unfold PySem.W.clsIn
    rw [cl]
    rfl
  obtain ⟨old, here⟩ := exo_at I.hok e
  cases s with
  | mk hp g d t os =>
    apply PySem.W.set_plain I.kIn (ox := { cls := .ref C, dict := none, data := .fields #[.ref old, .none, .none, .none, .bool false, .none] }) (od := none) ⟨here, rfl, rfl, trivial⟩ T.sa
    apply first_field I.kIn here kd rfl rfl own
    intro h' tk' dx keep big nd now names
    have none1 : H dx = none := I.hok.fresh big
    have off : ∀ {b : Addr} {o : Obj}, hp.get? b = some o → b ≠ dx := fun q => Nat.ne_of_lt (Nat.lt_of_lt_of_le (Heap.lt_size q) big)
    have offA : ∀ {b : Addr}, H b = none → b ≠ a := fun q z => by rw [z, e] at q; cases q
    have stays : ∀ {b : Addr} {o : HO}, H b = some o → o ≠ exo a C none → (upd (upd H dx (exd dx [(f, y)])) a (exo a C (some dx))) b = some o := fun {b o} q k => by
      rw [upd_ne (apart e q (fun z => k z.symm)), upd_ne (ne_of_none q none1)]
      exact q
    refine h dx _ none1 nd (I.un (t' := tk') ?_ ?_)
    · constructor
      · intro b o q n _ _
        exact keep b o (offA n) q
      · intro b o q n _ _
        exact ⟨o.slots, keep b o (offA n) q⟩
      · intro b o q n _
        rw [upd_ne (offA n), upd_ne (off q)]
        exact n
      · intro b o q _
        rcases Nat.decEq b a with z | z
        · exact ⟨o, keep b o z q⟩
        · exact ⟨_, z ▸ now⟩
      · intro b xs q
        exact stays q (fun z => exo_tup z.symm)
      · intro b o v q
        exact stays q (fun z => exo_frz z.symm)
      · intro b ps q
        exact ⟨#[], by rw [stays q (fun z => exo_tbl z.symm)]; simp⟩
    · intro b o q
      rcases Nat.decEq b a with z | z
      · rw [upd_ne z] at q
        rcases Nat.decEq b dx with zd | zd
        · rw [upd_ne zd] at q
          refine (I.hok b o q).stay ?_ (fun c k => stays k (fun z => exo_own z.symm)) fun c xs k => stays k (fun z => exo_tup z.symm)
          intro c v k p
          refine keep c v ?_ p
          rcases k with k | k
          · rw [k]; exact z
          · exact apart e k exo_own
        · subst zd
          rw [upd_same] at q
          cases q
          exact exd_ok names (relO_put (fs := []) ry fun _ => True.intro)
      · subst z
        rw [upd_same] at q
        cases q
        exact exo_ok now
end
section
variable {X : Cx} {C B : Addr}
/-- C(e, ..) where C's own __init__ keeps sp -/
theorem pmk_err {CX : CXT} {x : Str} {fI : Addr} {k : Nat} {fd : FuncData} {ps : List Str} {sp : Sp} {e : Expr} {es : List Expr} {ta : TA} {p pos : Pos} (T : ErrC X.K C B) (iC : PySem.W.findIn X.K (.ref C) "__init__" = some (some (.ref fI))) (tI : PySem.W.typeIn X.K (.ref fI) = some (.type "function"))
    (F1 : FnOk X.prog X.w X.K X.mg X.base CX k fI fd ps sp) (hr : Room (k + 1) X.A) (hb : Binds X.K fd ps []) (hx : Passes CX X (fun _ _ _ => False)) (hm : X.mg x = some (.ref C)) (ha : PA X (e :: es) ta) (hg : Gl X x := by rfl) (hdb : (x == ("__debug__" : Str)) = false := by decide)
    (he : starEach (e :: es) X.env = (false, eval e X.env) :: starEach es X.env := by rfl) (hpl : (backTo pos (starEach es X.env)).any (·.1) = false := by rfl) : PMk X (.Call (.Name x p) (e :: es) [] pos) (tMkO C sp [] ta) := by
  intro pins s σ H Q I h
  obtain ⟨_, _, _, _, _, _, _, _, _, _, _, _, _, _, cl⟩ := T.cls
  apply wpAny_Call_Name_kw
  refine ld_glob I hg hm (PySem.W.callWith_K (h₀ := X.base) I.ok.mod.kin T.kC ?_ he hpl) hdb
  · apply thn (ha.run pos pins s σ H _ I h)
    rintro us ⟨hp, g, dr, tk, os⟩ ⟨vs, H1, I1, r1, few, q1⟩
    refine ⟨I1.kIn, ?_⟩
    have later : hp.objs.size ≤ hp.objs.size + 1 := Nat.le_succ _
    have q2 := q1 _ (I1.hok.fresh later)
    rw [List.append_nil] at q2
    have more : ∀ b o, hp.get? b = some o → ((hp.push (PySem.W.kdv_tup us)).push (PySem.HandSPX.excO C hp.objs.size)).get? b = some o := fun _ _ z => Heap.get?_push_of_some _ (Heap.get?_push_of_some _ z)
    have new : ((hp.push (PySem.W.kdv_tup us)).push (PySem.HandSPX.excO C hp.objs.size)).get? (hp.objs.size + 1) = some (PySem.HandSPX.excO C hp.objs.size) := by heap_get
    have I2 := I1.laid (t' := tk) (o := exo (hp.objs.size + 1) C none) more later (exo_ok new)
    have r2 : Vals (V.ref (hp.objs.size + 1) :: vs) (Value.ref (hp.objs.size + 1) :: us) := .cons rfl r1
    have len : (Value.ref (hp.objs.size + 1) :: us).length = ps.length := r2.length.symm.trans (F1.len _ _ _ _ q2)
    have bind := hb _ (Value.ref (hp.objs.size + 1) :: us) I2.kIn (by simpa using len)
    rw [List.append_nil] at bind
    have fit : us.length ≤ sizeLine := by
      rw [← Paired.length r1, sizeLine_eq]
      omega
    apply wpAny_call
    apply PySem.HandSPX.call_own PySem.F.excBase_Exception (fun Y => by rw [List.contains_cons]; rfl) (I1.kIn _ _ cl) (PySem.W.looks_findIn I1.kIn iC) (fun self => PySem.W.bind_fn I1.kIn self tI) fit
    refine codeAny_mono (F1.run _ X.stack _ _ ⟨Value.ref (hp.objs.size + 1) :: us, []⟩ _ _ _ (fun _ _ _ => False) (hr.make C us []) (I2.env0.make C us []) bind r2 q2) ?_
    intro r s' z
    match r, s', z with
    | .error er, s', z => exact hx pins σ _ _ er s' I2 z
    | .ok (.ret u), ⟨h2, g2, d2, t2, os'⟩, ⟨v, H2, sos, sbare, sun, sok, rv, ev, d, fs, ea, ed, hd1, q3⟩ =>
      subst ev
      exact ⟨rv, mk_end (raises_own T.exC T.tyC) I1 later more sun sok sos sbare ea ed hd1 q3⟩
    | .ok .next, _, z => exact False.elim z
    | .ok .brk, _, z => exact False.elim z
    | .ok .cont, _, z => exact False.elim z
/-- self.f = e, the first field of an error -/
def tErr (K : PySem.W.Frag) (f : Str) (to te : TE) : TS := fun D σ H => te σ H fun y H1 => to σ H1 fun x H2 => ∃ a C B : Addr, x = .ref a ∧ ErrC K C B ∧ PySem.W.findIn K (.ref C) f = some none ∧ H2 a = some (exo a C none) ∧
  ∀ dx, H2 dx = none → dx ≠ a → D.nx σ (upd (upd H2 dx (exd dx [(f, y)])) a (exo a C (some dx)))
theorem ps_err {o e : Expr} {to te : TE} {f : Str} {p' pos : Pos} (ho : PE X o to) (he : PE X e te) (hs : swapsWith e (some (.Attribute o f p')) pos.line X.env = pure false := by rfl) : PS X (.Assign [.Attribute o f p'] e pos) (tErr X.K f to te) := by
  constructor
  intro pins s σ H D I h
  apply plainObj_wpAny_Assign_Attribute _ hs
  apply thn (he.run pins s σ H _ I h)
  rintro v s1 ⟨y, H1, I1, r1, q1⟩
  apply thn (ho.run pins s1 σ H1 _ I1 q1)
  rintro u s2 ⟨x, H2, I2, r2, a, C, B, rfl, T, own, ea, q⟩
  obtain rfl : u = Value.ref a := r2
  exact err_set T I2 ea own r1 fun dx s' n ne J => ⟨σ, _, J, q dx n ne⟩
/-- Base.__init__(self, ..) by the class's name -/
def tBI (K : PySem.W.Frag) (ta : TA) : TE := fun σ H Q => ta σ H fun vs H1 => ∃ (a C B : Addr) (ws : List V), vs = .ref a :: ws ∧ ws.length ≤ 1000 ∧ ErrC K C B ∧ H1 a = some (exo a C none) ∧ Q .non H1
theorem pe_binit {x : Str} {D : Addr} {mc : Value} {e : Expr} {es : List Expr} {ta : TA} {p1 p2 pos : Pos} {pl : Sem Bool} (hm : X.mg x = some (.ref D)) (sg : PySem.W.specialIn X.K (.ref D) "__getattribute__" = some (some (.builtin "type.__getattribute__"))) (rd : PySem.W.readsIn X.K D mc = true)
    (fv : PySem.W.findCls X.K (.ref D) mc "__init__" = some (.val (.builtin "Exception.__init__"))) (ha : PA X (e :: es) ta) (hg : Gl X x := by rfl) (hdb : (x == ("__debug__" : Str)) = false := by decide)
    (hc : eval (.Call (.Attribute (.Name x p1) "__init__" p2) (e :: es) [] pos) X.env = (do
      let ov ← eval (.Name x p1) X.env
      standAt p2.atName
      let (f, first) ← holding [ov] (getMethod ov "__init__" pl)
      callWith pos f first (backTo pos (starEach (e :: es) X.env)) (backToKw pos (keywordEach [] X.env))) := by rfl)
    (he : starEach (e :: es) X.env = (false, eval e X.env) :: starEach es X.env := by rfl) (hpl : (backTo pos (starEach es X.env)).any (·.1) = false := by rfl) : PE X (.Call (.Attribute (.Name x p1) "__init__" p2) (e :: es) [] pos) (tBI X.K ta) := by
  constructor
  intro pins s σ H Q I h
  refine PySem.W.methodCall_KW (ld_glob I hg hm ?_ hdb) hc
  refine PySem.W.method_cls I.kIn sg (PySem.W.cls_value I.kIn rd fv (by decide +kernel) ?_)
  refine callWith_method1 (thn (ha.run pos pins _ σ H _ (I.tok _) h) ?_) he hpl
  rintro us s1 ⟨vs, H1, I1, r1, a, C, B, ws, rfl, few, T, ea, q⟩
  cases r1 with
  | @cons _ u0 _ ur ra rest =>
    obtain rfl : u0 = Value.ref a := ra
    exact base_init T I1 ea (by rw [← Paired.length rest, sizeLine_eq]; omega) fun s' J => ⟨.non, H1, J, rfl, q⟩
end
end Z

/-! Y: defs that raise own errors, and try around them. -/
namespace Z
open PySem PySem.Spec PyProof.Rows L2

/-! ### defs that may raise -/
section
variable {P : Program} {w : World} {K : PySem.W.Frag} {mg : Str → Option Value} {base : Heap}
theorem cx1 {x : Str} {st : Stmt} {a : Str} {N : List Str} {k : Nat} {p : V → Hp → VK → XK → Prop} (D : Df K mg x st [a]) (S : FnScope N [a] (defScope st))
    (body : ∀ (f : Addr) (cdv : Value) (A : Around) (outer : List Env) (s : Shared) (H : Hp) (u : V) (Q : VK) (E : XK), Room k (A.deeper (envOfC x (defScope st) s.heap.objs.size f cdv)) → p u H Q E →
      ∃ t, PSs (cxOf (L2.CX P w) P w K mg base N x (defScope st) f cdv A outer s H E) (defBody st) t ∧ t { nx := fun _ H' => Q .non H', rt := Q } (start N [u]) H) : Ct P w K mg base (L2.CX P w) (k + 1) x [a] (sp1 p) := by
  obtain ⟨f, fd, F, hm, hb⟩ := D.ex
  refine ⟨f, fd, hm, F.kp, hb, F.okX S ?_ ?_, fun_at F⟩
  · intro vs H Q E h
    obtain ⟨u, rfl, _⟩ := sp1_of h
    rfl
  · intro cdv A outer s H vs Q E hr h
    obtain ⟨u, rfl, h⟩ := sp1_of h
    exact body f cdv A outer s H u Q E hr h
theorem cx2 {x : Str} {st : Stmt} {a b : Str} {N : List Str} {k : Nat} {p : V → V → Hp → VK → XK → Prop} (D : Df K mg x st [a, b]) (S : FnScope N [a, b] (defScope st))
    (body : ∀ (f : Addr) (cdv : Value) (A : Around) (outer : List Env) (s : Shared) (H : Hp) (u v : V) (Q : VK) (E : XK), Room k (A.deeper (envOfC x (defScope st) s.heap.objs.size f cdv)) → p u v H Q E →
      ∃ t, PSs (cxOf (L2.CX P w) P w K mg base N x (defScope st) f cdv A outer s H E) (defBody st) t ∧ t { nx := fun _ H' => Q .non H', rt := Q } (start N [u, v]) H) : Ct P w K mg base (L2.CX P w) (k + 1) x [a, b] (sp2 p) := by
  obtain ⟨f, fd, F, hm, hb⟩ := D.ex
  refine ⟨f, fd, hm, F.kp, hb, F.okX S ?_ ?_, fun_at F⟩
  · intro vs H Q E h
    obtain ⟨u, v, rfl, _⟩ := sp2_of h
    rfl
  · intro cdv A outer s H vs Q E hr h
    obtain ⟨u, v, rfl, h⟩ := sp2_of h
    exact body f cdv A outer s H u v Q E hr h
/-- an __init__ of two parameters -/
theorem ini2 {q : Str} {st : Stmt} {f : Addr} {fd : FuncData} {a b : Str} {N : List Str} {k : Nat} {p : V → V → Hp → VK → XK → Prop} (F : Fun K "__init__" q st f fd) (S : FnScope N [a, b] (defScope st))
    (body : ∀ (cdv : Value) (A : Around) (outer : List Env) (s : Shared) (H : Hp) (u v : V) (Q : VK) (E : XK), Room k (A.deeper (envOfC q (defScope st) s.heap.objs.size f cdv)) → p u v H Q E →
      ∃ t, PSs (cxOf CX0 P w K mg base N q (defScope st) f cdv A outer s H E).nox (defBody st) t ∧ t { nx := fun _ H' => Q .non H', rt := Q } (start N [u, v]) H) : FnOk P w K mg base CX0 (k + 1) f fd [a, b] (sp2 p) := by
  refine F.ok S ?_ ?_
  · intro vs H Q E h
    obtain ⟨u, v, rfl, _⟩ := sp2_of h
    rfl
  · intro cdv A outer s H vs Q E hr h
    obtain ⟨u, v, rfl, h⟩ := sp2_of h
    exact body cdv A outer s H u v Q E hr h
end
/-- what an error's own __init__ leaves: its one field -/
def spIni (C : Addr) (f : Str) : Sp := sp2 fun u v H Q _ => ∃ a, u = .ref a ∧ H a = some (exo a C none) ∧ ∀ dx, H dx = none → dx ≠ a → Q .non (upd (upd H dx (exd dx [(f, v)])) a (exo a C (some dx)))
/-- an error's class, under its name -/
structure Er (P : Program) (w : World) (K : PySem.W.Frag) (mg : Str → Option Value) (base : Heap) (k : Nat) (x f : Str) (C : Addr) : Prop where
  name : mg x = some (.ref C)
  ex : ∃ (B fI : Addr) (fd : FuncData) (ps : List Str), ErrC K C B ∧ PySem.W.findIn K (.ref C) "__init__" = some (some (.ref fI)) ∧ PySem.W.typeIn K (.ref fI) = some (.type "function") ∧ FnOk P w K mg base CX0 k fI fd ps (spIni C f) ∧ Binds K fd ps []
/-- what is asked of a caught error -/
structure Es (K : PySem.W.Frag) (C : Addr) : Prop where
  xf : XfC K C
  ty : PySem.W.typeIn K (.ref C) = some (.type "type")
  ha : PySem.W.findIn K (.ref C) "__class__" = some (some (.builtin "object.__class__"))
  hn : PySem.W.specialIn K (.builtin "object.__class__") "__get__" = some (some (.builtin "getset_descriptor.__get__"))
  ht : PySem.W.takesIn K (.builtin "object.__class__") = some true
  hm : PySem.W.mroIn K C (.type "object") = some true
theorem Es.exm {K : PySem.W.Frag} {C : Addr} {c : Value} {b : Bool} (S : Es K C) (h : PySem.W.subIn K c (.ref C) = some b) : PySem.W.exmOne K c (.ref C) = some b := PySem.W.exm_ref S.xf.exC S.xf.hdC S.ty h
section
variable {X : Cx}
/-- raise C(e) -/
def tRz (C : Addr) (f : Str) (t : TA) (W : WX) : TS := fun _ σ H => t σ H fun vs H1 => match vs with
  | [v] => ∀ d H2, Nw H1 d (.xd [(f, v)]) H2 → W (.ref C) (some d) σ H2
  | _ => False
theorem ps_rz {W : WX} {k : Nat} {x f : Str} {C : Addr} {e : Expr} {t : TA} {p p2 pos : Pos} (hc : X.calm = true) (tk : Takes X W) (R : Er X.prog X.w X.K X.mg X.base k x f C) (hr : Room (k + 1) X.A) (ha : PA X [e] t) (hg : Gl X x := by rfl) (hdb : (x == ("__debug__" : Str)) = false := by decide)
    (he : starEach [e] X.env = (false, eval e X.env) :: starEach [] X.env := by rfl) (hpl : (backTo p2 (starEach [] X.env)).any (·.1) = false := by rfl) : PS X (.Raise (some (.Call (.Name x p) [e] [] p2)) none pos) (tRz C f t W) := by
  obtain ⟨B, fI, fd, ps, T, iC, tI, F, hb⟩ := R.ex
  refine ps_w (ps_raise hc tk (pmk_err T iC tI F hr hb pass0 R.name (pa_mon ha) hg hdb he hpl)) ?_
  intro D σ H h
  refine ⟨_, h, ?_⟩
  intro vs H1 h1
  split at h1
  · rename_i v
    refine ⟨by show 1 ≤ 1000; decide, fun a na => ?_⟩
    refine ⟨a, rfl, upd_same, fun dx nd ne => ⟨rfl, dx, [(f, v)], upd_same, ?_, ?_, ?_⟩⟩
    · rw [upd_ne ne, upd_same]
    · rw [upd_ne ne] at nd
      exact nd
    · rw [upd_ne ne] at nd
      have e : upd (del (upd (upd (upd H1 a (exo a C none)) dx (exd dx [(f, v)])) a (exo a C (some dx))) a) dx (.xd [(f, v)]) = upd H1 dx (.xd [(f, v)]) := by
        funext b
        by_cases z : b = dx
        · rw [z, upd_same, upd_same]
        · rw [upd_ne z, upd_ne z]
          by_cases y : b = a
          · rw [y, del_same, na]
          · rw [del_ne y, upd_ne y, upd_ne z, upd_ne y]
      rw [e]
      exact h1 dx _ (nw nd)
  · exact h1.elim
/-- a call that may let an error out -/
theorem pe_clS {W : WX} {k : Nat} {x : Str} {ps : List Str} {sp : Sp} {p pos : Pos} {e : Expr} {es : List Expr} {t : TA} (C : Ct X.prog X.w X.K X.mg X.base (L2.CX X.prog X.w) k x ps sp) (hr : Room k X.A) (tk : Takes X W) (ha : PA X (e :: es) t) (hg : Gl X x := by rfl)
    (hdb : (x == ("__debug__" : Str)) = false := by decide) (he : starEach (e :: es) X.env = (false, eval e X.env) :: starEach es X.env := by rfl) (hpl : (backTo pos (starEach es X.env)).any (·.1) = false := by rfl) : PE X (.Call (.Name x p) (e :: es) [] pos) (tCallS sp (WE W) t) := by
  obtain ⟨f, fd, hm, hk, hb, F, _⟩ := C.ex
  exact pe_callS F hr hg hm hk hb (passAt tk) ha hdb he hpl
def tClKS (g : {α : Type} → List α → List α) (sp : Sp) (E : L2.St → XK) (t : TA) : TE := fun σ H Q => t σ H fun zs H1 => sp (g zs) H1 Q (E σ)
theorem pe_clKS {W : WX} {k : Nat} {x : Str} {ps ks : List Str} {g : {α : Type} → List α → List α} {sp : Sp} {p pos : Pos} {kws : List Keyword} {t : TA} (C : CtK X.prog X.w X.K X.mg X.base (L2.CX X.prog X.w) k x ps ks g sp) (hr : Room k X.A) (tk : Takes X W)
    (hkw : PK X kws t) (hg : Gl X x := by rfl) (hall : (backToKw pos (keywordEach kws X.env)).all (·.1.isSome) = true := by rfl) (hks : (backToKw pos (keywordEach kws X.env)).filterMap (·.1) = ks := by rfl)
    (hdb : (x == ("__debug__" : Str)) = false := by decide) (hpl : ((backTo pos (starEach [] X.env)).any (·.1) || (backToKw pos (keywordEach kws X.env)).any (·.1.isNone)) = false := by rfl) :
    PE X (.Call (.Name x p) [] kws pos) (tClKS g sp (WE W) t) := by
  obtain ⟨f, fd, hm, hk, hb, hrel, F⟩ := C.ex
  constructor
  intro pins s σ H Q I h
  apply wpAny_Call_Name_kw
  refine ld_glob I hg hm (PySem.W.callWith_KW0 (h₀ := X.base) I.ok.mod.kin hk hall ?_ hpl) hdb
  apply thn (hkw.run pos pins s σ H _ I h)
  rintro ws s1 ⟨zs, H1, I1, rz, q⟩
  refine ⟨I1.kIn, ?_⟩
  rw [hks]
  have r2 := hrel rz
  have hl : (g ws).length = ps.length := r2.length.symm.trans (F.len _ _ _ _ q)
  apply wpAny_call
  refine codeAny_mono (F.run X.A X.stack s1 H1 ⟨[], ks.zip ws⟩ (g ws) (g zs) Q (WE W σ) hr I1.env0 (hb s1 ws hl) r2 q) ?_
  intro r s' z
  match r, z with
  | .error er, z => exact passAt tk σ pins H1 s1 er s' I1 z
  | .ok (.ret u), z => exact I1.after z
  | .ok .next, z => exact False.elim z
  | .ok .brk, z => exact False.elim z
  | .ok .cont, z => exact False.elim z
end

/-! ### try with several clauses, each with a name -/
/-- behind a clause its name is gone -/
def gone (i : Nat) (D : Ends) : Ends := { nx := fun σ' H' => D.nx (σ'.set i none) H', rt := D.rt, bk := fun σ' H' => D.bk (σ'.set i none) H', ct := fun σ' H' => D.ct (σ'.set i none) H' }
/-- what the clauses wish of an error: its class, the place of its name, what is read there -/
def wClauses (K : PySem.W.Frag) (Wout : WX) (D : Ends) : List (Value × Nat × (Addr → Value → Option Addr → TS)) → WX
  | [] => Wout
  | (c, i, ts) :: r => fun cls d σ H => ∃ b, PySem.W.exmOne K cls c = some b ∧ (b = true → ∀ a, H a = none → ts a cls d (gone i D) (σ.set i (some (.ref a))) H) ∧ (b = false → wClauses K Wout D r cls d σ H)
inductive Clauses (X : Cx) : List ExceptHandler → List (Value × Nat × (Addr → Value → Option Addr → TS)) → Prop
  | nil : Clauses X [] []
  | cons {x n : Str} {c : Value} {i : Nat} {ts : Addr → Value → Option Addr → TS} {first : Stmt} {more : List Stmt} {np hp : Pos} {hds : List ExceptHandler} {l : List (Value × Nat × (Addr → Value → Option Addr → TS))} (names : Names X x c) (slot : X.N[i]? = some n) (loc : X.env.kindOf n = some .local)
      (suite : ∀ (a : Addr) (oe : Obj) (cls : Value) (d : Option Addr) (pn : List (Addr × Obj)), Zc cls d oe → (∃ vs, oe.data = .fields vs) → PSs (X.suite a ((a, oe) :: pn)) (first :: more) (ts a cls d)) (rest : Clauses X hds l) :
      Clauses X (.ExceptHandler (some (.Name x np)) (some n) (first :: more) hp :: hds) ((c, i, ts) :: l)
  | bare {x : Str} {c : Value} {i : Nat} {ts : Addr → Value → Option Addr → TS} {first : Stmt} {more : List Stmt} {np hp : Pos} {hds : List ExceptHandler} {l : List (Value × Nat × (Addr → Value → Option Addr → TS))} (names : Names X x c) (far : X.N.length ≤ i)
      (suite : ∀ (a : Addr) (oe : Obj) (cls : Value) (d : Option Addr) (pn : List (Addr × Obj)), Zc cls d oe → (∃ vs, oe.data = .fields vs) → PSs (X.suite a ((a, oe) :: pn)) (first :: more) (ts a cls d)) (rest : Clauses X hds l) :
      Clauses X (.ExceptHandler (some (.Name x np)) none (first :: more) hp :: hds) ((c, i, ts) :: l)
section
variable {X : Cx} {body : List Stmt} {h1 : ExceptHandler} {hds : List ExceptHandler} {l : List (Value × Nat × (Addr → Value → Option Addr → TS))} {pos : Pos} {tb : WX → TS} {Wout : WX}
theorem ps_tryC (hs : X.stack = X.env :: X.outer) (hf : X.env.frame = some X.env.locals) (hN : X.N.Nodup) (tk : Takes X Wout)
    (hb : ∀ (W : WX) (pn : List (Addr × Obj)) (xe : Value → Shared → Prop), Takes (X.tr pn xe) W → PassesOwn (model X.prog X.w) X.A X.env xe → PSs (X.tr pn xe) body (tb W))
    (cl : Clauses X (h1 :: hds) l) : PS X (.Try body (h1 :: hds) [] [] pos) (fun D σ H => tb (wClauses X.K Wout D l) D σ H) := by
  constructor
  intro pins s σ H D I h
  have ok := I.ok
  have frames : X.A.frames = some (X.env :: X.outer) := by
    rw [ok.frames, hs]
  apply wpAny_Try_except
  refine wpAny_mono ((hb (wClauses X.K Wout D l) (X.pn ++ pins) (fun e z1 => wpAny (model X.prog X.w) X.A (noteFrame e X.env) (fun _ z2 => wpAny (model X.prog X.w) X.A (setFlight e none) (fun _ z3 =>
    wpAny (model X.prog X.w) X.A (handleBy e X.env (h1 :: hds)) (SP X pins D) X.xe z3) X.xe z2) X.xe z1) ?_ PassesOwn.looking).run [] s σ H D (I.toTry _) h) ?_ (fun _ _ z => z)
  · rintro u s' ⟨a, G, sI, pins', σ1, Ha, cls, d, rfl, Jt, apart, up, sky, na, os, ag, wish⟩
    have J : Inv X pins σ1 Ha sI := Jt.ofTry ok
    rw [show (X.tr (X.pn ++ pins) _).stack = X.stack from rfl, hs] at sky
    show wpAny (model X.prog X.w) X.A (noteFrame (.ref a) X.env) _ _ _
    apply Sky.land Zc.steady frames hf sky
    intro hp fly upp
    have Jh : Inv X pins σ1 Ha { s' with heap := hp } := J.landed apart fly.1 (up.trans upp) os ag
    obtain ⟨oe, fv, here, hz, hd⟩ := fly.there
    have noFrame : a ∉ frs (X.env :: X.outer) := by
      intro m
      obtain ⟨_, o', e', nf⟩ := fly.2.2.1.mem m
      rw [here] at e'
      cases e'
      exact nf _ hd
    have offL : a ≠ X.env.locals := by
      intro z
      apply noFrame
      apply List.mem_filterMap.mpr
      exact ⟨X.env, List.mem_cons_self, by rw [hf, z]⟩
    have offF : a ∉ X.fs := by
      intro m
      obtain ⟨e, he, q⟩ := List.mem_filterMap.mp m
      exact noFrame (List.mem_filterMap.mpr ⟨e, List.mem_cons_of_mem _ he, q⟩)
    have Js := Jh.suite here hd na offL offF
    have all : ∀ {hds' : List ExceptHandler} {l' : List (Value × Nat × (Addr → Value → Option Addr → TS))}, Clauses X hds' l' → wClauses X.K Wout D l' cls d σ1 Ha → wpAny (model X.prog X.w) X.A (handleBy (.ref a) X.env hds') (SP X pins D) X.xe { s' with heap := hp } := by
      intro hds' l' c
      induction c with
      | nil =>
        intro wish
        apply wpAny_handleBy_nil
        obtain ⟨_, _, _, _, _, T, _, _, there, _, dd, one, _⟩ := id fly
        unfold PySem.passOn
        apply wpAny_bind
        apply wpAny_field there dd one
        rw [if_neg (show ¬ ((Value.ref T == Value.none) = true) by simp)]
        have fin : wpAny (model X.prog X.w) X.A (setFlight (.ref a) X.env.frame) (fun _ z => wpAny (model X.prog X.w) X.A (throw (.ref a) : Sem Flow) (SP X pins D) X.xe z) X.xe { s' with heap := hp } := by
          rw [hf]
          apply HandSPX.setFlight_upZ fly
          intro h4 held upq
          apply wpAny_throw
          apply tk
          exact ⟨a, G, sI, pins, σ1, Ha, cls, d, rfl, J, apart, (up.trans upp).trans upq, .inr (.inr (by rw [hs]; exact held)), na, os, ag, wish⟩
        first
          | exact wpAny_bind (wpAny_pure (wpAny_bind fin))
          | exact wpAny_bind fin
      | @cons x n c i ts first more np hpos hds2 l2 names slot loc suite rest ih =>
        rintro ⟨b, ask, yes, no⟩
        apply wpAny_handleBy_cons _ (by intro q; cases q)
        apply codeAny_handlers_test
        have looks : PySem.W.Looks (model X.prog X.w) hp (typeOf (.ref a)) cls := fun A Q E z k q => wpAny_typeOf_ref (k _ _ here) (by rw [hz.1]; exact q)
        have named : ∀ {Q : Value → Shared → Prop} {E : Value → Shared → Prop}, Q c { s' with heap := hp } → wpAny (model X.prog X.w) (X.A.mark (some (.ref a))) (eval (.Name x np) X.env) Q E { s' with heap := hp } := by
          intro Q E q
          obtain ⟨hg, hdb, hm | ⟨hm, hv, hnn⟩⟩ := names
          · exact ld_glob (X := X.suite a ((a, oe) :: (X.pn ++ pins))) Js hg hm q hdb
          · exact ld_blt (X := X.suite a ((a, oe) :: (X.pn ++ pins))) Js hg hm hv q hnn hdb
        apply named
        apply (PySem.W.exm_one (M := model X.prog X.w) Jh.kIn looks ask).here
        cases b with
        | false => exact ih (no rfl)
        | true =>
          apply codeAny_handlers_suite_as
          apply HandSPX.lands_againZ fly
          intro h4 fly4 up4
          have J4 : Inv X pins σ1 Ha { s' with heap := h4 } := J.landed apart fly4.1 ((up.trans upp).trans up4) os ag
          obtain ⟨oe4, fv4, here4, hz4, hd4⟩ := fly4.there
          have S4 := J4.suite here4 hd4 na offL offF
          refine store_ok (X := X.suite a ((a, oe4) :: (X.pn ++ pins))) (v := .ref a) S4 hN slot (.inl loc) rfl ?_ (.inr loc)
          intro s5 S5
          have fin : ∀ {σ6 : L2.St} {H6 : Hp} {s6 : Shared} {Q : Shared → Prop}, Inv (X.suite a ((a, oe4) :: (X.pn ++ pins))) [] σ6 H6 s6 → (∀ s7, Inv X pins (σ6.set i none) H6 s7 → Q s7) →
              wpAny (model X.prog X.w) X.A (do bindName X.env n .none; unbindBehindTheSuite X.env n hpos) (fun _ s7 => Q s7) X.xe s6 := fun S6 hq => gone_ok (S6.unsuite ok) hN slot loc hq
          refine wpAny_mono ((suite a oe4 cls d (X.pn ++ pins) hz4 ⟨_, hd4⟩).run [] s5 _ Ha _ S5 (yes rfl a na)) ?_ (fun _ _ z => False.elim z)
          intro f s6 out
          cases f with
          | next =>
            obtain ⟨_, _, S6, q⟩ := out
            exact fin S6 fun _ J7 => ⟨_, _, J7, q⟩
          | brk =>
            obtain ⟨_, _, S6, q⟩ := out
            exact fin S6 fun _ J7 => ⟨_, _, J7, q⟩
          | cont =>
            obtain ⟨_, _, S6, q⟩ := out
            exact fin S6 fun _ J7 => ⟨_, _, J7, q⟩
          | ret u =>
            obtain ⟨_, _, _, S6, rv, q⟩ := out
            exact fin S6 fun _ J7 => ⟨_, _, _, J7, rv, q⟩
      | @bare x c i ts first more np hpos hds2 l2 names far suite rest ih =>
        rintro ⟨b, ask, yes, no⟩
        apply wpAny_handleBy_cons _ (by intro q; cases q)
        apply codeAny_handlers_test
        have looks : PySem.W.Looks (model X.prog X.w) hp (typeOf (.ref a)) cls := fun A Q E z k q => wpAny_typeOf_ref (k _ _ here) (by rw [hz.1]; exact q)
        have named : ∀ {Q : Value → Shared → Prop} {E : Value → Shared → Prop}, Q c { s' with heap := hp } → wpAny (model X.prog X.w) (X.A.mark (some (.ref a))) (eval (.Name x np) X.env) Q E { s' with heap := hp } := by
          intro Q E q
          obtain ⟨hg, hdb, hm | ⟨hm, hv, hnn⟩⟩ := names
          · exact ld_glob (X := X.suite a ((a, oe) :: (X.pn ++ pins))) Js hg hm q hdb
          · exact ld_blt (X := X.suite a ((a, oe) :: (X.pn ++ pins))) Js hg hm hv q hnn hdb
        apply named
        apply (PySem.W.exm_one (M := model X.prog X.w) Jh.kIn looks ask).here
        cases b with
        | false => exact ih (no rfl)
        | true =>
          apply codeAny_handlers_suite
          apply HandSPX.lands_againZ fly
          intro h4 fly4 up4
          have J4 : Inv X pins σ1 Ha { s' with heap := h4 } := J.landed apart fly4.1 ((up.trans upp).trans up4) os ag
          obtain ⟨oe4, fv4, here4, hz4, hd4⟩ := fly4.there
          have S4 := J4.suite here4 hd4 na offL offF
          have same : ∀ {σ' : L2.St} {v : Option V}, σ'.length = X.N.length → σ'.set i v = σ' := fun {σ' v} hl => List.set_eq_of_length_le (by rw [hl]; exact far)
          have yes' := yes rfl a na
          rw [same J.len] at yes'
          refine wpAny_mono ((suite a oe4 cls d (X.pn ++ pins) hz4 ⟨_, hd4⟩).run [] _ _ Ha _ S4 yes') ?_ (fun _ _ z => False.elim z)
          intro f s6 out
          cases f with
          | next =>
            obtain ⟨_, _, S6, q⟩ := out
            have q : D.nx _ _ := q
            rw [same S6.len] at q
            exact ⟨_, _, S6.unsuite ok, q⟩
          | brk =>
            obtain ⟨_, _, S6, q⟩ := out
            have q : D.bk _ _ := q
            rw [same S6.len] at q
            exact ⟨_, _, S6.unsuite ok, q⟩
          | cont =>
            obtain ⟨_, _, S6, q⟩ := out
            have q : D.ct _ _ := q
            rw [same S6.len] at q
            exact ⟨_, _, S6.unsuite ok, q⟩
          | ret u =>
            obtain ⟨_, _, _, S6, rv, q⟩ := out
            exact ⟨_, _, _, S6.unsuite ok, rv, q⟩
    exact all cl wish
  · intro f s1 out
    cases f with
    | next =>
      obtain ⟨_, _, Jt, q⟩ := out
      exact wpAny_execs_nil ⟨_, _, Jt.ofTry ok, q⟩
    | brk =>
      obtain ⟨_, _, Jt, q⟩ := out
      exact ⟨_, _, Jt.ofTry ok, q⟩
    | cont =>
      obtain ⟨_, _, Jt, q⟩ := out
      exact ⟨_, _, Jt.ofTry ok, q⟩
    | ret u =>
      obtain ⟨_, _, _, Jt, rv, q⟩ := out
      exact ⟨_, _, _, Jt.ofTry ok, rv, q⟩
end
/-- isinstance(e, c) of the error that a clause holds -/
def rIsC (K : PySem.W.Frag) (cls : Value) (d : Option Addr) (a : Addr) : List V → Hp → VK → Prop := fun xs H Q => match xs with
  | [.ref a', .ref c] => ∃ (C dd : Addr) (fs : List (Str × V)) (b : Bool), a' = a ∧ cls = .ref C ∧ d = some dd ∧ H dd = some (.xd fs) ∧ Es K C ∧ PySem.W.kitOne K (.ref C) (.ref c) = some b ∧ Q (.bl b) H
  | _ => False
theorem c_isC {X : Cx} {a : Addr} {oe : Obj} {cls : Value} {d : Option Addr} {pn : List (Addr × Obj)} (hz : Zc cls d oe) (hf : ∃ vs, oe.data = .fields vs) : CallR (X.suite a ((a, oe) :: pn)) (.builtin "isinstance") (rIsC X.K cls d a) := by
  intro pins s σ H xs us Q I r h
  unfold rIsC at h
  split at h
  · rename_i a' c
    obtain ⟨C, dd, fs, b, rfl, rfl, rfl, hx, S, ask, q⟩ := h
    cases r with
    | cons r1 rr =>
      cases rr with
      | cons r2 rr =>
        cases rr
        cases r1
        cases r2
        obtain ⟨here, _⟩ := I.pin (a', oe) (List.mem_append.mpr (.inl List.mem_cons_self))
        obtain ⟨vs, hd⟩ := hf
        obtain ⟨mA, ns, _⟩ := (show ObjOk X.prog X.w H s.heap dd (.xd fs) from I.hok dd _ hx)
        obtain ⟨od, ho, _⟩ := lookIn_ns ns
        have J : PySem.W.InstAt s.heap a' oe C (some od) := ⟨here, hz.1, by unfold PySem.W.notCls; rw [hd] <;> rfl, by rw [hz.2]; exact ho⟩
        have cl : (PySem.W.clsIn X.K C).isSome = true := by
          obtain ⟨cd, hc, _⟩ := PySem.W.any_some S.xf.hdC
          rw [hc]
          rfl
        exact PySem.W.kia_one (PySem.W.kitx_exc cl S.xf.ga S.xf.gg S.xf.exC S.ha S.hn S.ht S.hm) I.kIn J ask (fun z => nomatch z) fun tk => ⟨.bl b, H, I.tok _, rfl, q⟩
  · exact h.elim
theorem k_isC {X : Cx} (K : PySem.W.Frag) {a : Addr} {oe : Obj} {cls : Value} {d : Option Addr} {pn : List (Addr × Obj)} (hz : Zc cls d oe) (hf : ∃ vs, oe.data = .fields vs) (hK : X.K = K := by rfl) : CallR (X.suite a ((a, oe) :: pn)) (.builtin "isinstance") (rIsC K cls d a) := hK ▸ c_isC hz hf
/-- the class of that name at the top -/
def clsAt (K : PySem.W.Frag) (x : Str) (C : Addr) : Prop := PySem.W.nsIn K mainGlobals x = some (some (.ref C))
theorem clsAt.one {K : PySem.W.Frag} {x : Str} {C D : Addr} (a : clsAt K x C) (b : clsAt K x D) : C = D := by
  unfold clsAt at a b
  rw [a] at b
  cases b
  rfl
/-- what is asked of the base whose __init__ is called by its name -/
structure BaseC (K : PySem.W.Frag) (B : Addr) : Prop where
  ex : ∃ mc, PySem.W.specialIn K (.ref B) "__getattribute__" = some (some (.builtin "type.__getattribute__")) ∧ PySem.W.readsIn K B mc = true ∧ PySem.W.findCls K (.ref B) mc "__init__" = some (.val (.builtin "Exception.__init__"))
/-- an error of the class x with this field leaves -/
def Rz (K : PySem.W.Frag) (x f : Str) (v : V) (H : Hp) (E : XK) : Prop := ∀ C d H2, clsAt K x C → Same H H2 → H2 d = some (.xd [(f, v)]) → E (.ref C) (some d) H2
theorem Rz.go {K : PySem.W.Frag} {x f : Str} {v : V} {H H1 H2 : Hp} {E : XK} {C d : Addr} (h : Rz K x f v H E) (c : clsAt K x C) (s : Same H H1) (n : Nw H1 d (.xd [(f, v)]) H2) : E (.ref C) (some d) H2 := h C d H2 c (s.trans n.same) n.here
/-- a list some times over -/
def zRepL : R2 := fun x y H Q => match x, y with
  | .ref l, .int k => ∃ xs, H l = some (.lst xs) ∧ -(2 ^ 63) ≤ k ∧ k < 2 ^ 63 ∧ xs.length * k.toNat ≤ sizeLine ∧ ∀ p H2, Nw H p (.lst (List.replicate k.toNat xs).flatten) H2 → Q (.ref p) H2
  | _, _ => False
theorem o_repL {X : Cx} : OpR X (binaryOp .Mult) zRepL := by
  intro pins s σ H x y v u Q I rx ry h
  unfold zRepL at h
  split at h
  · obtain ⟨xs, h1, h2, h3, h4, q⟩ := h
    exact op_rep pins s σ H _ _ v u Q I rx ry ⟨_, _, xs, rfl, rfl, h1, h2, h3, h4, fun p hp => q p _ (nw hp)⟩
  · exact h.elim
/-- what stands in a class -/
def clsB : Stmt → List Stmt
  | .ClassDef (body := inside) .. => inside
  | _ => []
theorem ct0 {P : Program} {w : World} {K : PySem.W.Frag} {mg : Str → Option Value} {base : Heap} {x : Str} {st : Stmt} {N : List Str} {k : Nat} {p : Hp → VK → XK → Prop} (D : Df K mg x st []) (S : FnScope N [] (defScope st))
    (body : ∀ (f : Addr) (cdv : Value) (A : Around) (outer : List Env) (s : Shared) (H : Hp) (Q : VK) (E : XK), Room k (A.deeper (envOfC x (defScope st) s.heap.objs.size f cdv)) → p H Q E →
      ∃ t, PSs (cxOf CX0 P w K mg base N x (defScope st) f cdv A outer s H E).nox (defBody st) t ∧ t { nx := fun _ H' => Q .non H', rt := Q } (start N []) H) : Ct P w K mg base CX0 (k + 1) x [] (fun vs H Q E => vs = [] ∧ p H Q E) := by
  obtain ⟨f, fd, F, hm, hb⟩ := D.ex
  refine ⟨f, fd, hm, F.kp, hb, F.ok S ?_ ?_, fun_at F⟩
  · intro vs H Q E h
    rw [h.1]
    rfl
  · intro cdv A outer s H vs Q E hr h
    obtain ⟨rfl, h⟩ := h
    exact body f cdv A outer s H Q E hr h
/-- d[k] = v -/
def zSetD : V → V → V → Hp → (Hp → Prop) → Prop := fun o i v H Q => match o with
  | .ref a => ∃ kvs k, H a = some (.dK kvs) ∧ i = kV k ∧ kvs.length < sizeLine ∧ ∀ H2, Wr H a (.dK (putK kvs k v)) H2 → Q H2
  | _ => False
theorem s_dict {X : Cx} (hu : X.A.units + 1 < cLine) : PSet X zSetD := by
  intro pins s σ H o i v ov iv u Q I ro ri rv h
  unfold zSetD at h
  split at h
  · obtain ⟨kvs, k, ea, rfl, hl, q⟩ := h
    cases ro
    exact d_setItem hu I (DPut.k ea hl) ri rv fun s' J => ⟨_, J, q _ wr⟩
  · exact h.elim
/-- range(a, b) -/
def tRng2 (ta : TA) : TI := fun σ H R => ta σ H fun vs H1 => match vs with
  | [.int i, .int j] => -(2 ^ 62) ≤ i ∧ i < 2 ^ 62 ∧ -(2 ^ 62) ≤ j ∧ j < 2 ^ 62 ∧ R (Itr i (j - i).toNat) H1
  | _ => False
theorem pi_rng2 {X : Cx} {tg a b : Expr} {ta : TA} {p pos : Pos} (hg : Gl X "range") (hm : X.mg "range" = none) (ha : PA X [a, b] ta) (hs : starEach [a, b] X.env = [(false, eval a X.env), (false, eval b X.env)] := by rfl) (hs2 : starEach [b] X.env = [(false, eval b X.env)] := by rfl) :
    PI X tg (.Call (.Name "range" p) [a, b] [] pos) (tRng2 ta) :=
  pi_w (pi_range2 hg hm (pa_mon ha) hs hs2) fun σ H R h => ⟨_, h, fun vs H1 h1 => by
    split at h1
    · obtain ⟨a1, a2, a3, a4, q⟩ := h1
      exact ⟨_, _, rfl, ⟨a1, a2, a3, a4⟩, q⟩
    · exact h1.elim⟩
/-! ### lists that may be shown beside a dict: they do not lie where the modules do -/
def zAddS (K : PySem.W.Frag) : R2 := fun x y H Q => match x, y with
  | .ref l, .ref b => ∃ xs zs, H l = some (.lst xs) ∧ H b = some (.lst zs) ∧ xs.length + zs.length ≤ sizeLine ∧ ∀ p H2, Nw H p (.lst (xs ++ zs)) H2 → p ≠ sysModules → Q (.ref p) H2
  | x, y => zAdd K x y H Q
theorem o_addS {X : Cx} : OpR X (binaryOp .Add) (zAddS X.K) := by
  intro pins s σ H x y v u Q I rx ry h
  unfold zAddS at h
  split at h
  · rename_i l b
    obtain ⟨xs, zs, h1, h2, hz, q⟩ := h
    cases rx
    cases ry
    obtain ⟨z1, its, n, r, hl, e⟩ := I.lstM h1
    obtain ⟨z2, its2, n2, r2, hl2, e2⟩ := I.lstM h2
    refine PySem.P.add_list e e2 ?_ (by rw [List.size_toArray, List.size_toArray]; omega)
    rw [show its.toArray ++ its2.toArray = (its ++ its2).toArray by simp]
    exact ⟨.ref _, _, I.lnew (t' := s.toks) (r.append r2) (by rw [List.length_append]; omega), rfl, q _ _ (nw I.fresh) (Nat.ne_of_gt I.big)⟩
  · exact o_add pins s σ H _ _ v u Q I rx ry h
theorem k_addS {X : Cx} (K : PySem.W.Frag) (hK : X.K = K := by rfl) : OpR X (binaryOp .Add) (zAddS K) := hK ▸ o_addS
def zListS (K : PySem.W.Frag) : List V → Hp → VK → Prop := fun vs H Q => match vs with
  | [.ref p] => ∃ ys, (SqL K H p ys ∨ SqT K H p ys) ∧ ∀ l H2, Nw H l (.lst ys) H2 → l ≠ sysModules → Q (.ref l) H2
  | _ => False
theorem c_listS {X : Cx} : CallR X (.type "list") (zListS X.K) := by
  intro pins s σ H xs us Q I r h
  unfold zListS at h
  split at h
  · rename_i p
    obtain ⟨ys, hq, q⟩ := h
    obtain ⟨u, rfl, ru⟩ := vals1 r
    cases ru
    have put : ∀ (its : List Value), Vals ys its → ys.length ≤ sizeLine → ∀ (h' : Heap) (n : Nat), (∀ b o, s.heap.get? b = some o → h'.get? b = some o) →
        h'.get? s.heap.objs.size = some { cls := .type "list", dict := none, data := .seq its.toArray n, slots := #[] } → EP X pins σ Q (.ref s.heap.objs.size) { s with heap := h' } := by
      intro its rv hz h' n kp e
      exact ⟨.ref _, _, I.laid (t' := s.toks) kp (Nat.le_refl _) (show ObjOk X.prog X.w _ h' _ (.lst ys) from ⟨hz, its, n, rv, e⟩), rfl, q _ _ (nw (I.hok.fresh (Nat.le_refl _))) (Nat.ne_of_gt I.big)⟩
    rcases hq with hq | hq
    · obtain ⟨its, rv, pl, hz⟩ := I.list hq
      have ll := rv.length
      obtain ⟨o, ho, hc, n, hd⟩ := pl.isList
      refine call_list_seq p (.inl rfl) ho hc hd (fun h' n' kp e => put its rv hz h' n' kp e) ?_
      simp only [List.size_toArray] <;> omega
    · obtain ⟨its, rv, ⟨o, ho, hc, n, hd⟩, hz⟩ := I.tuple hq
      have ll := rv.length
      refine call_list_seq p (.inr rfl) ho hc hd (fun h' n' kp e => put its rv hz h' n' kp e) ?_
      simp only [List.size_toArray] <;> omega
  · exact h.elim
theorem k_listS {X : Cx} (K : PySem.W.Frag) (hK : X.K = K := by rfl) : CallR X (.type "list") (zListS K) := hK ▸ c_listS
/-- isinstance of an error, by what the classes say of each other -/
theorem kit_sub {K : PySem.W.Frag} {C D : Addr} {b : Bool} (h : PySem.W.subIn K (.ref C) (.ref D) = some b) (self : PySem.W.subIn K (.ref C) (.ref C) = some true) (hd : PySem.W.hasDictIn K D = true) (ty : PySem.W.typeIn K (.ref D) = some (.type "type")) : PySem.W.kitOne K (.ref C) (.ref D) = some b := by
  unfold PySem.W.kitOne
  split
  · rename_i e
    have e : C = D := Value.ref.inj (eq_of_beq e)
    subst e
    rw [self] at h
    exact h
  · obtain ⟨cd, hc, _⟩ := PySem.W.any_some hd
    have e2 : ((PySem.W.clsIn K D).isSome && PySem.W.typeIn K (.ref D) == some (.type "type")) = true := by rw [hc, ty] <;> rfl
    show (if ((PySem.W.clsIn K D).isSome && PySem.W.typeIn K (.ref D) == some (.type "type")) = true then PySem.W.subIn K (.ref C) (.ref D) else none) = some b
    rw [if_pos e2]
    exact h
end Z

/-! M9: texts as lists of codes: signs, frames, their reading. -/
namespace M9
open PySem PySem.Spec PyProof.Rows L2 Z SX PySem.NumText

/-! ### signs -/
def Pr (l : List Nat) : Prop := ∀ c ∈ l, 32 ≤ c ∧ c ≤ 126
theorem pr_nil : Pr [] := fun _ h => by cases h
theorem pr_cons {c : Nat} {l : List Nat} (h : 32 ≤ c ∧ c ≤ 126) (t : Pr l) : Pr (c :: l) := fun d hd => by
  rcases List.mem_cons.mp hd with rfl | hd
  · exact h
  · exact t d hd
theorem pr_app {l m : List Nat} (a : Pr l) (b : Pr m) : Pr (l ++ m) := fun c hc => (List.mem_append.mp hc).elim (a c) (b c)
theorem pr_take {l : List Nat} (n : Nat) (a : Pr l) : Pr (l.take n) := fun c hc => a c (List.mem_of_mem_take hc)
theorem pr_drop {l : List Nat} (n : Nat) (a : Pr l) : Pr (l.drop n) := fun c hc => a c (List.mem_of_mem_drop hc)
theorem pr_rep {l : List Nat} (n : Nat) (a : Pr l) : Pr (List.replicate n l).flatten := fun c hc => by
  obtain ⟨m, hm, hc⟩ := List.mem_flatten.mp hc
  rw [(List.mem_replicate.mp hm).2] at hc
  exact a c hc
theorem pr_flat {ls : List (List Nat)} (a : ∀ l ∈ ls, Pr l) : Pr ls.flatten := fun c hc => by
  obtain ⟨m, hm, hc⟩ := List.mem_flatten.mp hc
  exact a m hm c hc
theorem pr_of {l : List Nat} (h : (l.all fun c => decide (32 ≤ c) && decide (c ≤ 126)) = true) : Pr l := fun c hc => by
  have q := (List.all_eq_true.mp h) c hc
  simpa using q
theorem printable_all : ∀ c : _root_.Fin 127, 32 ≤ c.val → Unicode.isPrintable c.val = true := by decide +kernel
theorem isascii_S {l : List Nat} (h : Pr l) : Txt.isascii (S l) = true := by
  show (l.toArray.all fun c => decide (c < 128)) = true
  rw [← Array.all_toList, List.all_eq_true]
  intro c hc
  have := h c (by simpa using hc)
  exact decide_eq_true (by omega)
theorem isprintable_S {l : List Nat} (h : Pr l) : Txt.isprintable (S l) = true := by
  show (l.toArray.all Unicode.isPrintable) = true
  rw [← Array.all_toList, List.all_eq_true]
  intro c hc
  have q := h c (by simpa using hc)
  exact printable_all ⟨c, by omega⟩ q.1
theorem S_lit {s : Str} {l : List Nat} (h : s.cps.toList = l) : s = S l := by
  rw [← h]
theorem length_S (l : List Nat) : (S l).length = l.length := S_len l
theorem cps_S (l : List Nat) : (S l).cps.toList = l := by simp [S]
theorem cut_S (l : List Nat) (lo hi : Option Int) : cutS (S l) lo hi = S ((l.drop (HT.sIx l.length 0 lo)).take (HT.sIx l.length l.length hi - HT.sIx l.length 0 lo)) := by
  unfold cutS
  rw [length_S]
theorem sIx_pos {n d : Nat} {i : Int} (h : 0 ≤ i) : HT.sIx n d (some i) = min i.toNat n := by
  show (if i < 0 then (i + (n : Int)).toNat else min i.toNat n) = min i.toNat n
  rw [if_neg (by omega)]
/-- l[a:b] for counts -/
theorem cut_nn {l : List Nat} {a b : Nat} : cutS (S l) (some (a : Int)) (some (b : Int)) = S ((l.drop a).take (b - a)) := by
  rw [cut_S, sIx_pos (by omega), sIx_pos (by omega), Int.toNat_natCast, Int.toNat_natCast]
  congr 1
  rcases Nat.le_total a l.length with h | h
  · rw [Nat.min_eq_left h]
    rcases Nat.le_total b l.length with h2 | h2
    · rw [Nat.min_eq_left h2]
    · rw [Nat.min_eq_right h2, List.take_of_length_le (by rw [List.length_drop]; omega), List.take_of_length_le (by rw [List.length_drop]; omega)]
  · rw [Nat.min_eq_right h, List.drop_of_length_le (Nat.le_refl _), List.drop_of_length_le h]
    simp
theorem cut_n {l : List Nat} {b : Nat} : cutS (S l) none (some (b : Int)) = S (l.take b) := by
  rw [cut_S, sIx_pos (by omega), Int.toNat_natCast]
  show S ((l.drop 0).take (min b l.length - 0)) = S (l.take b)
  rw [List.drop_zero, Nat.sub_zero]
  rcases Nat.le_total b l.length with h | h
  · rw [Nat.min_eq_left h]
  · rw [Nat.min_eq_right h, List.take_of_length_le (Nat.le_refl _), List.take_of_length_le h]
theorem cut_from {l : List Nat} {a : Nat} : cutS (S l) (some (a : Int)) none = S (l.drop a) := by
  rw [cut_S, sIx_pos (by omega), Int.toNat_natCast]
  show S ((l.drop (min a l.length)).take (l.length - min a l.length)) = S (l.drop a)
  rcases Nat.le_total a l.length with h | h
  · rw [Nat.min_eq_left h, List.take_of_length_le (by rw [List.length_drop]; omega)]
  · rw [Nat.min_eq_right h, List.drop_of_length_le (Nat.le_refl _), List.drop_of_length_le h]
    simp
theorem rep_S (l : List Nat) (n : Int) : rep (S l) n = S (List.replicate n.toNat l).flatten := by
  unfold rep
  rw [cps_S]
theorem rep_one (c : Nat) (n : Nat) : (List.replicate n [c]).flatten = List.replicate n c := by
  induction n with
  | zero => rfl
  | succ n ih => rw [List.replicate_succ, List.flatten_cons, ih]; rfl
theorem joinL_nil (ls : List (List Nat)) : TL.joinL [] ls = ls.flatten := by
  induction ls with
  | nil => rfl
  | cons a r ih =>
    cases r with
    | nil => simp [TL.joinL]
    | cons b r => rw [TL.joinL, ih]; simp
theorem join_flat {e : Str} (he : e = S []) (ls : List (List Nat)) : Txt.join e (ls.map S) = S ls.flatten := by
  rw [he, join_S, joinL_nil]

/-! ### frames -/
def frL (l : List Nat) : List Nat := List.replicate (5 - (TL.numL l.length).length) 48 ++ TL.numL l.length ++ [58] ++ l ++ [59]
theorem numL5 {n : Nat} (h : n < 100000) : (TL.numL n).length ≤ 5 ∧ 1 ≤ (TL.numL n).length := by
  refine ⟨TL.numL_len (by decide) (by simpa using h), ?_⟩
  rcases Nat.eq_zero_or_pos (TL.numL n).length with e | e
  · exact absurd (List.length_eq_zero_iff.mp e) (TL.numL_ne n)
  · exact e
theorem frL_len {l : List Nat} (h : l.length < 100000) : (frL l).length = l.length + 7 := by
  obtain ⟨h1, h2⟩ := numL5 h
  unfold frL
  simp only [List.length_append, List.length_replicate, List.length_singleton]
  omega
theorem numL_pr (n : Nat) : Pr (TL.numL n) := fun c hc => by
  have := TL.numL_digits n c hc
  omega
theorem frL_pr {l : List Nat} (h : Pr l) : Pr (frL l) := by
  unfold frL
  refine pr_app (pr_app (pr_app (pr_app (fun c hc => ?_) (numL_pr _)) (pr_of (by decide))) h) (pr_of (by decide))
  rw [(List.mem_replicate.mp hc).2]
  omega
/-- str(n).zfill(5) -/
theorem zfill_S {n : Nat} (h : n < 100000) : Txt.zfill (S (TL.numL n)) 5 = S (List.replicate (5 - (TL.numL n).length) 48 ++ TL.numL n) := by
  obtain ⟨h1, h2⟩ := numL5 h
  unfold Txt.zfill
  rw [length_S]
  by_cases h5 : (TL.numL n).length = 5
  · rw [if_pos (by omega), h5]
    rfl
  · rw [if_neg (by omega)]
    have e : (5 : Int).toNat - (TL.numL n).length = 5 - (TL.numL n).length := rfl
    rw [e]
    obtain ⟨c, r, hc⟩ : ∃ c r, TL.numL n = c :: r := by
      cases q : TL.numL n with
      | nil => exact absurd q (TL.numL_ne n)
      | cons c r => exact ⟨c, r, rfl⟩
    have hd := TL.numL_digits n c (by rw [hc]; exact List.mem_cons_self)
    unfold zfilled
    have e0 : (S (TL.numL n)).cps[0]? = some c := by
      rw [hc]
      simp [S]
    rw [e0]
    have pad : Builtin.Str.padded (S (TL.numL n)) (5 - (TL.numL n).length) 0 48 = S (List.replicate (5 - (TL.numL n).length) 48 ++ TL.numL n) := by
      unfold Builtin.Str.padded
      simp [S]
    split
    · rename_i q; cases q; omega
    · rename_i q; cases q; omega
    · exact pad

/-! ### reading frames -/
def digs (l : List Nat) : Bool := l.all fun c => decide (48 ≤ c) && decide (c ≤ 57)
/-- the number of a head -/
def headN (h : List Nat) : Option Nat := if h.length < 6 ∨ h[5]? ≠ some 58 ∨ digs (h.take 5) = false then none else some (digitsVal (h.take 5))
/-- the end of the frame that begins at i -/
def fEnd (l : List Nat) (i : Nat) : Option Nat := match headN ((l.drop i).take 6) with
  | none => none
  | some n => if n ≤ 80000 ∧ (l.drop (i + 6 + n)).take 1 = [59] then some (i + 6 + n + 1) else none
theorem take1 {l : List Nat} {i c : Nat} (h : (l.drop i).take 1 = [c]) : i < l.length ∧ l[i]? = some c := by
  have hl : i < l.length := by
    rcases Nat.lt_or_ge i l.length with q | q
    · exact q
    · rw [List.drop_of_length_le q] at h
      cases h
  rw [List.drop_eq_getElem_cons hl] at h
  have h2 : [l[i]] = [c] := h
  refine ⟨hl, ?_⟩
  rw [List.getElem?_eq_getElem hl]
  cases h2
  rfl
theorem fEnd_bounds {l : List Nat} {i e : Nat} (h : fEnd l i = some e) : i + 7 ≤ e ∧ e ≤ l.length := by
  unfold fEnd at h
  split at h
  · cases h
  · split at h
    · rename_i q
      cases h
      obtain ⟨h1, _⟩ := take1 q.2
      omega
    · cases h
def scan : Nat → List Nat → Nat → List (List Nat) × Nat
  | 0, _, i => ([], i)
  | f + 1, l, i => match fEnd l i with
    | none => ([], i)
    | some e => ((l.drop (i + 6)).take (e - 1 - (i + 6)) :: (scan f l e).1, (scan f l e).2)
theorem scan_stable : ∀ (f f' : Nat) (l : List Nat) (i : Nat), l.length + 1 ≤ i + f → l.length + 1 ≤ i + f' → scan f l i = scan f' l i
  | 0, 0, _, _, _, _ => rfl
  | 0, f' + 1, l, i, h, _ => by
    unfold scan
    cases q : fEnd l i with
    | none => rfl
    | some e => have := fEnd_bounds q; omega
  | f + 1, 0, l, i, _, h => by
    unfold scan
    cases q : fEnd l i with
    | none => rfl
    | some e => have := fEnd_bounds q; omega
  | f + 1, f' + 1, l, i, h, h' => by
    unfold scan
    cases q : fEnd l i with
    | none => rfl
    | some e =>
      have := fEnd_bounds q
      simp only
      rw [scan_stable f f' l e (by omega) (by omega)]
/-- the frames from i on -/
def sc (l : List Nat) (i : Nat) : List (List Nat) × Nat := scan (l.length + 1) l i
theorem sc_none {l : List Nat} {i : Nat} (h : fEnd l i = none) : sc l i = ([], i) := by
  unfold sc scan
  rw [h]
theorem sc_some {l : List Nat} {i e : Nat} (h : fEnd l i = some e) : sc l i = ((l.drop (i + 6)).take (e - 1 - (i + 6)) :: (sc l e).1, (sc l e).2) := by
  have b := fEnd_bounds h
  have e1 : scan l.length l e = scan (l.length + 1) l e := scan_stable _ _ _ _ (by omega) (by omega)
  show scan (l.length + 1) l i = _
  rw [scan, h]
  simp only
  rw [e1]
  rfl
theorem sc_le : ∀ (f : Nat) (l : List Nat) (i : Nat), i ≤ l.length → i ≤ (scan f l i).2 ∧ (scan f l i).2 ≤ l.length ∧ (scan f l i).1.length * 7 + i ≤ (scan f l i).2
  | 0, l, i, h => ⟨Nat.le_refl _, h, by simp [scan]⟩
  | f + 1, l, i, h => by
    unfold scan
    cases q : fEnd l i with
    | none => exact ⟨Nat.le_refl _, h, by simp⟩
    | some e =>
      have b := fEnd_bounds q
      have r := sc_le f l e b.2
      refine ⟨by simp only; omega, r.2.1, ?_⟩
      simp only [List.length_cons]
      omega
theorem sc_bounds {l : List Nat} {i : Nat} (h : i ≤ l.length) : i ≤ (sc l i).2 ∧ (sc l i).2 ≤ l.length ∧ (sc l i).1.length * 7 + i ≤ (sc l i).2 := sc_le _ l i h
theorem digitsVal_lt : ∀ (l : List Nat), digs l = true → digitsVal l < 10 ^ l.length := by
  intro l
  have gen : ∀ (l : List Nat) (a k : Nat), digs l = true → a < 10 ^ k → l.foldl (fun acc c => acc * 10 + (c - 48)) a < 10 ^ (k + l.length) := by
    intro l
    induction l with
    | nil => intro a k _ h; exact h
    | cons c r ih =>
      intro a k hd h
      have hd' : (decide (48 ≤ c) && decide (c ≤ 57) && digs r) = true := hd
      simp only [Bool.and_eq_true, decide_eq_true_eq] at hd'
      rw [List.foldl_cons, List.length_cons]
      have q := ih (a * 10 + (c - 48)) (k + 1) hd'.2 (by rw [Nat.pow_succ]; omega)
      rw [show k + (r.length + 1) = k + 1 + r.length by omega]
      exact q
  intro h
  have q := gen l 0 0 h (by decide)
  simpa [digitsVal] using q
theorem intText_head {h : List Nat} (h5 : h.length = 5) (hd : digs h = true) : intText? (S h) = some ((digitsVal h : Nat) : Int) := int_S hd (fun e => by rw [e] at h5; cases h5) (by omega)

/-! ### texts as data -/
def strsV (ls : List (List Nat)) : List V := (ls.map S).map V.str
theorem strsV_len (ls : List (List Nat)) : (strsV ls).length = ls.length := by simp [strsV]
theorem strsV_app (ls : List (List Nat)) (l : List Nat) : strsV (ls ++ [l]) = strsV ls ++ [.str (S l)] := by simp [strsV]
theorem strsV_at {ls : List (List Nat)} {i : Nat} {x : V} (h : (strsV ls)[i]? = some x) : ∃ l, ls[i]? = some l ∧ x = .str (S l) ∧ l ∈ ls := by
  unfold strsV at h
  rw [List.getElem?_map, List.getElem?_map] at h
  cases e : ls[i]? with
  | none => rw [e] at h; cases h
  | some l =>
    rw [e] at h
    exact ⟨l, rfl, (Option.some.inj h).symm, List.mem_of_getElem? e⟩
def strsD (ls : List (List Nat)) : PyData := .list (ls.map fun l => .str (S l))
theorem dpAll_strs {K : PySem.W.Frag} {H : Hp} : ∀ ls : List (List Nat), DpAll K H (strsV ls) (ls.map fun l => .str (S l))
  | [] => .nil
  | l :: r => .cons (.str (S l)) (dpAll_strs r)
theorem dp_strs {K : PySem.W.Frag} {H : Hp} {a : Addr} {ls : List (List Nat)} (h : SqL K H a (strsV ls)) : Dp K H (.ref a) (strsD ls) := .lst h (dpAll_strs ls)
theorem strOk_S {l : List Nat} (h : Pr l) : PyData.strOk (S l) = true := by
  show (l.toArray.all fun c => decide (c < 0x110000)) = true
  rw [← Array.all_toList, List.all_eq_true]
  intro c hc
  have := h c (by simpa using hc)
  exact decide_eq_true (by omega)
theorem lay_strs : ∀ {ls : List (List Nat)}, (∀ l ∈ ls, Pr l) → PyData.canLayAll0 (ls.map fun l => .str (S l)) = true
  | [], _ => rfl
  | l :: r, h => by
    show (PyData.strOk (S l) && PyData.canLayAll0 (r.map fun l => .str (S l))) = true
    rw [strOk_S (h l List.mem_cons_self), lay_strs fun l hl => h l (List.mem_cons_of_mem _ hl)]
    rfl
theorem depth_strs : ∀ ls : List (List Nat), PyData.depthAll (ls.map fun l => .str (S l)) = 0
  | [] => rfl
  | l :: r => by
    show max 0 (PyData.depthAll (r.map fun l => .str (S l))) = 0
    rw [depth_strs r]
    rfl
theorem shaped_strs {ls : List (List Nat)} (h : ∀ l ∈ ls, Pr l) : SeqAt.shaped (strsD ls) = true := by
  show (PyData.canLayAll0 _ && decide (PyData.depthAll (ls.map fun l => .str (S l)) + 1 ≤ 64)) = true
  rw [lay_strs h, depth_strs]
  rfl
theorem shaped_pair {d : PyData} {i : Int} (h : SeqAt.shaped d = true) (hd : d.depth ≤ 10) : SeqAt.shaped (.tuple [d, .int i]) = true := by
  have h1 : (d.canLay0 && decide (d.depth ≤ 64)) = true := h
  rw [Bool.and_eq_true] at h1
  show ((d.canLay0 && true) && decide (max d.depth (max 0 0) + 1 ≤ 64)) = true
  rw [h1.1]
  simp
  omega
theorem depth_strsD (ls : List (List Nat)) : (strsD ls).depth = 1 := by
  show PyData.depthAll (ls.map fun l => .str (S l)) + 1 = 1
  rw [depth_strs]
theorem sc_pr {l : List Nat} (h : Pr l) : ∀ (f i : Nat), ∀ m ∈ (scan f l i).1, Pr m
  | 0, _, m, hm => by cases hm
  | f + 1, i, m, hm => by
    unfold scan at hm
    cases q : fEnd l i with
    | none => rw [q] at hm; cases hm
    | some e =>
      rw [q] at hm
      rcases List.mem_cons.mp hm with rfl | hm
      · exact pr_take _ (pr_drop _ h)
      · exact sc_pr h f e m hm
theorem eqv_self {d : PyData} (h : SeqAt.shaped d = true) : PyData.eqv d d = true := SeqAt.eqv_refl d (SeqAt.canLay_of_shaped h)
theorem eqv_nil (ds : List PyData) : PyData.eqv (.list ds) (.list []) = ds.isEmpty := by
  rw [PyData.eqv]
  cases ds <;> rfl
def isdig (c : Nat) : Bool := decide (48 ≤ c) && decide (c ≤ 57)
theorem digits_list : ("0123456789" : Str).cps.toList = [48, 49, 50, 51, 52, 53, 54, 55, 56, 57] := by decide +kernel
theorem dig_in (c : Nat) : decide (c ∈ ("0123456789" : Str).cps.toList) = isdig c := by
  rw [digits_list]
  unfold isdig
  rw [Bool.eq_iff_iff]
  simp only [decide_eq_true_eq, Bool.and_eq_true, List.mem_cons, List.not_mem_nil, or_false]
  omega
theorem digs_all (l : List Nat) : digs l = (l.map isdig).all id := by
  unfold digs
  rw [List.all_map]
  rfl
theorem signs_strs (cs : List Nat) : cs.map signV = strsV (cs.map fun c => [c]) := by
  unfold strsV
  rw [List.map_map, List.map_map]
  rfl
theorem pr_one {c : Nat} (h : 32 ≤ c ∧ c ≤ 126) : Pr [c] := pr_cons h pr_nil
theorem digs_filter : ∀ l : List Nat, digs l = (l.filter fun c => !isdig c).isEmpty
  | [] => rfl
  | c :: r => by
    show (isdig c && digs r) = _
    rw [digs_filter r, List.filter_cons]
    cases isdig c <;> rfl
end M9

/-! M3: items and tokens judged as data. -/
namespace M3
open PySem PySem.Spec PyProof.Rows L2 Z SX M9

def asciiS (x : Str) : Bool := x.cps.toList.all fun c => decide (c < 128)
/-- a text of ASCII signs, or no text; a tuple of such -/
def asc1 : PyData → Bool
  | .str x => asciiS x && decide (x.length ≤ 100000)
  | _ => true
def asc : PyData → Bool
  | .str x => asc1 (.str x)
  | .tuple ds => ds.all asc1
  | _ => true
def intD : PyData → Bool
  | .int _ => true
  | _ => false
def within (d : PyData) (a b : Int) : Bool := match d with
  | .int i => decide (a ≤ i) && decide (i ≤ b)
  | _ => false
def prS (x : Str) : Bool := x.cps.toList.all fun c => decide (32 ≤ c) && decide (c ≤ 126)
def lowS (x : Str) : Bool := x.cps.toList.all fun c => decide (97 ≤ c) && decide (c ≤ 122)
def signsD : PyData → Bool
  | .str x => prS x
  | _ => false
def plainD (n : Nat) : PyData → Bool
  | .str x => prS x && decide (x.length ≤ n)
  | _ => false
def nameD : PyData → Bool
  | .str x => decide (1 ≤ x.length) && decide (x.length ≤ 8) && lowS x
  | _ => false
def tokenD : PyData → Bool
  | .tuple [a, b] => within a 1 999999999999 && within b 1 999999999999
  | _ => false
def itemD : PyData → Bool
  | .tuple [a, b, c, d, e, f] => nameD a && nameD b && plainD 40 c && within d 0 3 && within e 0 50 && within f 0 50
  | _ => false
def kindD : PyData → String
  | .none => "NoneType"
  | .bool _ => "bool"
  | .int _ => "int"
  | .str _ => "str"
  | .list _ => "list"
  | .tuple _ => "tuple"
  | .dict _ => "dict"
theorem Dz.kind {g : Bool} {K : PySem.W.Frag} {H : Hp} {v : V} {d : PyData} (h : Dz g H v d) : KindV K H v (kindD d) := by
  cases h with
  | non => rfl
  | bl b => rfl
  | int i => rfl
  | str x => rfl
  | lst h _ _ => exact .inl ⟨rfl, _, SqL.of h⟩
  | tup h _ => exact .inr (.inl ⟨rfl, _, SqT.of h⟩)
  | dic h _ => exact .inr (.inr ⟨rfl, .inl ⟨_, h⟩⟩)
theorem print_ascii : ∀ c : _root_.Fin 128, Unicode.isPrintable c.val = (decide (32 ≤ c.val) && decide (c.val ≤ 126)) := by decide +kernel
theorem alpha_ascii : ∀ c : _root_.Fin 128, Unicode.isAlpha c.val = ((decide (65 ≤ c.val) && decide (c.val ≤ 90)) || (decide (97 ≤ c.val) && decide (c.val ≤ 122))) := by decide +kernel
theorem lower_ascii : ∀ c : _root_.Fin 128, Unicode.isLower c.val = (decide (97 ≤ c.val) && decide (c.val ≤ 122)) := by decide +kernel
theorem upper_ascii : ∀ c : _root_.Fin 128, (Unicode.isUpper c.val || Unicode.isTitle c.val) = (decide (65 ≤ c.val) && decide (c.val ≤ 90)) := by decide +kernel
theorem all_eq {p q : Nat → Bool} : ∀ {l : List Nat}, (∀ c ∈ l, p c = q c) → l.all p = l.all q
  | [], _ => rfl
  | a :: r, h => by
    rw [List.all_cons, List.all_cons, h a List.mem_cons_self, all_eq fun c hc => h c (List.mem_cons_of_mem _ hc)]
theorem any_eq {p q : Nat → Bool} : ∀ {l : List Nat}, (∀ c ∈ l, p c = q c) → l.any p = l.any q
  | [], _ => rfl
  | a :: r, h => by
    rw [List.any_cons, List.any_cons, h a List.mem_cons_self, any_eq fun c hc => h c (List.mem_cons_of_mem _ hc)]
theorem lt_of_ascii {x : Str} (h : asciiS x = true) {c : Nat} (hc : c ∈ x.cps.toList) : c < 128 := by
  simpa using (List.all_eq_true.mp h) c hc
theorem isascii_D {x : Str} (h : asciiS x = true) : Txt.isascii x = true := by
  show (x.cps.all fun c => decide (c < 128)) = true
  rw [← Array.all_toList]
  exact h
theorem isprintable_D {x : Str} (h : asciiS x = true) : Txt.isprintable x = prS x := by
  show (x.cps.all Unicode.isPrintable) = _
  rw [← Array.all_toList]
  exact all_eq fun c hc => print_ascii ⟨c, lt_of_ascii h hc⟩
theorem isalpha_D {x : Str} (h : asciiS x = true) : Txt.isalpha x = (decide (x.length > 0) && x.cps.toList.all fun c => (decide (65 ≤ c) && decide (c ≤ 90)) || (decide (97 ≤ c) && decide (c ≤ 122))) := by
  show (decide (x.length > 0) && x.cps.all Unicode.isAlpha) = _
  rw [← Array.all_toList]
  congr 1
  exact all_eq fun c hc => alpha_ascii ⟨c, lt_of_ascii h hc⟩
theorem islower_D {x : Str} (h : asciiS x = true) : Txt.islower x = ((x.cps.toList.any fun c => decide (97 ≤ c) && decide (c ≤ 122)) && !(x.cps.toList.any fun c => decide (65 ≤ c) && decide (c ≤ 90))) := by
  show (x.cps.any Unicode.isLower && !x.cps.any fun c => Unicode.isUpper c || Unicode.isTitle c) = _
  rw [← Array.any_toList, ← Array.any_toList]
  congr 1
  · exact any_eq fun c hc => lower_ascii ⟨c, lt_of_ascii h hc⟩
  · congr 1
    exact any_eq fun c hc => upper_ascii ⟨c, lt_of_ascii h hc⟩
/-- the program's test of a name is the law's -/
theorem name_law {x : Str} (h : asciiS x = true) : (prS x && (decide (x.length ≤ 8) && (Txt.isalpha x && Txt.islower x))) = nameD (.str x) := by
  have hl : x.length = x.cps.toList.length := by rw [Array.length_toList]; rfl
  rw [isalpha_D h, islower_D h]
  unfold nameD
  rw [Bool.eq_iff_iff]
  constructor
  · intro e
    simp only [Bool.and_eq_true, decide_eq_true_eq, List.all_eq_true, Bool.or_eq_true, List.any_eq_true, Bool.not_eq_true', List.any_eq_false, lowS, prS] at e ⊢
    obtain ⟨_, h8, ⟨h1, ha⟩, _, hu⟩ := e
    refine ⟨⟨h1, h8⟩, fun c hc => ?_⟩
    rcases ha c hc with z | z
    · exact absurd z (hu c hc)
    · exact z
  · intro e
    simp only [Bool.and_eq_true, decide_eq_true_eq, List.all_eq_true, Bool.or_eq_true, List.any_eq_true, Bool.not_eq_true', List.any_eq_false, lowS, prS] at e ⊢
    obtain ⟨⟨h1, h8⟩, ha⟩ := e
    refine ⟨fun c hc => by have := ha c hc; omega, h8, ⟨h1, fun c hc => .inr (ha c hc)⟩, ?_, fun c hc => by have := ha c hc; omega⟩
    cases e : x.cps.toList with
    | nil => rw [hl, e] at h1; exact absurd h1 (by decide)
    | cons c r => exact ⟨c, List.mem_cons_self, ha c (by rw [e]; exact List.mem_cons_self)⟩
/-- what a filtered text leaves is nothing, if all its signs are good -/
theorem filter_none {p : Nat → Bool} (l : List Nat) : (l.filter fun c => !p c).isEmpty = l.all p := by
  induction l with
  | nil => rfl
  | cons a r ih =>
    rw [List.filter_cons, List.all_cons]
    cases e : p a with
    | true => simpa using ih
    | false => rfl
theorem letters_list : ("abcdefghijklmnopqrstuvwxyz" : Str).cps.toList = [97, 98, 99, 100, 101, 102, 103, 104, 105, 106, 107, 108, 109, 110, 111, 112, 113, 114, 115, 116, 117, 118, 119, 120, 121, 122] := by decide +kernel
def low (c : Nat) : Bool := decide (97 ≤ c) && decide (c ≤ 122)
def prt (c : Nat) : Bool := decide (32 ≤ c) && decide (c ≤ 126)
theorem low_in (c : Nat) : decide (c ∈ ("abcdefghijklmnopqrstuvwxyz" : Str).cps.toList) = low c := by
  rw [letters_list]
  unfold low
  rw [Bool.eq_iff_iff]
  simp only [decide_eq_true_eq, Bool.and_eq_true, List.mem_cons, List.not_mem_nil, or_false]
  omega
theorem one_lt {a b : Nat} : ([a] : List Nat) < [b] ↔ a < b := by
  rw [List.cons_lt_cons_iff]
  constructor
  · rintro (h | ⟨_, h⟩)
    · exact h
    · exact absurd h (by simp)
  · exact .inl
theorem lt_sp {c : Nat} : (⟨#[c]⟩ : Str).cps.toList < (" " : Str).cps.toList ↔ c < 32 := by
  rw [show (" " : Str).cps.toList = [32] by decide +kernel, show (⟨#[c]⟩ : Str).cps.toList = [c] from rfl]
  exact one_lt
theorem gt_tl {c : Nat} : ("~" : Str).cps.toList < (⟨#[c]⟩ : Str).cps.toList ↔ 126 < c := by
  rw [show ("~" : Str).cps.toList = [126] by decide +kernel, show (⟨#[c]⟩ : Str).cps.toList = [c] from rfl]
  exact one_lt
def signsD2 (l : List Nat) : PyData := .list (l.map fun c => .str (S [c]))
theorem signs_none {x : Str} {p : Nat → Bool} : (x.cps.toList.filter fun c => !p c).isEmpty = x.cps.toList.all p := filter_none _
theorem shaped_asc {cs : List Nat} (h : ∀ c ∈ cs, c < 128) : SeqAt.shaped (strsD (cs.map fun c => [c])) = true := by
  have lay : ∀ cs : List Nat, (∀ c ∈ cs, c < 128) → PyData.canLayAll0 ((cs.map fun c => [c]).map fun l => .str (S l)) = true := by
    intro cs
    induction cs with
    | nil => intro _; rfl
    | cons c r ih =>
      intro h
      have hc := h c List.mem_cons_self
      show (PyData.strOk (S [c]) && PyData.canLayAll0 ((r.map fun c => [c]).map fun l => .str (S l))) = true
      rw [ih fun x hx => h x (List.mem_cons_of_mem _ hx), Bool.and_true]
      show ([c].toArray.all fun c => decide (c < 0x110000)) = true
      rw [← Array.all_toList, List.all_eq_true]
      intro x hx
      have : x = c := by simpa using hx
      rw [this]
      exact decide_eq_true (by omega)
  show (PyData.canLayAll0 _ && decide (PyData.depthAll ((cs.map fun c => [c]).map fun l => .str (S l)) + 1 ≤ 64)) = true
  rw [lay cs h, depth_strs]
  rfl
theorem eqv_strs_nil (cs : List Nat) : PyData.eqv (strsD (cs.map fun c => [c])) (strsD []) = cs.isEmpty := by
  unfold strsD
  rw [List.map_nil, eqv_nil]
  cases cs <;> rfl
theorem filter_step {l : List Nat} {p : Nat → Bool} {i c : Nat} (hc : l[i]? = some c) : (l.take (i + 1)).filter (fun c => !p c) = (l.take i).filter (fun c => !p c) ++ (if p c then [] else [c]) := by
  rw [List.take_add_one, hc, List.filter_append]
  cases e : p c <;> simp [e]
/-! ### how long what is shown is -/
theorem piled_shown : ∀ ds : List PyData, piled (PyData.shownAll ds) = (ds.map fun d => d.shown.length + 2).sum
  | [] => rfl
  | d :: r => by
    rw [PyData.shownAll, piled_cons, piled_shown r, List.map_cons, List.sum_cons]
theorem len_tuple (ds : List PyData) : (PyData.tuple ds).shown.length ≤ 4 + (ds.map fun d => d.shown.length + 2).sum := by
  have e : (PyData.tuple ds).shown = tupleText (PyData.shownAll ds) := by rw [PyData.shown]
  rw [e, ← piled_shown]
  unfold tupleText
  rw [strLen_append, strLen_append]
  have h2 : (Str.ofString (if (PyData.shownAll ds).length == 1 then ",)" else ")")).length ≤ 2 := by split <;> decide
  have h1 : ("(" : Str).length = 1 := rfl
  by_cases hn : PyData.shownAll ds = []
  · rw [hn]
    decide
  · have := join_length_add _ hn
    omega
theorem len_from : ∀ (ts : List Str) (k : Nat) (acc : Str), (textFrom k acc ts).length ≤ acc.length + piled ts
  | [], k, acc => Nat.le_add_right _ _
  | t :: r, k, acc => by
    have ih := len_from r (k + 1) (acc ++ (if k > 0 then ", " else "" : String) ++ t)
    have e : (acc ++ (if k > 0 then ", " else "" : String) ++ t).length = acc.length + (if k > 0 then 2 else 0) + t.length := by
      rw [strLen_append, strLen_append]
      split <;> rfl
    rw [piled_cons]
    show (textFrom (k + 1) (acc ++ (if k > 0 then ", " else "" : String) ++ t) r).length ≤ _
    rw [e] at ih
    have hb : (if k > 0 then 2 else 0) ≤ 2 := by split <;> omega
    omega
theorem len_list (ds : List PyData) : (PyData.list ds).shown.length ≤ 4 + (ds.map fun d => d.shown.length + 2).sum := by
  have e : (PyData.list ds).shown = listText (PyData.shownAll ds) := by rw [PyData.shown]
  rw [e, ← piled_shown]
  unfold listText
  rw [strLen_append]
  have := len_from (PyData.shownAll ds) 0 "["
  have h1 : ("[" : Str).length = 1 := rfl
  have h2 : ("]" : Str).length = 1 := rfl
  omega
mutual
/-- no list in it is as long as a box -/
def nobox : PyData → Bool
  | .none | .bool _ | .int _ | .str _ => true
  | .list ds => (ds.length != 4) && noboxAll ds
  | .tuple ds => noboxAll ds
  | .dict kvs => noboxKv kvs
def noboxAll : List PyData → Bool
  | [] => true
  | d :: r => nobox d && noboxAll r
def noboxKv : List (PyData × PyData) → Bool
  | [] => true
  | (_, d) :: r => nobox d && noboxKv r
end
theorem DzAll.len {g : Bool} {H : Hp} : ∀ {xs : List V} {ds : List PyData}, DzAll g H xs ds → xs.length = ds.length
  | _, _, .nil => rfl
  | _, _, .cons _ t => by rw [List.length_cons, List.length_cons, DzAll.len t]
theorem DzAll.take {g : Bool} {H : Hp} : ∀ {xs : List V} {ds : List PyData} (n : Nat), DzAll g H xs ds → DzAll g H (xs.take n) (ds.take n)
  | _, _, 0, _ => by rw [List.take_zero, List.take_zero]; exact .nil
  | _, _, n + 1, .nil => .nil
  | _, _, n + 1, .cons h t => .cons h (DzAll.take n t)
theorem DzAll.drop {g : Bool} {H : Hp} : ∀ {xs : List V} {ds : List PyData} (n : Nat), DzAll g H xs ds → DzAll g H (xs.drop n) (ds.drop n)
  | _, _, 0, h => h
  | _, _, n + 1, .nil => .nil
  | _, _, n + 1, .cons h t => DzAll.drop n t
theorem DzAll.app {g : Bool} {H : Hp} : ∀ {xs ys : List V} {ds es : List PyData}, DzAll g H xs ds → DzAll g H ys es → DzAll g H (xs ++ ys) (ds ++ es)
  | _, _, _, _, .nil, h => h
  | _, _, _, _, .cons h t, h2 => .cons h (DzAll.app t h2)
theorem not4 {ds : List PyData} (h : (ds.length != 4) = true) : ds.length ≠ 4 := by simpa using h
mutual
/-- b is a list of four: what has none is kept where all but b is kept -/
theorem Dz.but {g : Bool} {H H2 : Hp} {b : Addr} {bs : List V} (hb : H b = some (.lst bs)) (h4 : bs.length = 4) (t : But b H H2) : ∀ {v : V} {d : PyData}, Dz g H v d → nobox d = true → Dz g H2 v d
  | _, _, .non, _ => .non
  | _, _, .bl b, _ => .bl b
  | _, _, .int i, _ => .int i
  | _, _, .str x, _ => .str x
  | _, _, .lst (ds := ds) h n a, k => by
    have k : ((ds.length != 4) && noboxAll ds) = true := k
    rw [Bool.and_eq_true] at k
    refine .lst (t _ _ (fun z => ?_) h) n (DzAll.but hb h4 t a k.2)
    rw [z, hb] at h
    have := DzAll.len a
    cases h
    exact not4 k.1 (by omega)
  | _, _, .tup h a, k => .tup (t _ _ (fun z => by rw [z, hb] at h; cases h) h) (DzAll.but hb h4 t a k)
  | _, _, .dic h a, k => .dic (t _ _ (fun z => by rw [z, hb] at h; cases h) h) (DzKv.but hb h4 t a k)
theorem DzAll.but {g : Bool} {H H2 : Hp} {b : Addr} {bs : List V} (hb : H b = some (.lst bs)) (h4 : bs.length = 4) (t : But b H H2) : ∀ {vs : List V} {ds : List PyData}, DzAll g H vs ds → noboxAll ds = true → DzAll g H2 vs ds
  | _, _, .nil, _ => .nil
  | _, _, .cons h r, k => by
    have k := Bool.and_eq_true _ _ ▸ k
    exact .cons (Dz.but hb h4 t h k.1) (DzAll.but hb h4 t r k.2)
theorem DzKv.but {g : Bool} {H H2 : Hp} {b : Addr} {bs : List V} (hb : H b = some (.lst bs)) (h4 : bs.length = 4) (t : But b H H2) : ∀ {kvs : List (Key × V)} {D : List (PyData × PyData)}, DzKv g H kvs D → noboxKv D = true → DzKv g H2 kvs D
  | _, _, .nil, _ => .nil
  | _, _, .cons h r, k => by
    have k := Bool.and_eq_true _ _ ▸ k
    exact .cons (Dz.but hb h4 t h k.1) (DzKv.but hb h4 t r k.2)
end
def oddOk (d : PyData) : Bool := asc1 d && d.showable && decide (d.depth ≤ 3) && decide (d.shown.length ≤ 2000) && nobox d
theorem oddOk_of {d : PyData} (h : oddOk d = true) : asc1 d = true ∧ d.showable = true ∧ d.depth ≤ 3 ∧ d.shown.length ≤ 2000 := by
  unfold oddOk at h
  simp only [Bool.and_eq_true, decide_eq_true_eq] at h
  exact ⟨h.1.1.1.1, h.1.1.1.2, h.1.1.2, h.1.2⟩
theorem odd_nobox {d : PyData} (h : oddOk d = true) : nobox d = true := by
  unfold oddOk at h
  rw [Bool.and_eq_true] at h
  exact h.2
theorem odd_noboxAll : ∀ {ds : List PyData}, (∀ d ∈ ds, oddOk d = true) → noboxAll ds = true
  | [], _ => rfl
  | d :: r, h => by
    show (nobox d && noboxAll r) = true
    rw [odd_nobox (h d List.mem_cons_self), odd_noboxAll fun x hx => h x (List.mem_cons_of_mem _ hx)]
    rfl
/-- a tuple of good parts -/
def Tv (H : Hp) (p : Addr) (xs : List V) (ds : List PyData) : Prop := H p = some (.tup xs) ∧ DzAll true H xs ds ∧ ∀ d ∈ ds, oddOk d = true
theorem Tv.same {H H2 : Hp} {p : Addr} {xs : List V} {ds : List PyData} (h : Tv H p xs ds) (s : Same H H2) : Tv H2 p xs ds := ⟨s _ _ h.1, DzAll.same s h.2.1, h.2.2⟩
theorem addT {K : PySem.W.Frag} {H : Hp} {l b : Addr} {xs zs : List V} {Q : VK} (h1 : H l = some (.tup xs)) (h2 : H b = some (.tup zs)) (hz : xs.length + zs.length ≤ sizeLine) (q : ∀ r H2, Same H H2 → H2 r = some (.tup (xs ++ zs)) → Q (.ref r) H2) : zAdd K (.ref l) (.ref b) H Q :=
  .inr ⟨xs, zs, SqT.of h1, SqT.of h2, hz, (fun e => q b H (Same.refl H) (by rw [e]; exact h2)), (fun _ e => q l H (Same.refl H) (by rw [e, List.append_nil]; exact h1)), fun _ _ p H2 n => q p H2 n.same n.here⟩
theorem cutV_to (xs : List V) (j : Nat) : cutV xs none (some (j : Int)) = xs.take j := by
  unfold cutV
  rw [sIx_pos (by omega), Int.toNat_natCast]
  show ((xs.drop 0).take (min j xs.length - 0)) = _
  rw [List.drop_zero, Nat.sub_zero]
  rcases Nat.le_total j xs.length with h | h
  · rw [Nat.min_eq_left h]
  · rw [Nat.min_eq_right h, List.take_length, List.take_of_length_le h]
theorem cutV_toneg (xs : List V) : cutV xs none (some (-1)) = xs.take (xs.length - 1) := by
  unfold cutV
  show ((xs.drop 0).take ((if (-1 : Int) < 0 then (-1 + (xs.length : Int)).toNat else min (-1 : Int).toNat xs.length) - 0)) = _
  rw [if_pos (by decide), List.drop_zero, Nat.sub_zero, show (-1 + (xs.length : Int)).toNat = xs.length - 1 by omega]
theorem cutV_frneg (xs : List V) : cutV xs (some (-1)) none = xs.drop (xs.length - 1) := by
  unfold cutV
  show ((xs.drop (if (-1 : Int) < 0 then (-1 + (xs.length : Int)).toNat else min (-1 : Int).toNat xs.length)).take (xs.length - (if (-1 : Int) < 0 then (-1 + (xs.length : Int)).toNat else min (-1 : Int).toNat xs.length))) = _
  rw [if_pos (by decide), show (-1 + (xs.length : Int)).toNat = xs.length - 1 by omega, List.take_of_length_le (by rw [List.length_drop]; omega)]
theorem sIx_neg {n d : Nat} : HT.sIx n d (some (-1)) = n - 1 := by
  show (if (-1 : Int) < 0 then (-1 + (n : Int)).toNat else min (-1 : Int).toNat n) = _
  rw [if_pos (by decide)]
  omega
theorem cutV_fr (xs : List V) (j : Nat) : cutV xs (some (j : Int)) none = xs.drop j := by
  unfold cutV
  rw [sIx_pos (by omega), Int.toNat_natCast]
  show ((xs.drop (min j xs.length)).take (xs.length - min j xs.length)) = _
  rcases Nat.le_total j xs.length with h | h
  · rw [Nat.min_eq_left h, List.take_of_length_le (by rw [List.length_drop]; omega)]
  · rw [Nat.min_eq_right h, List.drop_length, List.drop_eq_nil_of_le h, List.take_nil]
theorem sum_odd : ∀ {ds : List PyData}, (∀ d ∈ ds, oddOk d = true) → (ds.map fun d => d.shown.length + 2).sum ≤ ds.length * 2002
  | [], _ => Nat.zero_le _
  | d :: r, h => by
    have h1 := (oddOk_of (h d List.mem_cons_self)).2.2.2
    have h2 := sum_odd fun x hx => h x (List.mem_cons_of_mem _ hx)
    rw [List.map_cons, List.sum_cons, List.length_cons, Nat.succ_mul]
    omega
theorem depth_odd : ∀ {ds : List PyData}, (∀ d ∈ ds, oddOk d = true) → PyData.depthAll ds ≤ 3
  | [], _ => Nat.zero_le _
  | d :: r, h => by
    have h1 := (oddOk_of (h d List.mem_cons_self)).2.2.1
    have h2 := depth_odd fun x hx => h x (List.mem_cons_of_mem _ hx)
    show max d.depth (PyData.depthAll r) ≤ 3
    omega
theorem show_odd : ∀ {ds : List PyData}, (∀ d ∈ ds, oddOk d = true) → PyData.showableAll ds = true
  | [], _ => rfl
  | d :: r, h => by
    have h1 := (oddOk_of (h d List.mem_cons_self)).2.1
    have h2 := show_odd fun x hx => h x (List.mem_cons_of_mem _ hx)
    show (d.showable && PyData.showableAll r) = true
    rw [h1, h2]
    rfl
theorem asc_odd : ∀ {ds : List PyData}, (∀ d ∈ ds, oddOk d = true) → ds.all asc1 = true := fun {ds} h => List.all_eq_true.mpr fun d hd => (oddOk_of (h d hd)).1
theorem odd_int {i : Int} (h : -10000000000000 ≤ i ∧ i ≤ 10000000000000) : oddOk (.int i) = true := by
  have hl : i.natAbs.log2 < 1920 := by
    rcases Nat.eq_zero_or_pos i.natAbs with e | e
    · rw [e]; decide
    · have q : 2 ^ i.natAbs.log2 ≤ i.natAbs := Nat.log2_self_le (by omega)
      have h2 : i.natAbs < 2 ^ 60 := by omega
      have : i.natAbs.log2 < 60 := (Nat.pow_lt_pow_iff_right (by decide : 1 < 2)).mp (Nat.lt_of_le_of_lt q h2)
      omega
  have e : (PyData.int i).shown = Str.ofString (toString i) := by simp only [PyData.shown]
  unfold oddOk
  rw [e, show (PyData.int i).showable = true by simpa only [PyData.showable, decide_eq_true_eq] using hl]
  have := int_text_len_1921 hl
  show (true && true && decide (0 ≤ 3) && decide ((Str.ofString (toString i)).length ≤ 2000) && true) = true
  rw [decide_eq_true (p := (Str.ofString (toString i)).length ≤ 2000) (by omega)]
  rfl
theorem odd_str {l : List Nat} (h : Pr l) (hl : l.length ≤ 100) : oddOk (.str (S l)) = true := by
  have e : (PyData.str (S l)).shown = reprText (S l) := by simp only [PyData.shown]
  have r := PySem.StrLaws.reprText_len (S l) (fun c hc => by
    rw [cps_S] at hc
    have := h c hc
    omega)
  have ls := length_S l
  have a : asciiS (S l) = true := by
    unfold asciiS
    rw [cps_S, List.all_eq_true]
    intro c hc
    have := h c hc
    exact decide_eq_true (by omega)
  have h1 : asc1 (.str (S l)) = true := by
    show (asciiS (S l) && decide ((S l).length ≤ 100000)) = true
    rw [a, length_S, decide_eq_true (by omega)]
    rfl
  unfold oddOk
  rw [e, h1]
  show (true && true && decide (0 ≤ 3) && decide ((reprText (S l)).length ≤ 2000) && true) = true
  rw [decide_eq_true (p := (reprText (S l)).length ≤ 2000) (by omega)]
  rfl
/-- a value that may be judged and shown -/
def Good (H : Hp) (v : V) : Prop := ∃ g d, Dz g H v d ∧ (d.hasDict = true → g = true) ∧ asc d = true ∧ d.showable = true ∧ d.depth ≤ 60 ∧ d.shown.length ≤ 10000000 ∧ nobox d = true
theorem Good.same {H H2 : Hp} {v : V} (h : Good H v) (s : Same H H2) : Good H2 v := by
  obtain ⟨g, d, a, b⟩ := h
  exact ⟨g, d, Dz.same s a, b⟩
theorem good_tup {H : Hp} {p : Addr} {xs : List V} {ds : List PyData} (h : H p = some (.tup xs)) (a : DzAll true H xs ds) (ok : ∀ d ∈ ds, oddOk d = true) (l : ds.length ≤ 20) : Good H (.ref p) := by
  refine ⟨true, .tuple ds, .tup h a, fun _ => rfl, asc_odd ok, show_odd ok, ?_, ?_, odd_noboxAll ok⟩
  · show PyData.depthAll ds + 1 ≤ 60
    have := depth_odd ok
    omega
  · have h1 := len_tuple ds
    have h2 := sum_odd ok
    have h3 : ds.length * 2002 ≤ 20 * 2002 := Nat.mul_le_mul_right _ l
    omega
def atomD : PyData → Bool
  | .none | .bool _ | .int _ | .str _ => true
  | _ => false
theorem atom_dict : ∀ {ds : List PyData}, (∀ d ∈ ds, atomD d = true) → PyData.hasDictAll ds = false
  | [], _ => by simp only [PyData.hasDictAll]
  | d :: r, h => by
    have h1 := h d List.mem_cons_self
    have h2 := atom_dict fun x hx => h x (List.mem_cons_of_mem _ hx)
    have h3 : d.hasDict = false := by cases d <;> first | (simp only [PyData.hasDict]; done) | cases h1
    simp only [PyData.hasDictAll, h3, h2, Bool.or_self]
mutual
theorem Dz.weak {H : Hp} : ∀ {v : V} {d : PyData}, Dz true H v d → Dz false H v d
  | _, _, .non => .non
  | _, _, .bl b => .bl b
  | _, _, .int i => .int i
  | _, _, .str x => .str x
  | _, _, .lst h n a => .lst h (fun z => by cases z) (DzAll.weak a)
  | _, _, .tup h a => .tup h (DzAll.weak a)
  | _, _, .dic h a => .dic h (DzKv.weak a)
theorem DzAll.weak {H : Hp} : ∀ {vs : List V} {ds : List PyData}, DzAll true H vs ds → DzAll false H vs ds
  | _, _, .nil => .nil
  | _, _, .cons h t => .cons (Dz.weak h) (DzAll.weak t)
theorem DzKv.weak {H : Hp} : ∀ {kvs : List (Key × V)} {D : List (PyData × PyData)}, DzKv true H kvs D → DzKv false H kvs D
  | _, _, .nil => .nil
  | _, _, .cons h t => .cons (Dz.weak h) (DzKv.weak t)
end
theorem good_lst {H : Hp} {p : Addr} {xs : List V} {ds : List PyData} (h : H p = some (.lst xs)) (a : DzAll true H xs ds) (ok : ∀ d ∈ ds, oddOk d = true) (at' : ∀ d ∈ ds, atomD d = true) (l : ds.length ≤ 20) (l4 : ds.length ≠ 4) : Good H (.ref p) := by
  refine ⟨false, .list ds, .lst h (fun z => by cases z) (DzAll.weak a), fun z => ?_, rfl, show_odd ok, ?_, ?_, by show ((ds.length != 4) && noboxAll ds) = true; rw [odd_noboxAll ok, Bool.and_true]; simpa using l4⟩
  · have e : (PyData.list ds).hasDict = PyData.hasDictAll ds := by simp only [PyData.hasDict]
    rw [e, atom_dict at'] at z
    cases z
  · show PyData.depthAll ds + 1 ≤ 60
    have := depth_odd ok
    omega
  · have h1 := len_list ds
    have h2 := sum_odd ok
    have h3 : ds.length * 2002 ≤ 20 * 2002 := Nat.mul_le_mul_right _ l
    omega
theorem good_atom {H : Hp} {v : V} {d : PyData} (h : Dz true H v d) (ok : oddOk d = true) (a : atomD d = true) : Good H v := by
  obtain ⟨h1, h2, h3, h4⟩ := oddOk_of ok
  exact ⟨true, d, h, fun _ => rfl, (by cases d <;> first | exact h1 | rfl | cases a), h2, by omega, by omega, odd_nobox ok⟩
theorem Good.but {H H2 : Hp} {b : Addr} {bs : List V} (hb : H b = some (.lst bs)) (h4 : bs.length = 4) (t : But b H H2) {v : V} (h : Good H v) : Good H2 v := by
  obtain ⟨g, d, a, h1, h2, h3, h5, h6, h7⟩ := h
  exact ⟨g, d, Dz.but hb h4 t a h7, h1, h2, h3, h5, h6, h7⟩
/-- a tuple, or a dict, of one tuple -/
theorem good_tup1 {H : Hp} {p r : Addr} {xs : List V} {ds : List PyData} (h : H p = some (.tup xs)) (a : DzAll true H xs ds) (ok : ∀ d ∈ ds, oddOk d = true) (l : ds.length ≤ 20) (hr : H r = some (.tup [.ref p])) : Good H (.ref r) := by
  have h1 := len_tuple ds
  have h2 := sum_odd ok
  have h3 : ds.length * 2002 ≤ 20 * 2002 := Nat.mul_le_mul_right _ l
  have hd := depth_odd ok
  refine ⟨true, .tuple [.tuple ds], .tup hr (.cons (.tup h a) .nil), fun _ => rfl, rfl, ?_, ?_, ?_, by show (noboxAll ds && true) = true; rw [odd_noboxAll ok]; rfl⟩
  · show (PyData.showableAll ds && true) = true
    rw [show_odd ok]
    rfl
  · show max (PyData.depthAll ds + 1) 0 + 1 ≤ 60
    omega
  · have h4 := len_tuple [.tuple ds]
    rw [List.map_cons, List.map_nil, List.sum_cons, List.sum_nil] at h4
    omega
theorem good_dic1 {H : Hp} {p r : Addr} {xs : List V} {ds : List PyData} (h : H p = some (.tup xs)) (a : DzAll true H xs ds) (ok : ∀ d ∈ ds, oddOk d = true) (l : ds.length ≤ 20) (hr : H r = some (.dK [(.inr "a", .ref p)])) : Good H (.ref r) := by
  have h1 := len_tuple ds
  have h2 := sum_odd ok
  have h3 : ds.length * 2002 ≤ 20 * 2002 := Nat.mul_le_mul_right _ l
  have hd := depth_odd ok
  refine ⟨true, .dict [(.str "a", .tuple ds)], .dic hr (.cons (k := .inr "a") (.tup h a) .nil), fun _ => rfl, rfl, ?_, ?_, ?_, by show (noboxAll ds && true) = true; rw [odd_noboxAll ok]; rfl⟩
  · show (PyData.showable (.str "a") && PyData.showableAll ds && true) = true
    rw [show_odd ok]
    rfl
  · show _ ≤ 60
    simp only [PyData.depth, PyData.depthKv]
    omega
  · have e : (PyData.dict [(.str "a", .tuple ds)]).shown = dictText [reprText "a" ++ ": " ++ (PyData.tuple ds).shown] := by
      simp only [PyData.shown, PyData.shownKv]
    rw [e]
    unfold dictText
    rw [strLen_append, strLen_append]
    show _ + (reprText "a" ++ ": " ++ (PyData.tuple ds).shown).length + _ ≤ _
    rw [strLen_append, strLen_append]
    have e1 : ("{" : Str).length = 1 := rfl
    have e2 : ("}" : Str).length = 1 := rfl
    have e3 : (": " : Str).length = 2 := rfl
    have e4 : (reprText "a").length = 3 := by decide +kernel
    omega
end M3

/-! M4: commands judged as data; what is kept while a box is drawn from; forms. -/
namespace M4
open PySem PySem.Spec PyProof.Rows L2 Z SX M9 M3
mutual
/-- all its texts are of ASCII signs and not long -/
def ascA : PyData → Bool
  | .none | .bool _ | .int _ => true
  | .str x => asciiS x && decide (x.length ≤ 100000)
  | .list ds => ascAll ds
  | .tuple ds => ascAll ds
  | .dict kvs => ascKv kvs
def ascAll : List PyData → Bool
  | [] => true
  | d :: r => ascA d && ascAll r
def ascKv : List (PyData × PyData) → Bool
  | [] => true
  | (_, d) :: r => ascA d && ascKv r
end
theorem asc_one {d : PyData} (h : ascA d = true) : asc1 d = true := by
  cases d <;> first | rfl | exact h
theorem ascAll_mem : ∀ {ds : List PyData}, ascAll ds = true → ∀ d ∈ ds, ascA d = true
  | d :: r, h, x, hx => by
    have h : (ascA d && ascAll r) = true := h
    rw [Bool.and_eq_true] at h
    rcases List.mem_cons.mp hx with rfl | hx
    · exact h.1
    · exact ascAll_mem h.2 x hx
theorem ascAll_of : ∀ {ds : List PyData}, (∀ d ∈ ds, ascA d = true) → ascAll ds = true
  | [], _ => rfl
  | d :: r, h => by
    show (ascA d && ascAll r) = true
    rw [h d List.mem_cons_self, ascAll_of fun x hx => h x (List.mem_cons_of_mem _ hx)]
    rfl
theorem asc_of {d : PyData} (h : ascA d = true) : asc d = true := by
  cases d with
  | tuple ds => exact List.all_eq_true.mpr fun d hd => asc_one (ascAll_mem h d hd)
  | str x => exact h
  | _ => rfl
/-- a list like a box -/
def boxLike : List PyData → Bool
  | [.int _, .bool _, .int _, .int _] => true
  | _ => false
mutual
def nob : PyData → Bool
  | .none | .bool _ | .int _ | .str _ => true
  | .list ds => !boxLike ds && nobAll ds
  | .tuple ds => nobAll ds
  | .dict kvs => nobKv kvs
def nobAll : List PyData → Bool
  | [] => true
  | d :: r => nob d && nobAll r
def nobKv : List (PyData × PyData) → Bool
  | [] => true
  | (_, d) :: r => nob d && nobKv r
end
theorem nobAll_of : ∀ {ds : List PyData}, (∀ d ∈ ds, nob d = true) → nobAll ds = true
  | [], _ => rfl
  | d :: r, h => by
    show (nob d && nobAll r) = true
    rw [h d List.mem_cons_self, nobAll_of fun x hx => h x (List.mem_cons_of_mem _ hx)]
    rfl
def boxO (o : HO) : Prop := ∃ (g : Int) (f : Bool) (s c : Int), o = .lst [.int g, .bl f, .int s, .int c]
/-- what is no box stays -/
def Mv (H H2 : Hp) : Prop := ∀ a o, H a = some o → ¬ boxO o → H2 a = some o
theorem Mv.of {H H2 : Hp} (s : Same H H2) : Mv H H2 := fun a o h _ => s a o h
theorem Mv.trans {H H1 H2 : Hp} (a : Mv H H1) (b : Mv H1 H2) : Mv H H2 := fun x o h n => b x o (a x o h n) n
theorem Mv.refl (H : Hp) : Mv H H := fun _ _ h _ => h
theorem Mv.but {H H2 : Hp} {b : Addr} {g : Int} {f : Bool} {s c : Int} (hb : H b = some (.lst [.int g, .bl f, .int s, .int c])) (t : But b H H2) : Mv H H2 := fun a o h n => t a o (fun z => by
  rw [z, hb] at h
  cases h
  exact n ⟨_, _, _, _, rfl⟩) h
theorem tup_nobox {xs : List V} : ¬ boxO (.tup xs) := fun ⟨_, _, _, _, z⟩ => by cases z
theorem dK_nobox {kvs : List (Key × V)} : ¬ boxO (.dK kvs) := fun ⟨_, _, _, _, z⟩ => by cases z
theorem lst_nobox {g : Bool} {H : Hp} {xs : List V} {ds : List PyData} (a : DzAll g H xs ds) (h : boxLike ds = false) : ¬ boxO (.lst xs) := by
  rintro ⟨_, _, _, _, z⟩
  cases z
  cases a with
  | cons h1 a =>
  cases a with
  | cons h2 a =>
  cases a with
  | cons h3 a =>
  cases a with
  | cons h4 a =>
  cases a
  cases h1
  cases h2
  cases h3
  cases h4
  cases h
mutual
theorem Dz.mv {g : Bool} {H H2 : Hp} (t : Mv H H2) : ∀ {v : V} {d : PyData}, Dz g H v d → nob d = true → Dz g H2 v d
  | _, _, .non, _ => .non
  | _, _, .bl b, _ => .bl b
  | _, _, .int i, _ => .int i
  | _, _, .str x, _ => .str x
  | _, _, .lst (ds := ds) h n a, k => by
    have k : (!boxLike ds && nobAll ds) = true := k
    rw [Bool.and_eq_true, Bool.not_eq_true'] at k
    exact .lst (t _ _ h (lst_nobox a k.1)) n (DzAll.mv t a k.2)
  | _, _, .tup h a, k => .tup (t _ _ h tup_nobox) (DzAll.mv t a k)
  | _, _, .dic h a, k => .dic (t _ _ h dK_nobox) (DzKv.mv t a k)
theorem DzAll.mv {g : Bool} {H H2 : Hp} (t : Mv H H2) : ∀ {vs : List V} {ds : List PyData}, DzAll g H vs ds → nobAll ds = true → DzAll g H2 vs ds
  | _, _, .nil, _ => .nil
  | _, _, .cons h r, k => by
    have k := Bool.and_eq_true _ _ ▸ k
    exact .cons (Dz.mv t h k.1) (DzAll.mv t r k.2)
theorem DzKv.mv {g : Bool} {H H2 : Hp} (t : Mv H H2) : ∀ {kvs : List (Key × V)} {D : List (PyData × PyData)}, DzKv g H kvs D → nobKv D = true → DzKv g H2 kvs D
  | _, _, .nil, _ => .nil
  | _, _, .cons h r, k => by
    have k := Bool.and_eq_true _ _ ▸ k
    exact .cons (Dz.mv t h k.1) (DzKv.mv t r k.2)
end
/-- data that may be judged and shown: so deep, so long -/
structure Gd (H : Hp) (k B : Nat) (v : V) (d : PyData) : Prop where
  dz : Dz true H v d
  asc : ascA d = true
  sh : d.showable = true
  dep : d.depth ≤ k
  len : d.shown.length ≤ B
  nb : nob d = true
theorem Gd.mono {H : Hp} {k B k2 B2 : Nat} {v : V} {d : PyData} (h : Gd H k B v d) (hk : k ≤ k2) (hB : B ≤ B2) : Gd H k2 B2 v d := ⟨h.dz, h.asc, h.sh, Nat.le_trans h.dep hk, Nat.le_trans h.len hB, h.nb⟩
theorem Gd.mv {H H2 : Hp} {k B : Nat} {v : V} {d : PyData} (h : Gd H k B v d) (t : Mv H H2) : Gd H2 k B v d := ⟨Dz.mv t h.dz h.nb, h.asc, h.sh, h.dep, h.len, h.nb⟩
inductive GAll (H : Hp) (k B : Nat) : List V → List PyData → Prop
  | nil : GAll H k B [] []
  | cons {v : V} {vs : List V} {d : PyData} {ds : List PyData} : Gd H k B v d → GAll H k B vs ds → GAll H k B (v :: vs) (d :: ds)
section
variable {H H2 : Hp} {k B k2 B2 : Nat} {xs ys : List V} {ds es : List PyData} {p : Addr}
theorem GAll.mono (hk : k ≤ k2) (hB : B ≤ B2) : ∀ {xs : List V} {ds : List PyData}, GAll H k B xs ds → GAll H k2 B2 xs ds
  | _, _, .nil => .nil
  | _, _, .cons h t => .cons (h.mono hk hB) (t.mono hk hB)
theorem GAll.mv (t : Mv H H2) : ∀ {xs : List V} {ds : List PyData}, GAll H k B xs ds → GAll H2 k B xs ds
  | _, _, .nil => .nil
  | _, _, .cons h r => .cons (h.mv t) (r.mv t)
theorem GAll.dz : ∀ {xs : List V} {ds : List PyData}, GAll H k B xs ds → DzAll true H xs ds
  | _, _, .nil => .nil
  | _, _, .cons h r => .cons h.dz r.dz
theorem GAll.len : ∀ {xs : List V} {ds : List PyData}, GAll H k B xs ds → xs.length = ds.length
  | _, _, .nil => rfl
  | _, _, .cons h r => by rw [List.length_cons, List.length_cons, r.len]
theorem GAll.asc : ∀ {xs : List V} {ds : List PyData}, GAll H k B xs ds → ascAll ds = true
  | _, _, .nil => rfl
  | _, _, .cons h r => by
    show (ascA _ && ascAll _) = true
    rw [h.asc, r.asc]
    rfl
theorem GAll.nb : ∀ {xs : List V} {ds : List PyData}, GAll H k B xs ds → nobAll ds = true
  | _, _, .nil => rfl
  | _, _, .cons h r => by
    show (nob _ && nobAll _) = true
    rw [h.nb, r.nb]
    rfl
theorem GAll.sh : ∀ {xs : List V} {ds : List PyData}, GAll H k B xs ds → PyData.showableAll ds = true
  | _, _, .nil => rfl
  | _, _, .cons (d := d) (ds := ds) h r => by
    show (d.showable && PyData.showableAll ds) = true
    rw [h.sh, r.sh]
    rfl
theorem GAll.dep : ∀ {xs : List V} {ds : List PyData}, GAll H k B xs ds → PyData.depthAll ds ≤ k
  | _, _, .nil => Nat.zero_le _
  | _, _, .cons (d := d) (ds := ds) h r => by
    have h1 := h.dep
    have h2 := r.dep
    show max d.depth (PyData.depthAll ds) ≤ k
    omega
theorem GAll.sum : ∀ {xs : List V} {ds : List PyData}, GAll H k B xs ds → (ds.map fun d => d.shown.length + 2).sum ≤ ds.length * (B + 2)
  | _, _, .nil => Nat.zero_le _
  | _, _, .cons (d := d) (ds := ds) h r => by
    have h1 := h.len
    have h2 := r.sum
    rw [List.map_cons, List.sum_cons, List.length_cons, Nat.succ_mul]
    omega
theorem GAll.app : ∀ {xs ys : List V} {ds es : List PyData}, GAll H k B xs ds → GAll H k B ys es → GAll H k B (xs ++ ys) (ds ++ es)
  | _, _, _, _, .nil, h => h
  | _, _, _, _, .cons h t, h2 => .cons h (t.app h2)
theorem GAll.take : ∀ {xs : List V} {ds : List PyData} (n : Nat), GAll H k B xs ds → GAll H k B (xs.take n) (ds.take n)
  | _, _, 0, _ => by rw [List.take_zero, List.take_zero]; exact .nil
  | _, _, n + 1, .nil => .nil
  | _, _, n + 1, .cons h t => .cons h (GAll.take n t)
theorem GAll.drop : ∀ {xs : List V} {ds : List PyData} (n : Nat), GAll H k B xs ds → GAll H k B (xs.drop n) (ds.drop n)
  | _, _, 0, h => h
  | _, _, n + 1, .nil => .nil
  | _, _, n + 1, .cons h t => GAll.drop n t
theorem GAll.at : ∀ {xs : List V} {ds : List PyData} {i : Nat} {v : V}, GAll H k B xs ds → xs[i]? = some v → ∃ d, ds[i]? = some d ∧ Gd H k B v d
  | _, _, i, _, .nil, e => by simp at e
  | _, _, 0, _, .cons h t, e => by cases e; exact ⟨_, rfl, h⟩
  | _, _, i + 1, _, .cons h t, e => GAll.at (i := i) t (by simpa using e)
/-- a tuple of such -/
theorem Gd.tup {n : Nat} (h : H p = some (.tup xs)) (a : GAll H k B xs ds) (l : xs.length ≤ n) : Gd H (k + 1) (4 + n * (B + 2)) (.ref p) (.tuple ds) := by
  have ll := a.len
  refine ⟨.tup h a.dz, a.asc, a.sh, ?_, ?_, a.nb⟩
  · show PyData.depthAll ds + 1 ≤ k + 1
    have := a.dep
    omega
  · have h1 := len_tuple ds
    have h2 := a.sum
    have h3 : ds.length * (B + 2) ≤ n * (B + 2) := Nat.mul_le_mul_right _ (by omega)
    omega
theorem Gd.lst {n : Nat} (h : H p = some (.lst xs)) (far : p ≠ sysModules) (a : GAll H k B xs ds) (l : xs.length ≤ n) (nb : boxLike ds = false) : Gd H (k + 1) (4 + n * (B + 2)) (.ref p) (.list ds) := by
  have ll := a.len
  refine ⟨.lst h (fun _ => far) a.dz, a.asc, a.sh, ?_, ?_, by show (!boxLike ds && nobAll ds) = true; rw [nb, a.nb]; rfl⟩
  · show PyData.depthAll ds + 1 ≤ k + 1
    have := a.dep
    omega
  · have h1 := len_list ds
    have h2 := a.sum
    have h3 : ds.length * (B + 2) ≤ n * (B + 2) := Nat.mul_le_mul_right _ (by omega)
    omega
theorem Gd.dic {v : V} {d : PyData} (h : H p = some (.dK [(.inr "a", v)])) (a : Gd H k B v d) : Gd H (k + 1) (B + 10) (.ref p) (.dict [(.str "a", d)]) := by
  refine ⟨.dic h (.cons (k := .inr "a") a.dz .nil), ?_, ?_, ?_, ?_, ?_⟩
  · show (ascA d && true) = true
    rw [a.asc]
    rfl
  · show (PyData.showable (.str "a") && d.showable && true) = true
    rw [a.sh]
    rfl
  · have := a.dep
    simp only [PyData.depth, PyData.depthKv]
    omega
  · have e : (PyData.dict [(.str "a", d)]).shown = dictText [reprText "a" ++ ": " ++ d.shown] := by
      simp only [PyData.shown, PyData.shownKv]
    have := a.len
    rw [e]
    unfold dictText
    rw [strLen_append, strLen_append]
    show _ + (reprText "a" ++ ": " ++ d.shown).length + _ ≤ _
    rw [strLen_append, strLen_append]
    have e1 : ("{" : Str).length = 1 := rfl
    have e2 : ("}" : Str).length = 1 := rfl
    have e3 : (": " : Str).length = 2 := rfl
    have e4 : (reprText "a").length = 3 := by decide +kernel
    omega
  · show (nob d && true) = true
    rw [a.nb]
    rfl
end
theorem gd_odd {H : Hp} {v : V} {d : PyData} (h : Dz true H v d) (ok : oddOk d = true) (a : ascA d = true) (n : nob d = true) : Gd H 3 2000 v d := by
  obtain ⟨_, h2, h3, h4⟩ := oddOk_of ok
  exact ⟨h, a, h2, h3, h4, n⟩
theorem gd_non {H : Hp} : Gd H 0 2000 .non .none := ⟨.non, rfl, rfl, Nat.le_refl _, by decide, rfl⟩
theorem gd_bl {H : Hp} (b : Bool) : Gd H 0 2000 (.bl b) (.bool b) := ⟨.bl b, rfl, rfl, Nat.le_refl _, by cases b <;> decide, rfl⟩
theorem gd_int {H : Hp} {i : Int} (h : -10000000000000 ≤ i ∧ i ≤ 10000000000000) : Gd H 0 2000 (.int i) (.int i) := by
  obtain ⟨_, h2, h3, h4⟩ := oddOk_of (odd_int h)
  exact ⟨.int i, rfl, h2, Nat.le_refl _, h4, rfl⟩
theorem gd_str {H : Hp} {l : List Nat} (h : Pr l) (hl : l.length ≤ 100) : Gd H 0 2000 (.str (S l)) (.str (S l)) := by
  obtain ⟨h1, h2, h3, h4⟩ := oddOk_of (odd_str h hl)
  exact ⟨.str _, h1, h2, Nat.le_refl _, h4, rfl⟩
/-! ### what a command is -/
def boolD : PyData → Bool
  | .bool _ => true
  | _ => false
def deadD : PyData → Bool
  | .none => true
  | d => nameD d
def madeD : PyData → Bool
  | .tuple ds => decide (ds.length ≤ 4) && ds.all itemD
  | _ => false
def sentD : PyData → Bool
  | .tuple ds => decide (1 ≤ ds.length) && (decide (ds.length ≤ 4) && ds.all itemD)
  | _ => false
/-- the kinds of parts that commands have -/
inductive PK | name | flag | dead | number | sent | token | made | try_ | index
  deriving DecidableEq
def pkD : PK → PyData → Bool
  | .name, d => nameD d
  | .flag, d => boolD d
  | .dead, d => deadD d
  | .number, d => within d 1 999999999999
  | .sent, d => sentD d
  | .token, d => tokenD d
  | .made, d => madeD d
  | .try_, d => within d 0 4
  | .index, d => within d 0 999999999999
def all2 : List PK → List PyData → Bool
  | [], [] => true
  | k :: ks, d :: ds => pkD k d && all2 ks ds
  | _, _ => false
def formC (y : Str) : Option (List PK) :=
  if y = "topic" then some [.name, .flag] else if y = "group" then some [.name, .name, .dead] else if y = "send" then some [.name, .number, .sent] else if y = "done" then some [.name, .number, .token, .made]
  else if y = "failed" then some [.name, .number, .try_] else if y = "now" then some [.index] else none
def fitsD : PyData → Bool
  | .tuple (.str w :: ds) => (match formC w with
    | some ks => all2 ks ds
    | none => false)
  | _ => false
/-- a group's topic and its topic for the dead are two -/
def apartD : PyData → Bool
  | .tuple [.str w, _, .str b, .str c] => decide (w ≠ "group") || decide (c ≠ b)
  | _ => true
def cmdD (d : PyData) : Bool := fitsD d && apartD d
/-- where a row stands -/
def look : List (Str × Str × Addr) → Str → Str → Option V
  | [], _, _ => none
  | (g', y', a) :: r, g, y => if g' = g ∧ y' = y then some (.ref a) else look r g y
def kvO (r : Str × Str × Addr) : List Key × V := ([.inr r.1, .inr r.2.1], .ref r.2.2)
theorem valV_look (g y : Str) : ∀ rs : List (Str × Str × Addr), valV (rs.map kvO) [.inr g, .inr y] = look rs g y
  | [] => rfl
  | (g', y', a) :: r => by
    rw [List.map_cons]
    by_cases e : g' = g ∧ y' = y
    · obtain ⟨rfl, rfl⟩ := e
      exact (valV_pos (p := kvO (g', y', a)) rfl).trans (if_pos ⟨rfl, rfl⟩).symm
    · rw [valV_neg (p := kvO (g', y', a)) (fun z => e (by
        have z : ([.inr g', .inr y'] : List Key) = [.inr g, .inr y] := z
        simp only [List.cons.injEq, Sum.inr.injEq, and_true] at z
        exact z)), valV_look g y r]
      show _ = if _ then _ else _
      rw [if_neg e]
theorem look_hit {r : List (Str × Str × Addr)} {g y : Str} {a : Addr} : look ((g, y, a) :: r) g y = some (.ref a) := if_pos ⟨rfl, rfl⟩
theorem look_y {r : List (Str × Str × Addr)} {g g' y y' : Str} {a : Addr} (h : ¬ y = y') : look ((g', y', a) :: r) g y = look r g y := if_neg fun z => h z.2.symm
theorem look_g {r : List (Str × Str × Addr)} {g g' y y' : Str} {a : Addr} (h : ¬ g' = g) : look ((g', y', a) :: r) g y = look r g y := if_neg fun z => h z.1
/-- a tuple that stands at the top -/
def KT (K : PySem.W.Frag) (a : Addr) (fs : List Addr) : Prop := ∃ (dd : Option Addr) (n : Nat) (sl : Array (Option Value)), K.lookup a = some ⟨.type "tuple", dd, .seq (fs.map Value.ref).toArray n, sl⟩ ∧ fs.length ≤ sizeLine
theorem vals_refs : ∀ fs : List Addr, Vals (fs.map V.ref) (fs.map Value.ref)
  | [] => .nil
  | _ :: r => .cons rfl (vals_refs r)
theorem KT.sq {K : PySem.W.Frag} {a : Addr} {fs : List Addr} (h : KT K a fs) (H : Hp) : SqT K H a (fs.map V.ref) := by
  obtain ⟨dd, n, sl, h, l⟩ := h
  refine .inr ⟨_, _, _, h, rfl, rfl, by simpa using l, ?_⟩
  exact vals_refs fs
theorem hu1 {X : Cx} {k : Nat} (hr : Room k X.A) : X.A.units + 1 < cLine := by have := hr.un; omega
end M4

/-! M4b: a command judged word by word. -/
namespace M4
open PySem PySem.Spec PyProof.Rows L2 Z SX M9 M3
def wordIs (d : PyData) (t : Str) : Bool := match d with
  | .str y => decide (y = t)
  | _ => false
def neD : PyData → PyData → Bool
  | .str c, .str b => decide (c ≠ b)
  | _, _ => true
theorem word_of {d : PyData} {t : Str} (h : wordIs d t = true) : d = .str t := by
  cases d with
  | str y => exact congrArg PyData.str (of_decide_eq_true h)
  | _ => cases h
theorem eqW {K : PySem.W.Frag} {g : Bool} {H : Hp} {v : V} {d : PyData} {t : Str} {Q : VK} (h : Dz g H v d) (q : Q (.bl (wordIs d t)) H) : zEqT K v (.str t) H Q := by
  cases h with
  | non => exact q
  | bl b => exact q
  | int i => exact q
  | str x =>
    have e : wordIs (.str x) t = (false ^^ decide (V.str x = V.str t)) := by
      show decide (x = t) = _
      rw [Bool.false_xor]
      by_cases z : x = t
      · rw [z, decide_eq_true rfl, decide_eq_true rfl]
      · rw [decide_eq_false z, decide_eq_false fun e => z (V.str.inj e)]
    rw [e] at q
    exact q
  | lst h _ _ => exact ⟨.inl ⟨_, SqL.of h⟩, q⟩
  | tup h _ => exact ⟨.inr (.inl ⟨_, SqT.of h⟩), q⟩
  | dic h _ => exact ⟨.inr (.inr ⟨_, h⟩), q⟩
theorem seq_eqT {K : PySem.W.Frag} {g : Bool} (i : Nat) {t : Str} {A B C : TS} {D : Ends} {σ : L2.St} {H : Hp} {v : V} {d : PyData} (hv : σ[i]? = some (some v)) (h : Dz g H v d) (q : if wordIs d t = true then A { D with nx := C D } σ H else B { D with nx := C D } σ H) :
    tSeq (tIfS (tBz (tOp (zEqT K) (tV i) (tC (.str t)))) A B) C D σ H := by
  have z : tV i σ H (fun x H1 => zEqT K x (.str t) H1 fun y H2 => zB y H2 fun b H3 => if b = true then A { D with nx := C D } σ H3 else B { D with nx := C D } σ H3) := by
    unfold tV
    rw [hv]
    exact eqW h q
  exact z
theorem ret_eqT {K : PySem.W.Frag} {g : Bool} (i : Nat) {t : Str} {C : TE} {D : Ends} {σ : L2.St} {H : Hp} {v : V} {d : PyData} (hv : σ[i]? = some (some v)) (h : Dz g H v d) (q : if wordIs d t = true then C σ H D.rt else D.rt (.bl false) H) :
    tRet (tAndZ (tOp (zEqT K) (tV i) (tC (.str t))) C) D σ H := by
  have z : tV i σ H (fun x H1 => zEqT K x (.str t) H1 fun y H2 => zB y H2 fun b H3 => if b = true then C σ H3 D.rt else D.rt (.bl false) H3) := by
    unfold tV
    rw [hv]
    exact eqW h q
  exact z
theorem fits_w {w : Str} {ks : List PK} {ds : List PyData} (h : formC w = some ks) : fitsD (.tuple (.str w :: ds)) = all2 ks ds := by
  show (match formC w with | some ks => all2 ks ds | none => false) = _
  rw [h]
theorem not_str {d0 : PyData} {ds : List PyData} (h : ∀ y, d0 ≠ .str y) : cmdD (.tuple (d0 :: ds)) = false := by
  cases d0 with
  | str y => exact absurd rfl (h y)
  | _ => rfl
theorem all2_nil {ds : List PyData} : all2 [] ds = ds.isEmpty := by cases ds <;> rfl
theorem all2_cons {k : PK} {ks : List PK} {d : PyData} {ds : List PyData} : all2 (k :: ks) (d :: ds) = (pkD k d && all2 ks ds) := rfl
theorem form_cases {w : Str} {ks : List PK} (h : formC w = some ks) : (w = "topic" ∧ ks = [.name, .flag]) ∨ (w = "group" ∧ ks = [.name, .name, .dead]) ∨ (w = "send" ∧ ks = [.name, .number, .sent]) ∨ (w = "done" ∧ ks = [.name, .number, .token, .made]) ∨ (w = "failed" ∧ ks = [.name, .number, .try_]) ∨ (w = "now" ∧ ks = [.index]) := by
  unfold formC at h
  split at h
  · cases h; rename_i e; exact .inl ⟨e, rfl⟩
  split at h
  · cases h; rename_i e; exact .inr (.inl ⟨e, rfl⟩)
  split at h
  · cases h; rename_i e; exact .inr (.inr (.inl ⟨e, rfl⟩))
  split at h
  · cases h; rename_i e; exact .inr (.inr (.inr (.inl ⟨e, rfl⟩)))
  split at h
  · cases h; rename_i e; exact .inr (.inr (.inr (.inr (.inl ⟨e, rfl⟩))))
  split at h
  · cases h; rename_i e; exact .inr (.inr (.inr (.inr (.inr ⟨e, rfl⟩))))
  · cases h
theorem apartD_now {d1 : PyData} {r : List PyData} {w : Str} (h : w ≠ "group") : apartD (.tuple (.str w :: d1 :: r)) = true := by
  unfold apartD
  split
  · rename_i w' x b c e
    have e := PyData.tuple.inj e
    have e : w = w' := PyData.str.inj (List.cons.inj e).1
    subst e
    rw [decide_eq_true h]
    rfl
  · rfl
theorem c_short {ds : List PyData} (h : ds.length < 2) : cmdD (.tuple ds) = false := by
  match ds, h with
  | [], _ => rfl
  | [d0], _ =>
    cases d0 with
    | str w =>
      have e : fitsD (.tuple [.str w]) = false := by
        show (match formC w with | some ks => all2 ks [] | none => false) = false
        cases e : formC w with
        | none => rfl
        | some ks => rcases form_cases e with ⟨_, rfl⟩ | ⟨_, rfl⟩ | ⟨_, rfl⟩ | ⟨_, rfl⟩ | ⟨_, rfl⟩ | ⟨_, rfl⟩ <;> rfl
      unfold cmdD
      rw [e]
      rfl
    | _ => rfl
theorem c_now {d1 : PyData} {r : List PyData} : cmdD (.tuple (.str "now" :: d1 :: r)) = (r.isEmpty && within d1 0 999999999999) := by
  unfold cmdD
  rw [fits_w (ks := [.index]) (by decide +kernel), apartD_now (by decide +kernel), all2_cons, all2_nil, Bool.and_true, Bool.and_comm]
  rfl
/-- other words: the first part is a name, and there is one more -/
theorem c_first {d0 d1 : PyData} {r : List PyData} (h : wordIs d0 "now" = false) (n : (nameD d1 && decide (1 ≤ r.length)) = false) : cmdD (.tuple (d0 :: d1 :: r)) = false := by
  cases d0 with
  | str w =>
    have hw : w ≠ "now" := of_decide_eq_false h
    have e : fitsD (.tuple (.str w :: d1 :: r)) = false := by
      show (match formC w with | some ks => all2 ks (d1 :: r) | none => false) = false
      cases e : formC w with
      | none => rfl
      | some ks =>
        have gen : ∀ k ks', all2 (.name :: k :: ks') (d1 :: r) = false := fun k ks' => by
          show (nameD d1 && all2 (k :: ks') r) = false
          cases en : nameD d1 with
          | false => rfl
          | true =>
            rw [en] at n
            have : r = [] := by
              cases r with
              | nil => rfl
              | cons _ _ => simp at n
            subst this
            rfl
        rcases form_cases e with ⟨_, rfl⟩ | ⟨_, rfl⟩ | ⟨_, rfl⟩ | ⟨_, rfl⟩ | ⟨_, rfl⟩ | ⟨z, _⟩
        · exact gen _ _
        · exact gen _ _
        · exact gen _ _
        · exact gen _ _
        · exact gen _ _
        · exact absurd z hw
    unfold cmdD
    rw [e]
    rfl
  | _ => rfl
theorem c_topic {d1 d2 : PyData} {r : List PyData} (n : nameD d1 = true) : cmdD (.tuple (.str "topic" :: d1 :: d2 :: r)) = (r.isEmpty && boolD d2) := by
  unfold cmdD
  rw [fits_w (ks := [.name, .flag]) (by decide +kernel), apartD_now (by decide +kernel), all2_cons, all2_cons, all2_nil, Bool.and_true]
  show (nameD d1 && (boolD d2 && r.isEmpty)) = _
  rw [n, Bool.true_and, Bool.and_comm]
theorem c_group1 {d1 d2 d3 : PyData} (n : nameD d1 = true) : cmdD (.tuple [.str "group", d1, d2, d3]) = (nameD d2 && (deadD d3 && neD d3 d2)) := by
  unfold cmdD
  rw [fits_w (ks := [.name, .name, .dead]) (by decide +kernel), all2_cons, all2_cons, all2_cons]
  show ((nameD d1 && (nameD d2 && (deadD d3 && true))) && _) = _
  rw [n, Bool.true_and, Bool.and_true, Bool.and_assoc]
  cases d2 with
  | str b =>
    cases d3 with
    | str c =>
      show (_ && (_ && (decide ((("group" : Str)) ≠ "group") || decide (c ≠ b)))) = _
      rw [show decide ((("group" : Str)) ≠ "group") = false by decide +kernel]
      rfl
    | _ => rfl
  | _ => rfl
theorem c_groupN {d1 d2 : PyData} {r : List PyData} (h : r.length ≠ 1) : cmdD (.tuple (.str "group" :: d1 :: d2 :: r)) = false := by
  have e : fitsD (.tuple (.str "group" :: d1 :: d2 :: r)) = false := by
    rw [fits_w (ks := [.name, .name, .dead]) (by decide +kernel), all2_cons, all2_cons]
    have : all2 [.dead] r = false := by
      match r, h with
      | [], _ => rfl
      | [_], h => exact absurd rfl h
      | _ :: _ :: _, _ => exact Bool.and_false _
    rw [this, Bool.and_false, Bool.and_false]
  unfold cmdD
  rw [e]
  rfl
theorem c_number {d0 d1 d2 : PyData} {r : List PyData} (h1 : wordIs d0 "now" = false) (h2 : wordIs d0 "topic" = false) (h3 : wordIs d0 "group" = false) (n : within d2 1 999999999999 = false) : cmdD (.tuple (d0 :: d1 :: d2 :: r)) = false := by
  cases d0 with
  | str w =>
    have e : fitsD (.tuple (.str w :: d1 :: d2 :: r)) = false := by
      show (match formC w with | some ks => all2 ks (d1 :: d2 :: r) | none => false) = false
      cases e : formC w with
      | none => rfl
      | some ks =>
        have gen : ∀ ks', all2 (.name :: .number :: ks') (d1 :: d2 :: r) = false := fun ks' => by
          show (nameD d1 && (within d2 1 999999999999 && all2 ks' r)) = false
          rw [n, Bool.false_and, Bool.and_false]
        rcases form_cases e with ⟨z, _⟩ | ⟨z, _⟩ | ⟨_, rfl⟩ | ⟨_, rfl⟩ | ⟨_, rfl⟩ | ⟨z, _⟩
        · exact absurd z (of_decide_eq_false h2)
        · exact absurd z (of_decide_eq_false h3)
        · exact gen _
        · exact gen _
        · exact gen _
        · exact absurd z (of_decide_eq_false h1)
    unfold cmdD
    rw [e]
    rfl
  | _ => rfl
theorem c_send1 {d1 d2 d3 : PyData} (n : nameD d1 = true) (m : within d2 1 999999999999 = true) : cmdD (.tuple [.str "send", d1, d2, d3]) = sentD d3 := by
  unfold cmdD
  rw [fits_w (ks := [.name, .number, .sent]) (by decide +kernel), apartD_now (by decide +kernel), Bool.and_true]
  show (nameD d1 && (within d2 1 999999999999 && (sentD d3 && true))) = _
  rw [n, m, Bool.true_and, Bool.true_and, Bool.and_true]
theorem c_failed1 {d1 d2 d3 : PyData} (n : nameD d1 = true) (m : within d2 1 999999999999 = true) : cmdD (.tuple [.str "failed", d1, d2, d3]) = within d3 0 4 := by
  unfold cmdD
  rw [fits_w (ks := [.name, .number, .try_]) (by decide +kernel), apartD_now (by decide +kernel), Bool.and_true]
  show (nameD d1 && (within d2 1 999999999999 && (within d3 0 4 && true))) = _
  rw [n, m, Bool.true_and, Bool.true_and, Bool.and_true]
theorem c_done1 {d1 d2 d3 d4 : PyData} (n : nameD d1 = true) (m : within d2 1 999999999999 = true) : cmdD (.tuple [.str "done", d1, d2, d3, d4]) = (tokenD d3 && madeD d4) := by
  unfold cmdD
  rw [fits_w (ks := [.name, .number, .token, .made]) (by decide +kernel), apartD_now (by decide +kernel), Bool.and_true]
  show (nameD d1 && (within d2 1 999999999999 && (tokenD d3 && (madeD d4 && true)))) = _
  rw [n, m, Bool.true_and, Bool.true_and, Bool.and_true]
theorem c_lenN {w : Str} {ks : List PK} {ds : List PyData} (h : formC w = some ks) (l : ks.length ≠ ds.length) : cmdD (.tuple (.str w :: ds)) = false := by
  have gen : ∀ {ks : List PK} {ds : List PyData}, ks.length ≠ ds.length → all2 ks ds = false := by
    intro ks
    induction ks with
    | nil => intro ds h; cases ds with
      | nil => exact absurd rfl h
      | cons _ _ => rfl
    | cons k ks ih => intro ds h; cases ds with
      | nil => rfl
      | cons d ds => rw [all2_cons, ih fun z => h (by rw [List.length_cons, List.length_cons, z]), Bool.and_false]
  unfold cmdD
  rw [fits_w h, gen l]
  rfl
theorem c_other {d0 : PyData} {ds : List PyData} (h1 : wordIs d0 "now" = false) (h2 : wordIs d0 "topic" = false) (h3 : wordIs d0 "group" = false) (h4 : wordIs d0 "send" = false) (h5 : wordIs d0 "done" = false) (h6 : wordIs d0 "failed" = false) : cmdD (.tuple (d0 :: ds)) = false := by
  cases d0 with
  | str w =>
    have e : fitsD (.tuple (.str w :: ds)) = false := by
      show (match formC w with | some ks => all2 ks ds | none => false) = false
      cases e : formC w with
      | none => rfl
      | some ks =>
        rcases form_cases e with ⟨z, _⟩ | ⟨z, _⟩ | ⟨z, _⟩ | ⟨z, _⟩ | ⟨z, _⟩ | ⟨z, _⟩
        · exact absurd z (of_decide_eq_false h2)
        · exact absurd z (of_decide_eq_false h3)
        · exact absurd z (of_decide_eq_false h4)
        · exact absurd z (of_decide_eq_false h5)
        · exact absurd z (of_decide_eq_false h6)
        · exact absurd z (of_decide_eq_false h1)
    unfold cmdD
    rw [e]
    rfl
  | _ => rfl
end M4

/-! M4c: commands as they are drawn; a tuple some times over. -/
namespace Z
open PySem PySem.Spec PyProof.Rows L2
/-- a tuple some times over -/
def zRepT (K : PySem.W.Frag) : R2 := fun x y H Q => match x, y with
  | .ref l, .int k => ∃ xs, SqT K H l xs ∧ xs ≠ [] ∧ 2 ≤ k ∧ k ≤ 1000 ∧ xs.length ≤ 1000 ∧ ∀ p H2, Nw H p (.tup (List.replicate k.toNat xs).flatten) H2 → Q (.ref p) H2
  | _, _ => False
theorem o_repT {X : Cx} : OpR X (binaryOp .Mult) (zRepT X.K) := by
  intro pins s σ H x y v u Q I rx ry h
  unfold zRepT at h
  split at h
  · obtain ⟨xs, h1, h2, h3, h4, h5, q⟩ := h
    exact op_repT pins s σ H _ _ v u Q I rx ry ⟨_, _, xs, rfl, rfl, h1, h2, h3, h4, h5, fun p hp => q p _ (nw hp)⟩
  · exact h.elim
theorem k_repT {X : Cx} (K : PySem.W.Frag) (hK : X.K = K := by rfl) : OpR X (binaryOp .Mult) (zRepT K) := hK ▸ o_repT
end Z
namespace M4
open PySem PySem.Spec PyProof.Rows L2 Z SX M9 M3
/-- a part of a command's last part; a part of a command -/
def El (H : Hp) (v : V) (d : PyData) : Prop := (Gd H 0 2000 v d ∧ atomD d = true) ∨ ∃ p xs ds, v = .ref p ∧ d = .tuple ds ∧ H p = some (.tup xs) ∧ GAll H 0 2000 xs ds ∧ xs.length = 6 ∧ boxLike ds = false
def Pt (H : Hp) (v : V) (d : PyData) : Prop := (Gd H 0 2000 v d ∧ atomD d = true) ∨ ∃ p xs ds, v = .ref p ∧ d = .tuple ds ∧ H p = some (.tup xs) ∧ Paired (El H) xs ds ∧ xs.length ≤ 4 ∧ boxLike ds = false
theorem El.mv {H H2 : Hp} {v : V} {d : PyData} (h : El H v d) (t : Mv H H2) : El H2 v d := by
  rcases h with ⟨h, a⟩ | ⟨p, xs, ds, rfl, rfl, h, a, l, b⟩
  · exact .inl ⟨h.mv t, a⟩
  · exact .inr ⟨p, xs, ds, rfl, rfl, t _ _ h tup_nobox, a.mv t, l, b⟩
/-- what is no list stays -/
def ML (H H2 : Hp) : Prop := ∀ a o, H a = some o → (∀ xs, o ≠ .lst xs) → H2 a = some o
theorem Mv.ml {H H2 : Hp} (t : Mv H H2) : ML H H2 := fun a o h n => t a o h fun ⟨_, _, _, _, z⟩ => n _ z
theorem ML.trans {H H1 H2 : Hp} (a : ML H H1) (b : ML H1 H2) : ML H H2 := fun x o h n => b x o (a x o h n) n
theorem ML.wr {H H2 : Hp} {D : Addr} {xs : List V} {o : HO} (h : H D = some (.lst xs)) (w : Wr H D o H2) : ML H H2 := fun a u e n => w.keep (fun z => by
  rw [z, h] at e
  exact n xs (Option.some.inj e).symm) e
theorem gd0_ml {H H2 : Hp} {B : Nat} {v : V} {d : PyData} (h : Gd H 0 B v d) (t : ML H H2) : Gd H2 0 B v d := by
  refine ⟨?_, h.asc, h.sh, h.dep, h.len, h.nb⟩
  have dep := h.dep
  cases h.dz with
  | non => exact .non
  | bl b => exact .bl b
  | int i => exact .int i
  | str x => exact .str x
  | lst _ _ _ => exact absurd dep (by show ¬ _ + 1 ≤ 0; omega)
  | tup _ _ => exact absurd dep (by show ¬ _ + 1 ≤ 0; omega)
  | dic _ _ => exact absurd dep (by simp only [PyData.depth]; omega)
theorem gall0_ml {H H2 : Hp} {B : Nat} (t : ML H H2) : ∀ {xs : List V} {ds : List PyData}, GAll H 0 B xs ds → GAll H2 0 B xs ds
  | _, _, .nil => .nil
  | _, _, .cons h r => .cons (gd0_ml h t) (gall0_ml t r)
theorem El.ml {H H2 : Hp} {v : V} {d : PyData} (h : El H v d) (t : ML H H2) : El H2 v d := by
  rcases h with ⟨h, a⟩ | ⟨p, xs, ds, rfl, rfl, h, a, l, b⟩
  · exact .inl ⟨gd0_ml h t, a⟩
  · exact .inr ⟨p, xs, ds, rfl, rfl, t _ _ h (fun _ z => by cases z), gall0_ml t a, l, b⟩
theorem paired_mono {α β : Type} {F G : α → β → Prop} (i : ∀ a b, F a b → G a b) {l1 : List α} {l2 : List β} (h : Paired F l1 l2) : Paired G l1 l2 := by
  induction h with
  | nil => exact .nil
  | cons h _ ih => exact .cons (i _ _ h) ih
theorem Pt.mv {H H2 : Hp} {v : V} {d : PyData} (h : Pt H v d) (t : Mv H H2) : Pt H2 v d := by
  rcases h with ⟨h, a⟩ | ⟨p, xs, ds, rfl, rfl, h, a, l, b⟩
  · exact .inl ⟨h.mv t, a⟩
  · exact .inr ⟨p, xs, ds, rfl, rfl, t _ _ h tup_nobox, paired_mono (fun _ _ z => z.mv t) a, l, b⟩
theorem El.gd {H : Hp} {v : V} {d : PyData} (h : El H v d) : Gd H 1 12100 v d := by
  rcases h with ⟨h, _⟩ | ⟨p, xs, ds, rfl, rfl, h, a, l, b⟩
  · exact h.mono (by decide) (by decide)
  · exact (Gd.tup (n := 6) h a (by omega)).mono (by decide) (by decide)
theorem el_all {H : Hp} {xs : List V} {ds : List PyData} (h : Paired (El H) xs ds) : GAll H 1 12100 xs ds := by
  induction h with
  | nil => exact .nil
  | cons h _ ih => exact .cons h.gd ih
theorem Pt.gd {H : Hp} {v : V} {d : PyData} (h : Pt H v d) : Gd H 2 50000 v d := by
  rcases h with ⟨h, _⟩ | ⟨p, xs, ds, rfl, rfl, h, a, l, b⟩
  · exact h.mono (by decide) (by decide)
  · exact (Gd.tup (n := 4) h (el_all a) l).mono (by decide) (by decide)
theorem pt_all {H : Hp} {xs : List V} {ds : List PyData} (h : Paired (Pt H) xs ds) : GAll H 2 50000 xs ds := by
  induction h with
  | nil => exact .nil
  | cons h _ ih => exact .cons h.gd ih
/-- a command at p -/
structure Cmd (H : Hp) (p : Addr) (xs : List V) (ds : List PyData) : Prop where
  here : H p = some (.tup xs)
  parts : Paired (Pt H) xs ds
  two : 2 ≤ xs.length
  five : xs.length ≤ 5
  nobox : boxLike ds = false
theorem Cmd.mv {H H2 : Hp} {p : Addr} {xs : List V} {ds : List PyData} (h : Cmd H p xs ds) (t : Mv H H2) : Cmd H2 p xs ds := ⟨t _ _ h.here tup_nobox, paired_mono (fun _ _ z => z.mv t) h.parts, h.two, h.five, h.nobox⟩
theorem Cmd.all {H : Hp} {p : Addr} {xs : List V} {ds : List PyData} (h : Cmd H p xs ds) : GAll H 2 50000 xs ds := pt_all h.parts
/-- what may be judged and shown -/
def Good2 (H : Hp) (v : V) : Prop := ∃ d, Gd H 20 8000000 v d
theorem Good2.mv {H H2 : Hp} {v : V} (h : Good2 H v) (t : Mv H H2) : Good2 H2 v := let ⟨d, h⟩ := h; ⟨d, h.mv t⟩
theorem good2_tup {H : Hp} {p : Addr} {xs : List V} {ds : List PyData} (h : H p = some (.tup xs)) (a : GAll H 8 200000 xs ds) (l : xs.length ≤ 12) : Good2 H (.ref p) := ⟨_, (Gd.tup h a l).mono (by decide) (by decide)⟩
theorem boxLike_items {ds : List PyData} (h : ds.all itemD = true) : boxLike ds = false := by
  cases ds with
  | nil => rfl
  | cons d r =>
    rw [List.all_cons, Bool.and_eq_true] at h
    cases d with
    | int i => cases h.1
    | _ => rfl
theorem boxLike_str {y : Str} {ds : List PyData} : boxLike (.str y :: ds) = false := rfl
/-! ### commands made right -/
theorem fits_ok {w : Str} {ks : List PK} {ds : List PyData} (h : formC w = some ks) (a : all2 ks ds = true) : fitsD (.tuple (.str w :: ds)) = true := by rw [fits_w h]; exact a
end M4

/-! H1: a dict with tuple keys grows by a new key, exactly. -/
namespace H1
open PySem PySem.Calls PyProof.Rows
section
variable {prog : Program} {w : World} {K : Type} [DecidableEq K] {knd : HeapKind prog w K} {A : Around} {E : Value → Shared → Prop} {s : Shared}
/-- d[key] = v, the key being new -/
theorem set_new {d a : Addr} {o : Obj} {es : Array DictEntry} {ep : Nat} {xs : List (K × Addr × Value)} {k : K} {v : Value} {Q : Unit → Shared → Prop} (hu : knd.room A) (hkey : knd.is s.heap k a)
    (ho : s.heap.get? d = some o) (hd : o.data = .dict es ep) (he : es.toList = xs.map (entryOfKey knd)) (his : ∀ x ∈ xs, knd.is s.heap x.1 x.2.1) (hn : (xs.map (·.1)).Nodup) (hno : k ∉ xs.map (·.1)) (hz : xs.length ≤ sizeLine)
    (h : Q () { s with heap := s.heap.update d (Obj.mapDictKeys fun es => es.push ⟨knd.hash k, .ref a, v⟩), toks := s.toks + knd.draws k }) :
    wpAny (model prog w) A (dictSet d (.ref a) v) Q E s := by
  unfold dictSet
  try with_reducible refine wpAny_holding ?_
  refine wpAny_bind (knd.pyHash hu hkey ?_)
  unfold dictSetHashed
  try with_reducible refine wpAny_holding ?_
  refine wpAny_bind (wpAny_dictFind_heap (s := { s with toks := s.toks + knd.draws k }) hu hkey ho hd he his hn ?_ ?_)
  · intro _
    exact wpAny_bind (wpAny_rule (wpAny_updateDictKeys (hz := by have e := size_of_entries he; omega) (s := { s with toks := s.toks + knd.draws k }) ho hd h))
  · intro j p hj
    exact absurd (List.mem_map.mpr ⟨_, List.mem_of_getElem? hj, rfl⟩) hno
end
end H1

/-! H2: .. and takes in another such dict. -/
namespace H1
open PySem PySem.Calls PyProof.Rows
section
variable {prog : Program} {w : World} {K : Type} [DecidableEq K] {knd : HeapKind prog w K} {A : Around} {E : Value → Shared → Prop} {s : Shared}
/-- the heap behind one more entry -/
def grow (knd : HeapKind prog w K) (d : Addr) (h : Heap) (y : K × Addr × Value) : Heap := h.update d (Obj.mapDictKeys fun es => es.push (entryOfKey knd y))
theorem grow_dict {h : Heap} {d : Addr} {xs : List (K × Addr × Value)} {y : K × Addr × Value} (hm : h.DictOfH knd d xs) (hy : knd.is h y.1 y.2.1) (hno : y.1 ∉ xs.map (·.1)) : (grow knd d h y).DictOfH knd d (xs ++ [y]) := by
  obtain ⟨o, es, ep, ho, hc, hd, he, his, hn⟩ := hm
  refine ⟨_, _, ep + 1, Heap.get?_update_self _ ho (Obj.isFreed_of_dict (Obj.data_mapDictKeys hd _)), hc.mapDictKeys _, Obj.data_mapDictKeys hd _, ?_, ?_, ?_⟩
  · simp [he]
  · intro x hx
    rcases List.mem_append.mp hx with hx | hx
    · exact knd.keeps (his x hx) ho hd (Heap.SameBut.update ..)
    · rw [List.mem_singleton.mp hx]
      exact knd.keeps hy ho hd (Heap.SameBut.update ..)
  · rw [List.map_append, List.nodup_append]
    refine ⟨hn, by simp, ?_⟩
    intro x hx z hz
    simp only [List.map_cons, List.map_nil, List.mem_singleton] at hz
    subst hz
    exact fun e => hno (e ▸ hx)
theorem put_new {d a : Addr} {xs : List (K × Addr × Value)} {k : K} {v : Value} {Q : Unit → Shared → Prop} (hu : knd.room A) (hkey : knd.is s.heap k a)
    (hm : s.heap.DictOfH knd d xs) (hno : k ∉ xs.map (·.1)) (hz : xs.length ≤ sizeLine)
    (h : Q () { s with heap := grow knd d s.heap (k, a, v) }) :
    wpAny (model prog w) A (dictPut d (knd.hash k) (.ref a) v) Q E s := by
  obtain ⟨o, es, ep, ho, hc, hd, he, his, hn⟩ := hm
  unfold dictPut
  refine wpAny_bind (wpAny_dictFind_heap hu hkey ho hd he his hn ?_ ?_)
  · intro _
    exact wpAny_updateDictKeys (hz := by have e := size_of_entries he; omega) ho hd h
  · intro j p hj
    exact absurd (List.mem_map.mpr ⟨_, List.mem_of_getElem? hj, rfl⟩) hno
theorem set_new' {d a : Addr} {xs : List (K × Addr × Value)} {k : K} {v : Value} {Q : Unit → Shared → Prop} (hu : knd.room A) (hkey : knd.is s.heap k a)
    (hm : s.heap.DictOfH knd d xs) (hno : k ∉ xs.map (·.1)) (hz : xs.length ≤ sizeLine)
    (h : Q () { s with heap := grow knd d s.heap (k, a, v), toks := s.toks + knd.draws k }) :
    wpAny (model prog w) A (dictSet d (.ref a) v) Q E s := by
  obtain ⟨o, es, ep, ho, hc, hd, he, his, hn⟩ := hm
  exact set_new hu hkey ho hd he his hn hno hz h
theorem grow_same {h : Heap} {d : Addr} {y : K × Addr × Value} : Heap.SameBut d h (grow knd d h y) := Heap.SameBut.update ..
theorem is_keep {h h' : Heap} {d : Addr} {xs : List (K × Addr × Value)} {k : K} {a : Addr} (hm : h.DictOfH knd d xs) (s : Heap.SameBut d h h') (hk : knd.is h k a) : knd.is h' k a := by
  obtain ⟨o, es, ep, ho, hc, hd, he, his, hn⟩ := hm
  exact knd.keeps hk ho hd s
theorem fold_dict {d : Addr} : ∀ (ys xs : List (K × Addr × Value)) {h : Heap}, h.DictOfH knd d xs → (∀ y ∈ ys, knd.is h y.1 y.2.1) → ((xs ++ ys).map (·.1)).Nodup → (ys.foldl (grow knd d) h).DictOfH knd d (xs ++ ys) ∧ Heap.SameBut d h (ys.foldl (grow knd d) h)
  | [], xs, h, hm, _, _ => ⟨by rw [List.append_nil]; exact hm, Heap.SameBut.refl _ _⟩
  | y :: ys, xs, h, hm, hy, hn => by
    have hno : y.1 ∉ xs.map (·.1) := by
      rw [List.map_append, List.nodup_append] at hn
      exact fun z => hn.2.2 _ z _ (by simp) rfl
    have h1 := grow_dict hm (hy y List.mem_cons_self) hno
    obtain ⟨a, b⟩ := fold_dict ys (xs ++ [y]) h1 (fun z hz => is_keep hm grow_same (hy z (List.mem_cons_of_mem _ hz))) (by rw [List.append_assoc]; exact hn)
    rw [List.append_assoc] at a
    exact ⟨a, grow_same.trans b⟩
theorem merge_new {d b : Addr} {xs ys : List (K × Addr × Value)} {Q : Unit → Shared → Prop} (hu : knd.room A) (hdb : d ≠ b) (hbs : (b == sysModules) = false) (hx0 : xs ≠ []) (hm : s.heap.DictOfH knd d xs) (hy : s.heap.DictOfH knd b ys)
    (hn2 : ((xs ++ ys).map (·.1)).Nodup) (hz : (xs ++ ys).length ≤ sizeLine)
    (h : Q () { s with heap := ys.foldl (grow knd d) s.heap }) :
    wpAny (model prog w) A (mergeMapping d (.ref b) false) Q E s := by
  obtain ⟨ob, fs, eq, hob, hcb, hdb', heb, hisb, hnb⟩ := id hy
  obtain ⟨o, es, ep, ho, hc, hd, he, his, hn⟩ := id hm
  have tb : s.TypeIs (.ref b) "dict" := ⟨ob, hob, hcb.1⟩
  unfold mergeMapping
  refine wpAny_bind (wpAny_isInstance tb isSubtype_dict_dict ?_)
  dsimp only
  rw [if_pos rfl]
  refine wpAny_bind (wpAny_specialOf tb F.slot_dict_iter.lookup ?_)
  refine wpAny_bind (wpAny_pure ?_)
  simp only [beq_self_eq_true, hbs, Bool.false_eq_true, if_false]
  refine wpAny_bind (wpAny_dictEntries ho hd ?_)
  have hne : es.isEmpty = false := by
    have e := size_of_entries he
    cases xs with
    | nil => exact absurd rfl hx0
    | cons x r =>
      rw [List.length_cons] at e
      simp [Array.isEmpty, e]
  rw [hne]
  simp only [Bool.false_eq_true, if_false]
  refine wpAny_bind (wpAny_dictEntries hob hdb' ?_)
  refine wpAny_bind (wpAny_dictEpoch hob hdb' ?_)
  refine wpAny_bind ?_
  have sfs : fs.size = ys.length := by rw [size_of_entries heb]
  refine wpAny_forIn_list _ (fun rest _ s' => ∃ i, i ≤ ys.length ∧ rest = List.range' i (ys.length - i) ∧ s' = { s with heap := (ys.take i).foldl (grow knd d) s.heap }) _ ?_ ?_ _ _ ⟨0, Nat.zero_le _, by rw [sfs, List.range_eq_range']; rfl, rfl⟩
  · rintro x rest _ s' ⟨i, hi, hr, rfl⟩
    have hlt : i < ys.length := by
      rcases Nat.lt_or_ge i ys.length with z | z
      · exact z
      · rw [Nat.sub_eq_zero_of_le z] at hr; cases hr
    rw [show ys.length - i = (ys.length - (i + 1)) + 1 by omega, List.range'_succ] at hr
    obtain ⟨rfl, rfl⟩ := List.cons.inj hr
    have hn3 : ((xs ++ ys.take x).map (·.1)).Nodup := by
      refine List.Nodup.sublist (List.Sublist.map _ ?_) hn2
      exact (List.Sublist.refl _).append (List.take_sublist _ _)
    obtain ⟨f1, f2⟩ := fold_dict (ys.take x) xs hm (fun y hy => hisb y (List.mem_of_mem_take hy)) hn3
    have hob2 : (List.foldl (grow knd d) s.heap (List.take x ys)).get? b = some ob := by
      have := f2.2 b (Ne.symm hdb)
      first
      | rw [this]; exact hob
      | exact this _ hob
      | (rw [← this]; exact hob)
    refine wpAny_bind (wpAny_dictEntries (s := { s with heap := List.foldl (grow knd d) s.heap (List.take x ys) }) hob2 hdb' ?_)
    have hex : fs[x]? = some (entryOfKey knd ys[x]) := by rw [entry_at heb x, List.getElem?_eq_getElem hlt]; rfl
    rw [hex]
    dsimp only
    obtain ⟨⟨k, a, v⟩, ey⟩ : ∃ y, ys[x] = y := ⟨_, rfl⟩
    have hmem : (k, a, v) ∈ ys := by rw [← ey]; exact List.getElem_mem _
    rw [ey]
    have hno : k ∉ (xs ++ ys.take x).map (·.1) := by
      have e1 : ys = ys.take x ++ (k, a, v) :: ys.drop (x + 1) := by
        rw [← ey, List.getElem_cons_drop, List.take_append_drop]
      have hn4 := hn2
      rw [e1, ← List.append_assoc, List.map_append, List.nodup_append] at hn4
      exact fun z => hn4.2.2 _ z _ (by simp) rfl
    have e2 : ys.take (x + 1) = ys.take x ++ [(k, a, v)] := by rw [List.take_add_one, List.getElem?_eq_getElem hlt, ey]; rfl
    refine wpAny_bind (wpAny_holding (put_new (s := { s with heap := List.foldl (grow knd d) s.heap (List.take x ys) }) hu (is_keep hm f2 (hisb _ hmem)) f1 hno (by rw [List.length_append, List.length_take]; rw [List.length_append] at hz; omega) ?_))
    have hob3 : (grow knd d (List.foldl (grow knd d) s.heap (List.take x ys)) (k, a, v)).get? b = some ob := by
      have := (f2.trans (grow_same (knd := knd) (y := (k, a, v)))).2 b (Ne.symm hdb)
      first
      | rw [this]; exact hob
      | exact this _ hob
      | (rw [← this]; exact hob)
    refine wpAny_bind (wpAny_dictEpoch (s := { s with heap := grow knd d (List.foldl (grow knd d) s.heap (List.take x ys)) (k, a, v) }) hob3 hdb' ?_)
    rw [if_neg (by simp)]
    exact wpAny_pure ⟨x + 1, hlt, rfl, by rw [e2, List.foldl_append]; rfl⟩
  · rintro _ s' ⟨i, hi, hr, rfl⟩
    have : i = ys.length := by
      have := congrArg List.length hr
      rw [List.length_range'] at this
      simp at this
      omega
    subst this
    rw [List.take_length]
    exact wpAny_pure h
end
end H1

/-! H3: a display of 18 to 33 pairs. -/
namespace H1
open PySem PySem.Calls PyProof.Rows
theorem gather {m : Option Addr} (f : (Option (Sem Value) × Sem Value) → (Option Addr × List (Sem Value × Sem Value)) → Sem (ForInStep (Option Addr × List (Sem Value × Sem Value))))
    (hf : ∀ (p : Sem Value × Sem Value) (run : List (Sem Value × Sem Value)), run.length + 1 < 17 → f (some p.1, p.2) (m, run) = pure (.yield (m, run ++ [p]))) (rest : List (Option (Sem Value) × Sem Value)) :
    ∀ (items run : List (Sem Value × Sem Value)), run.length + items.length < 17 → forIn (items.map (fun p => (some p.1, p.2)) ++ rest) (m, run) f = forIn rest (m, run ++ items) f
  | [], run, _ => by simp
  | p :: items, run, h => by
    rw [List.map_cons, List.cons_append, List.forIn_cons, hf p run (by simp at h; omega), pure_bind]
    have := gather f hf rest items (run ++ [p]) (by simp at h ⊢; omega)
    simpa using this
theorem display_two (P : List (Sem Value × Sem Value)) (p : Sem Value × Sem Value) (R : List (Sem Value × Sem Value)) (hP : P.length = 16) (h0 : R ≠ []) (hR : R.length < 17) :
    dictDisplay ((P ++ p :: R).map fun p => (some p.1, p.2)) = (do
      let d ← subDict (P ++ [p])
      let sub ← holding [.ref d] (subDict R)
      (holding [.ref d, .ref sub] (mergeMapping d (.ref sub) false)).onRaise fun x => do let _ ← holding [.ref d, x] (runValue (.builtin "proto.let_go" {}))
      pure (.ref d)) := by
  unfold dictDisplay
  dsimp only
  rw [List.map_append, gather (m := none) _ (fun p run h => by
    have hne : ((run ++ [(p.1, p.2)]).length == 17) = false := by simp; omega
    simp only [hne, Bool.false_eq_true, if_false]) _ P [] (by simp [hP])]
  rw [List.map_cons, List.forIn_cons]
  have h17 : ((([] ++ P) ++ [(p.1, p.2)]).length == 17) = true := by simp [hP]
  have hem : (([] ++ P) ++ [(p.1, p.2)]).isEmpty = false := by simp
  simp only [h17, hem, if_true, Bool.false_eq_true, if_false, bind_assoc, pure_bind]
  congr 1
  funext d
  rw [← List.append_nil (List.map _ R), gather (m := some d) _ (fun p run h => by
    have hne : ((run ++ [(p.1, p.2)]).length == 17) = false := by simp; omega
    simp only [hne, Bool.false_eq_true, if_false]) _ R [] (by simpa using hR)]
  have hr : ([] ++ R).isEmpty = false := by
    cases R with
    | nil => exact absurd rfl h0
    | cons _ _ => rfl
  simp only [List.forIn_nil, pure_bind, hr, Bool.false_eq_true, if_false, bind_assoc]
  rfl
end H1

/-! H4: a tuple of two texts, of names, made exactly. -/
namespace H1
open PySem PySem.Calls PyProof.Rows
section
variable {prog : Program} {w : World} {A : Around} {E : Value → Shared → Prop} {s : Shared} {env : Env}
def tupO (vs : List Value) : Obj := { cls := .type "tuple", data := .seq vs.toArray }
def keyS (x y : Str) (s : Shared) : Shared := { s with heap := s.heap.push (tupO [.str x s.toks, .str y (s.toks + 1)]), toks := s.toks + 1 + 1 }
theorem ev_key {x y : Str} {k1 k2 k : Nat} {p1 p2 pos : Pos} {Q : Value → Shared → Prop} (h : Q (.ref s.heap.objs.size) (keyS x y s)) :
    wpAny (model prog w) A (eval (.Tuple [.Constant (.str x) k1 p1, .Constant (.str y) k2 p2] k pos) env) Q E s := by
  refine wpAny_Tuple ?_
  refine wpAny_items_cons (wpAny_Constant_str ?_)
  refine wpAny_items_cons (wpAny_Constant_str ?_)
  refine wpAny_items_nil ⟨by show 2 ≤ sizeLine; decide, h⟩
/-- names that stand in the module: their values -/
theorem ev_names {k : Nat} {pos : Pos} {Q : Value → Shared → Prop} {es : List Expr} {vs : List Value} (hl : vs.length ≤ sizeLine)
    (ev : ∀ p ∈ es.zip vs, ∀ (Q : Value → Shared → Prop), Q p.2 s → wpAny (model prog w) A (eval p.1 env) Q E s) (hlen : es.length = vs.length) (hst : ∀ e ∈ es, ∀ rest, starEach (e :: rest) env = (false, eval e env) :: starEach rest env)
    (h : Q (.ref s.heap.objs.size) { s with heap := s.heap.push (tupO vs) }) :
    wpAny (model prog w) A (eval (.Tuple es k pos) env) Q E s := by
  refine wpAny_Tuple ?_
  have gen : ∀ (es : List Expr) (vs : List Value) (Q : List Value → Shared → Prop), (∀ p ∈ es.zip vs, ∀ (Q : Value → Shared → Prop), Q p.2 s → wpAny (model prog w) A (eval p.1 env) Q E s) → es.length = vs.length → (∀ e ∈ es, ∀ rest, starEach (e :: rest) env = (false, eval e env) :: starEach rest env) → Q vs s →
      wpAny (model prog w) A (spliced (backTo pos (starEach es env))) Q E s := by
    intro es
    induction es with
    | nil =>
      intro vs Q _ hl _ hq
      cases vs with
      | nil => exact wpAny_items_nil hq
      | cons _ _ => cases hl
    | cons e es ih =>
      intro vs Q ev hl hst hq
      cases vs with
      | nil => cases hl
      | cons v vs =>
        refine wpAny_items_cons ?_ (hst e List.mem_cons_self es)
        refine ev (e, v) (by rw [List.zip_cons_cons]; exact List.mem_cons_self) _ ?_
        exact ih vs (fun vs s₂ => Q (v :: vs) s₂) (fun p hp => ev p (by rw [List.zip_cons_cons]; exact List.mem_cons_of_mem _ hp)) (Nat.succ.inj hl) (fun e he => hst e (List.mem_cons_of_mem _ he)) hq
  exact gen es vs _ ev hlen hst ⟨hl, h⟩
end
end H1

/-! H5: the dict of a display, its pairs stored as they come. -/
namespace H1
open PySem PySem.Calls PyProof.Rows
section
variable {prog : Program} {w : World} {A : Around} {E : Value → Shared → Prop} {s : Shared} {env : Env}
/-- tuples of texts as keys -/
abbrev kd (prog : Program) (w : World) : HeapKind prog w (List Str) := tupleKind (PySem.strKind prog w)
theorem is_key {h : Heap} {a : Addr} {x y : Str} {t u : Tok} (e : h.get? a = some (tupO [.str x t, .str y u])) : (kd prog w).is h [x, y] a := by
  refine ⟨_, _, _, e, rfl, rfl, ?_⟩
  refine .cons ?_ (.cons ?_ .nil)
  · show Value.isStrOf x (.str x t) = true
    simp [Value.isStrOf]
  · show Value.isStrOf y (.str y u) = true
    simp [Value.isStrOf]
/-- a pair of the display: two texts, and the values of the names -/
structure Dat where
  x : Str
  y : Str
  vs : List Value
def Dat.ent (t : Dat) (s : Shared) : List Str × Addr × Value := ([t.x, t.y], s.heap.objs.size, .ref (s.heap.objs.size + 1))
/-- both tuples made -/
def Dat.made (t : Dat) (s : Shared) : Shared := { keyS t.x t.y s with heap := (keyS t.x t.y s).heap.push (tupO t.vs) }
/-- .. and stored -/
def Dat.put (prog : Program) (w : World) (d : Addr) (t : Dat) (s : Shared) : Shared := { t.made s with heap := grow (kd prog w) d (t.made s).heap (t.ent s), toks := (t.made s).toks + 3 }
/-- the trees of a pair make it, wherever P holds -/
structure Trees (prog : Program) (w : World) (A : Around) (E : Value → Shared → Prop) (P : Shared → Prop) (p : Sem Value × Sem Value) (t : Dat) : Prop where
  key : ∀ s, P s → ∀ Q : Value → Shared → Prop, Q (.ref s.heap.objs.size) (keyS t.x t.y s) → wpAny (model prog w) A p.1 Q E s
  val : ∀ s, P s → ∀ Q : Value → Shared → Prop, Q (.ref s.heap.objs.size) { s with heap := s.heap.push (tupO t.vs) } → wpAny (model prog w) A p.2 Q E s
inductive AllT (prog : Program) (w : World) (A : Around) (E : Value → Shared → Prop) (P : Shared → Prop) : List (Sem Value × Sem Value) → List Dat → Prop
  | nil : AllT prog w A E P [] []
  | cons {p : Sem Value × Sem Value} {t : Dat} {ps : List (Sem Value × Sem Value)} {ts : List Dat} : Trees prog w A E P p t → AllT prog w A E P ps ts → AllT prog w A E P (p :: ps) (t :: ts)
theorem size_push (h : Heap) (o : Obj) : (h.push o).objs.size = h.objs.size + 1 := by
  unfold Heap.push
  simp
theorem made_key (t : Dat) (s : Shared) : (kd prog w).is (t.made s).heap [t.x, t.y] s.heap.objs.size := by
  have h1 : (keyS t.x t.y s).heap.get? s.heap.objs.size = some (tupO [.str t.x s.toks, .str t.y (s.toks + 1)]) := by
    show (s.heap.push _).get? s.heap.objs.size = _
    exact Heap.get?_push_size _ rfl
  exact is_key (Heap.get?_push_of_some _ h1)
theorem made_keep {h : Heap} {d : Addr} {xs : List (List Str × Addr × Value)} {o : Obj} (hm : h.DictOfH (kd prog w) d xs) : (h.push o).DictOfH (kd prog w) d xs := by
  obtain ⟨ob, es, ep, ho, hc, hd, he, his, hn⟩ := hm
  refine ⟨ob, es, ep, Heap.get?_push_of_some _ ho, hc, hd, he, fun x hx => ?_, hn⟩
  obtain ⟨o', items, n, h1, h2, h3, h4⟩ := his x hx
  exact ⟨o', items, n, Heap.get?_push_of_some _ h1, h2, h3, h4⟩
/-- what is kept while the display is made -/
structure Keeps (prog : Program) (w : World) (d : Addr) (P : Shared → Prop) : Prop where
  key : ∀ t s, P s → P (keyS (Dat.x t) (Dat.y t) s)
  put : ∀ t s, P s → P (Dat.put prog w d t s)
theorem sub_loop {d : Addr} {P : Shared → Prop} (hu : A.units < cLine) (kp : Keeps prog w d P) : ∀ (ps : List (Sem Value × Sem Value)) (ts : List Dat) (s : Shared) (xs : List (List Str × Addr × Value)) (Q : PUnit → Shared → Prop),
    AllT prog w A E P ps ts → P s → s.heap.DictOfH (kd prog w) d xs → (xs.map (·.1) ++ ts.map fun t => [t.x, t.y]).Nodup → xs.length + ts.length ≤ sizeLine → Q PUnit.unit (ts.foldl (fun s t => t.put prog w d s) s) →
    wpAny (model prog w) A (forIn ps PUnit.unit fun (x : Sem Value × Sem Value) (_ : PUnit) => (do
      let kv ← x.1
      let vv ← holding [kv] x.2
      holding [kv, vv] (dictSet d kv vv)
      pure (ForInStep.yield PUnit.unit) : Sem (ForInStep PUnit))) Q E s
  | _, _, s, xs, Q, .nil, hp, hm, hn, hz, q => by
    rw [List.forIn_nil]
    exact wpAny_pure q
  | p :: ps, t :: ts, s, xs, Q, .cons tr trs, hp, hm, hn, hz, q => by
    rw [List.forIn_cons]
    rw [List.length_cons] at hz
    have hno : [t.x, t.y] ∉ xs.map (·.1) := by
      rw [List.nodup_append] at hn
      exact fun z => hn.2.2 _ z _ (by simp) rfl
    have hm1 : (t.made s).heap.DictOfH (kd prog w) d xs := made_keep (made_keep hm)
    refine wpAny_bind (wpAny_bind (tr.key s hp _ ?_))
    refine wpAny_bind (wpAny_holding (tr.val _ (kp.key t s hp) _ ?_))
    refine wpAny_bind (wpAny_holding ?_)
    have sz : (keyS t.x t.y s).heap.objs.size = s.heap.objs.size + 1 := size_push _ _
    rw [sz]
    refine set_new' (knd := kd prog w) (s := t.made s) hu (made_key t s) hm1 hno (by omega) (wpAny_pure ?_)
    exact sub_loop hu kp ps ts (t.put prog w d s) (xs ++ [t.ent s]) Q trs (kp.put t s hp) (grow_dict hm1 (made_key t s) hno) (by
      rw [List.map_append, List.append_assoc]
      exact hn) (by rw [List.length_append, List.length_singleton]; omega) q
end
end H1

/-! H6: both ways of a display's dict. -/
namespace H1
open PySem PySem.Calls PyProof.Rows
section
variable {prog : Program} {w : World} {A : Around} {E : Value → Shared → Prop} {s : Shared} {env : Env}
def dct (s : Shared) : Shared := { s with heap := s.heap.push { cls := .type "dict", data := .dict #[] } }
theorem dct_at (s : Shared) : (dct s).heap.DictOfH (kd prog w) s.heap.objs.size [] :=
  ⟨_, #[], _, Heap.get?_push_size _ rfl, ⟨rfl, rfl, rfl⟩, rfl, rfl, (fun x hx => by cases hx), List.nodup_nil⟩
/-- more than 15 pairs: each is stored as it comes -/
theorem sub_long {P : Shared → Prop} {Q : Addr → Shared → Prop} {ps : List (Sem Value × Sem Value)} {ts : List Dat} (hu : A.units < cLine) (kp : Keeps prog w s.heap.objs.size P) (h15 : 15 < ps.length) (tr : AllT prog w A E P ps ts) (hp : P (dct s)) (hn : (ts.map fun t => [t.x, t.y]).Nodup) (hz : ts.length ≤ sizeLine)
    (q : Q s.heap.objs.size (ts.foldl (fun z t => t.put prog w s.heap.objs.size z) (dct s))) : wpAny (model prog w) A (subDict ps) Q E s := by
  unfold subDict
  refine wpAny_bind (wpAny_alloc ?_)
  refine wpAny_bind (wpAny_holding ?_)
  rw [if_neg (by omega)]
  refine wpAny_bind (wpAny_rule ?_)
  refine wpAny_bind (sub_loop hu kp ps ts (dct s) [] _ tr hp (dct_at s) hn (by simpa using hz) ?_)
  exact wpAny_pure (wpAny_pure q)
/-- what the pairs are, made one behind the other -/
def madeAll : List Dat → Shared → Shared
  | [], s => s
  | t :: ts, s => madeAll ts (t.made s)
def entsOf : List Dat → Shared → List (List Str × Addr × Value)
  | [], _ => []
  | t :: ts, s => t.ent s :: entsOf ts (t.made s)
structure KeepM (P : Shared → Prop) : Prop where
  key : ∀ t s, P s → P (keyS (Dat.x t) (Dat.y t) s)
  made : ∀ t s, P s → P (Dat.made t s)
theorem ev_pairs {P : Shared → Prop} (kp : KeepM P) : ∀ (ps : List (Sem Value × Sem Value)) (ts : List Dat) (s : Shared) (Q : List (Value × Value) → Shared → Prop), AllT prog w A E P ps ts → P s →
    Q ((entsOf ts s).map fun y => (.ref y.2.1, y.2.2)) (madeAll ts s) → wpAny (model prog w) A (evalPairs ps) Q E s
  | _, _, s, Q, .nil, hp, q => wpAny_pure q
  | p :: ps, t :: ts, s, Q, .cons tr trs, hp, q => by
    unfold evalPairs
    refine wpAny_bind (tr.key s hp _ ?_)
    refine wpAny_bind (wpAny_holding (tr.val _ (kp.key t s hp) _ ?_))
    refine wpAny_bind (wpAny_holding (ev_pairs kp ps ts (t.made s) _ trs (kp.made t s hp) (wpAny_pure ?_)))
    have sz : (keyS t.x t.y s).heap.objs.size = s.heap.objs.size + 1 := size_push _ _
    rw [sz]
    exact q
theorem ents_keys : ∀ (ts : List Dat) (s : Shared), (entsOf ts s).map (·.1) = ts.map fun t => [t.x, t.y]
  | [], _ => rfl
  | t :: ts, s => by
    show [t.x, t.y] :: (entsOf ts (t.made s)).map (·.1) = _
    rw [ents_keys ts]
    rfl
/-- what stands stays -/
theorem made_get (t : Dat) (s : Shared) {a : Addr} {o : Obj} (e : s.heap.get? a = some o) : (t.made s).heap.get? a = some o := Heap.get?_push_of_some _ (Heap.get?_push_of_some _ e)
theorem madeAll_get : ∀ (ts : List Dat) (s : Shared) {a : Addr} {o : Obj}, s.heap.get? a = some o → (madeAll ts s).heap.get? a = some o
  | [], _, _, _, e => e
  | t :: ts, s, _, _, e => madeAll_get ts (t.made s) (made_get t s e)
theorem is_up {h h' : Heap} {k : List Str} {a : Addr} (up : ∀ b o, h.get? b = some o → h'.get? b = some o) (x : (kd prog w).is h k a) : (kd prog w).is h' k a := by
  obtain ⟨o', items, n, h1, h2, h3, h4⟩ := x
  exact ⟨o', items, n, up _ _ h1, h2, h3, h4⟩
theorem ents_is : ∀ (ts : List Dat) (s : Shared), ∀ y ∈ entsOf ts s, (kd prog w).is (madeAll ts s).heap y.1 y.2.1
  | [], _, _, h => by cases h
  | t :: ts, s, y, h => by
    rcases List.mem_cons.mp h with rfl | h
    · exact is_up (fun b o e => madeAll_get ts (t.made s) e) (made_key t s)
    · exact ents_is ts (t.made s) y h
theorem set_all {d : Addr} (hu : A.units < cLine) : ∀ (ys xs : List (List Str × Addr × Value)) (s : Shared) (Q : PUnit → Shared → Prop), s.heap.DictOfH (kd prog w) d xs → (∀ y ∈ ys, (kd prog w).is s.heap y.1 y.2.1) → ((xs ++ ys).map (·.1)).Nodup → (∀ y ∈ ys, y.1.length = 2) → (xs ++ ys).length ≤ sizeLine →
    Q PUnit.unit { s with heap := ys.foldl (grow (kd prog w) d) s.heap, toks := s.toks + 3 * ys.length } →
    wpAny (model prog w) A (forIn (ys.map fun y => (Value.ref y.2.1, y.2.2)) PUnit.unit fun (x : Value × Value) (_ : PUnit) => (do dictSet d x.1 x.2; pure (ForInStep.yield PUnit.unit) : Sem (ForInStep PUnit))) Q E s
  | [], xs, s, Q, hm, hy, hn, h2, hz, q => by
    rw [List.map_nil, List.forIn_nil]
    exact wpAny_pure q
  | (k, a, v) :: ys, xs, s, Q, hm, hy, hn, h2, hz, q => by
    rw [List.map_cons, List.forIn_cons]
    have hno : k ∉ xs.map (·.1) := by
      rw [List.map_append, List.nodup_append] at hn
      exact fun z => hn.2.2 _ z _ (by simp) rfl
    have hk := hy _ List.mem_cons_self
    refine wpAny_bind (wpAny_bind (set_new' (knd := kd prog w) hu hk hm hno (by rw [List.length_append] at hz; omega) (wpAny_pure ?_)))
    have e3 : (kd prog w).draws k = 3 := by
      show k.length + 1 = 3
      rw [h2 _ List.mem_cons_self]
    rw [e3]
    refine set_all hu ys (xs ++ [(k, a, v)]) _ Q (grow_dict hm hk hno) (fun z hz' => is_keep hm grow_same (hy z (List.mem_cons_of_mem _ hz'))) (by rw [List.append_assoc]; exact hn) (fun z hz' => h2 z (List.mem_cons_of_mem _ hz')) (by rw [List.append_assoc]; exact hz) ?_
    rw [List.length_cons] at q
    rw [show s.toks + 3 + 3 * ys.length = s.toks + 3 * (ys.length + 1) by omega]
    exact q
end
end H1

/-! H7: a display of 18 to 32 pairs, exactly. -/
namespace H1
open PySem PySem.Calls PyProof.Rows
section
variable {prog : Program} {w : World} {A : Around} {E : Value → Shared → Prop} {s : Shared} {env : Env}
/-- behind the short dict -/
def short (prog : Program) (w : World) (ts : List Dat) (s : Shared) : Shared := { madeAll ts (dct s) with heap := (entsOf ts (dct s)).foldl (grow (kd prog w) s.heap.objs.size) (madeAll ts (dct s)).heap, toks := (madeAll ts (dct s)).toks + 3 * (entsOf ts (dct s)).length }
theorem ents_two : ∀ (ts : List Dat) (s : Shared), ∀ y ∈ entsOf ts s, y.1.length = 2
  | [], _, _, h => by cases h
  | t :: ts, s, y, h => by
    rcases List.mem_cons.mp h with rfl | h
    · rfl
    · exact ents_two ts (t.made s) y h
theorem ents_len : ∀ (ts : List Dat) (s : Shared), (entsOf ts s).length = ts.length
  | [], _ => rfl
  | t :: ts, s => by
    show (entsOf ts (t.made s)).length + 1 = _
    rw [ents_len ts]
    rfl
theorem dict_up {h h' : Heap} {d : Addr} {xs : List (List Str × Addr × Value)} (up : ∀ b o, h.get? b = some o → h'.get? b = some o) (hm : h.DictOfH (kd prog w) d xs) : h'.DictOfH (kd prog w) d xs := by
  obtain ⟨ob, es, ep, ho, hc, hd, he, his, hn⟩ := hm
  exact ⟨ob, es, ep, up _ _ ho, hc, hd, he, fun x hx => is_up up (his x hx), hn⟩
theorem sub_short {P : Shared → Prop} {Q : Addr → Shared → Prop} {ps : List (Sem Value × Sem Value)} {ts : List Dat} (hu : A.units < cLine) (kp : KeepM P) (h15 : ps.length ≤ 15) (tr : AllT prog w A E P ps ts) (hp : P (dct s)) (hn : (ts.map fun t => [t.x, t.y]).Nodup) (hz : ts.length ≤ sizeLine)
    (q : Q s.heap.objs.size (short prog w ts s)) : wpAny (model prog w) A (subDict ps) Q E s := by
  unfold subDict
  refine wpAny_bind (wpAny_alloc ?_)
  refine wpAny_bind (wpAny_holding ?_)
  rw [if_pos h15]
  refine wpAny_bind (ev_pairs kp ps ts (dct s) _ tr hp ?_)
  refine wpAny_holding ?_
  refine wpAny_bind (set_all hu (entsOf ts (dct s)) [] (madeAll ts (dct s)) _ (dict_up (fun b o e => madeAll_get ts (dct s) e) (dct_at s)) (ents_is ts (dct s)) (by rw [List.nil_append, ents_keys]; exact hn) (ents_two ts _) (by rw [List.nil_append, ents_len]; exact hz) ?_)
  exact wpAny_pure (wpAny_pure q)
theorem fold_put {d : Addr} : ∀ (ts : List Dat) (s : Shared) (xs : List (List Str × Addr × Value)), s.heap.DictOfH (kd prog w) d xs → (xs.map (·.1) ++ ts.map fun t => [t.x, t.y]).Nodup →
    ∃ ys : List (List Str × Addr × Value), ys.map (·.1) = (ts.map fun t => [t.x, t.y]) ∧ (ts.foldl (fun z t => t.put prog w d z) s).heap.DictOfH (kd prog w) d (xs ++ ys)
  | [], s, xs, hm, _ => ⟨[], rfl, by rw [List.append_nil]; exact hm⟩
  | t :: ts, s, xs, hm, hn => by
    have hno : [t.x, t.y] ∉ xs.map (·.1) := by
      rw [List.nodup_append] at hn
      exact fun z => hn.2.2 _ z _ (by simp) rfl
    have hm1 : (t.made s).heap.DictOfH (kd prog w) d xs := made_keep (made_keep hm)
    obtain ⟨ys, e, h⟩ := fold_put ts (t.put prog w d s) (xs ++ [t.ent s]) (grow_dict hm1 (made_key t s) hno) (by
      rw [List.map_append, List.append_assoc]
      exact hn)
    refine ⟨t.ent s :: ys, by rw [List.map_cons, e]; rfl, ?_⟩
    rw [List.append_assoc] at h
    exact h
theorem dict_other {h h' : Heap} {d b : Addr} {xs zs : List (List Str × Addr × Value)} (hm : h.DictOfH (kd prog w) d xs) (hb : h.DictOfH (kd prog w) b zs) (ne : d ≠ b) (s : Heap.SameBut b h h') : h'.DictOfH (kd prog w) d xs := by
  obtain ⟨ob, es, ep, ho, hc, hd, he, his, hn⟩ := hm
  exact ⟨ob, es, ep, by rw [s.2 d ne]; exact ho, hc, hd, he, fun x hx => is_keep hb s (his x hx), hn⟩
theorem dict_lt {h : Heap} {d : Addr} {xs : List (List Str × Addr × Value)} (hm : h.DictOfH (kd prog w) d xs) : d < h.objs.size := by
  obtain ⟨ob, es, ep, ho, _⟩ := hm
  exact Heap.lt_size ho
/-- behind the whole display -/
def shown (prog : Program) (w : World) (t1 t2 : List Dat) (s : Shared) : Shared :=
  let s1 := t1.foldl (fun z t => t.put prog w s.heap.objs.size z) (dct s)
  { short prog w t2 s1 with heap := (entsOf t2 (dct s1)).foldl (grow (kd prog w) s.heap.objs.size) (short prog w t2 s1).heap }
theorem display_all {P : Shared → Prop} {Q : Value → Shared → Prop} {p1 p2 : List (Sem Value × Sem Value)} {t1 t2 : List Dat} (hu : A.units < cLine) (kp1 : Keeps prog w s.heap.objs.size P) (kp2 : KeepM P) (kd1 : ∀ s, P s → P (dct s)) (hs : s.heap.objs.size ≠ sysModules)
    (hs2 : ((t1.foldl (fun z t => t.put prog w s.heap.objs.size z) (dct s)).heap.objs.size == sysModules) = false) (h1 : p1.length = 17) (h20 : p2 ≠ []) (h2 : p2.length ≤ 15) (tr1 : AllT prog w A E P p1 t1) (tr2 : AllT prog w A E P p2 t2) (hp : P s) (hp1 : P (t1.foldl (fun z t => t.put prog w s.heap.objs.size z) (dct s)))
    (hn : ((t1 ++ t2).map fun t => [t.x, t.y]).Nodup) (hz : t1.length + t2.length ≤ 1000) (ht : t1 ≠ [])
    (q : Q (.ref s.heap.objs.size) (shown prog w t1 t2 s)) : wpAny (model prog w) A (dictDisplay ((p1 ++ p2).map fun p => (some p.1, p.2))) Q E s := by
  have big : 1000 ≤ sizeLine := by decide
  rw [List.map_append, List.nodup_append] at hn
  obtain ⟨n1, n2, n3⟩ := hn
  obtain ⟨P0, p, rfl⟩ : ∃ P0 p, p1 = P0 ++ [p] := ⟨p1.dropLast, p1.getLast (fun z => by rw [z] at h1; cases h1), (List.dropLast_concat_getLast _).symm⟩
  rw [List.length_append, List.length_singleton] at h1
  rw [show P0 ++ [p] ++ p2 = P0 ++ p :: p2 by simp, display_two P0 p p2 (by omega) h20 (by omega)]
  obtain ⟨ys, ey, hd1⟩ := fold_put (d := s.heap.objs.size) t1 (dct s) [] (dct_at s) n1
  rw [List.nil_append] at hd1
  refine wpAny_bind (sub_long hu kp1 (by rw [List.length_append, List.length_singleton]; omega) tr1 (kd1 s hp) n1 (by omega) ?_)
  refine wpAny_bind (wpAny_holding (sub_short hu kp2 h2 tr2 (kd1 _ hp1) n2 (by omega) ?_))
  obtain ⟨s1, e1⟩ : ∃ s1, s1 = t1.foldl (fun z t => t.put prog w s.heap.objs.size z) (dct s) := ⟨_, rfl⟩
  have qq : Q (.ref s.heap.objs.size) { short prog w t2 s1 with heap := (entsOf t2 (dct s1)).foldl (grow (kd prog w) s.heap.objs.size) (short prog w t2 s1).heap } := by rw [e1]; exact q
  rw [← e1] at hd1 hs2 ⊢
  have ne : s.heap.objs.size ≠ s1.heap.objs.size := Nat.ne_of_lt (dict_lt hd1)
  have m1 : (madeAll t2 (dct s1)).heap.DictOfH (kd prog w) s.heap.objs.size ys := dict_up (fun b o e => madeAll_get t2 (dct s1) e) (made_keep hd1)
  have m2 : (madeAll t2 (dct s1)).heap.DictOfH (kd prog w) s1.heap.objs.size [] := dict_up (fun b o e => madeAll_get t2 (dct s1) e) (dct_at s1)
  obtain ⟨f1, f2⟩ := fold_dict (entsOf t2 (dct s1)) [] m2 (ents_is t2 (dct s1)) (by rw [List.nil_append, ents_keys]; exact n2)
  rw [List.nil_append] at f1
  have ly : ys.length = t1.length := by
    have := congrArg List.length ey
    simpa using this
  refine wpAny_bind (wpAny_onRaise (wpAny_holding (merge_new (knd := kd prog w) (s := short prog w t2 s1) hu ne hs2 ?_ (dict_other m1 m2 ne f2) f1 ?_ ?_ (wpAny_pure qq))))
  · intro z
    rw [z] at ly
    cases t1 with
    | nil => exact ht rfl
    | cons _ _ => cases ly
  · rw [List.map_append, ey, ents_keys, List.nodup_append]
    exact ⟨n1, n2, n3⟩
  · rw [List.length_append, ents_len]
    omega
end
end H1

/-! R1: runs of the top, put together of pieces: steps that the kernel takes, and one statement shown by the rules. -/
namespace R1
open PySem PySem.W PySem.Calls PyProof.Rows
/-- the one thread comes from here to there -/
def Go (p : Program) (w : World) (s : Shared) (t : Thread) (s' : Shared) (t' : Thread) : Prop := ∃ n, schedN (denote table) p w n (.single s t) = .running (.single s' t')
theorem sched_add {p : Program} {w : World} {m : Nat} {c' : Config} {r : SRun} (h' : schedN (denote table) p w m c' = r) : ∀ (n : Nat) (c : Config), schedN (denote table) p w n c = .running c' → schedN (denote table) p w (n + m) c = r
  | 0, c, h => by
    have e : SRun.running c = .running c' := h
    injection e with e
    subst e
    rw [Nat.zero_add]
    exact h'
  | n + 1, c, h => by
    rw [show n + 1 + m = (n + m) + 1 by omega]
    unfold schedN at h ⊢
    cases e : sstep (denote table) p w c with
    | halt o s => rw [e] at h; cases h
    | go c2 => rw [e] at h; exact sched_add h' n c2 h
section
variable {p : Program} {w : World} {s s1 s2 s' : Shared} {t t1 t2 t' : Thread}
theorem Go.refl (s : Shared) (t : Thread) : Go p w s t s t := ⟨0, rfl⟩
theorem Go.trans (a : Go p w s t s1 t1) (b : Go p w s1 t1 s2 t2) : Go p w s t s2 t2 := by
  obtain ⟨n, hn⟩ := a
  obtain ⟨m, hm⟩ := b
  exact ⟨n + m, sched_add hm n _ hn⟩
theorem Go.one (hc : t.calm = true) (hr : s.asleep) (h : step (denote table) p w s t = .go s' t') : Go p w s t s' t' := by
  refine ⟨1, ?_⟩
  have e : sstep (denote table) p w (.single s t) = .go (.single s' t') := by
    rcases sstep_single (denote table) p w s t hc hr with e | e
    · rw [e, h]; rfl
    · rw [h] at e; cases e
  show schedN (denote table) p w (0 + 1) _ = _
  unfold schedN
  rw [e]
  rfl
theorem stay_asleep (hr : s.asleep) (h : step (denote table) p w s t = .go s' t') : s'.asleep := Shared.asleep_of_life (step_life (denote table) p w s s' t t' h) hr

/-- what the rules' own machine does, the real one does, but for marks that nobody reads -/
theorem Go.of_model : ∀ (n : Nat) (s s' : Shared) (t t' : Thread) (sr : Shared) (tr : Thread), (model p w).runN n s t = .running s' t' → sr.forget = s.forget → tr.forget = t.forget → sr.asleep →
    ∃ sr' tr', Go p w sr tr sr' tr' ∧ sr'.forget = s'.forget ∧ tr'.forget = t'.forget ∧ sr'.asleep
  | 0, s, s', t, t', sr, tr, h, es, et, ha => by
    have e : Run.running s t = .running s' t' := h
    injection e with e1 e2
    subst e1 e2
    exact ⟨sr, tr, .refl _ _, es, et, ha⟩
  | n + 1, s, s', t, t', sr, tr, h, es, et, ha => by
    rw [runN_succ] at h
    cases hs : (model p w).step s t with
    | halt o s2 => simp only [hs] at h; cases h
    | go s2 t2 =>
      simp only [hs] at h
      have hl : t.loud = false := by
        cases q : t.loud with
        | false => rfl
        | true => rw [Model.step_loud (model p w) q] at hs; cases hs
      rw [Model.step_quiet (model p w) hl] at hs
      have hk : stepK (denote table) p w s t = .go s2 t2 := hs
      have hrf : t.refused = false := by
        cases q : t.refused with
        | false => rfl
        | true =>
          obtain ⟨what, e⟩ := stepK_refused (denote table) p w (s := s) q
          rw [hk] at e; cases e
      have hc : tr.calm = true := by
        rw [← Thread.calm_forget tr, et, Thread.calm_forget t, Thread.calm_eq, hl, hrf]
        rfl
      have e2 : (step (denote table) p w sr tr).forget = (Step.go s2 t2).forget := by
        rw [step_same (denote table) p w es et, ← stepK_forget, hk]
      cases hq : step (denote table) p w sr tr with
      | halt o s3 => rw [hq] at e2; cases e2
      | go s3 t3 =>
        rw [hq] at e2
        simp only [Step.forget, Step.go.injEq] at e2
        obtain ⟨sr', tr', g, x, y, z⟩ := Go.of_model n s2 s' t2 t' s3 t3 h e2.1 e2.2 (stay_asleep ha hq)
        exact ⟨sr', tr', (Go.one hc ha hq).trans g, x, y, z⟩
theorem forget_through (e : t.forget = t'.forget) : through t = through t' := by
  obtain ⟨c1, d1, p1, k1⟩ := t
  obtain ⟨c2, d2, p2, k2⟩ := t'
  simp only [Thread.forget, Thread.mk.injEq] at e
  obtain ⟨rfl, _, _, e⟩ := e
  have : k1.isEmpty = k2.isEmpty := by
    cases k1 <;> cases k2 <;> first | rfl | (simp only [forgetAll_cons, forgetAll_nil] at e; cases e)
  unfold through
  dsimp only
  rw [this]
theorem Go.of_top {n0 : Nat} {ann : Option Value} : ∀ (n : Nat) (s : Shared) (t : Thread) (s1 sr : Shared) (tr : Thread), topRun table p w n0 ann n s t = some s1 → sr.forget = s.forget → tr.forget = t.forget → sr.asleep →
    ∃ sr' tr', Go p w sr tr sr' tr' ∧ through tr' = true ∧ sr'.forget = s1.forget
  | 0, s, t, s1, sr, tr, h, es, et, ha => by cases h
  | n + 1, s, t, s1, sr, tr, h, es, et, ha => by
    unfold topRun at h
    cases ht : through t with
    | true =>
      rw [ht] at h
      obtain rfl : s = s1 := Option.some.inj h
      exact ⟨sr, tr, .refl _ _, (forget_through et).trans ht, es⟩
    | false =>
      rw [ht] at h
      cases hk : stepOk n0 ann t with
      | false => rw [hk] at h; cases h
      | true =>
        rw [hk] at h
        cases hs : step (denote table) p w s t with
        | halt o s2 => rw [hs] at h; cases h
        | go s2 t2 =>
          rw [hs] at h
          have hc : tr.calm = true := by
            rw [← Thread.calm_forget tr, et, Thread.calm_forget t]
            exact (Bool.and_eq_true_iff.mp hk).1
          have e2 : (step (denote table) p w sr tr).forget = (Step.go s2 t2).forget := by rw [step_same (denote table) p w es et, hs]
          cases hq : step (denote table) p w sr tr with
          | halt o s3 => rw [hq] at e2; cases e2
          | go s3 t3 =>
            rw [hq] at e2
            simp only [Step.forget, Step.go.injEq] at e2
            obtain ⟨sr', tr', g, x, y⟩ := Go.of_top n s2 t2 s1 s3 t3 h e2.1 e2.2 (stay_asleep ha hq)
            exact ⟨sr', tr', (Go.one hc ha hq).trans g, x, y⟩
end
/-- steps that keep what stands, but what the top may write -/
inductive Way (p : Program) (w : World) (n0 : Nat) (ann : Option Value) : Shared → Thread → Shared → Thread → Prop
  | refl (s : Shared) (t : Thread) : Way p w n0 ann s t s t
  | step {s s2 s' : Shared} {t t2 t' : Thread} : stepOk n0 ann t = true → PySem.step (denote table) p w s t = .go s2 t2 → Way p w n0 ann s2 t2 s' t' → Way p w n0 ann s t s' t'
/-- what stood below n0 stands, but the top's own -/
def Kept (n0 : Nat) (ann : Option Value) (h h' : Heap) : Prop := ∀ b o, b < n0 → b ≠ mainNs → b ≠ cStatics → ann ≠ some (.ref b) → h.get? b = some o → h'.get? b = some o
section
variable {p : Program} {w : World} {n0 : Nat} {ann : Option Value} {s s1 s2 s' : Shared} {t t1 t2 t' : Thread}
theorem Way.trans (a : Way p w n0 ann s t s1 t1) (b : Way p w n0 ann s1 t1 s2 t2) : Way p w n0 ann s t s2 t2 := by
  induction a with
  | refl => exact b
  | step h1 h2 _ ih => exact .step h1 h2 (ih b)
theorem kept_step (hk : stepOk n0 ann t = true) (hs : PySem.step (denote table) p w s t = .go s' t') : s'.os = s.os ∧ Kept n0 ann s.heap s'.heap := by
  obtain ⟨hc, hk⟩ := Bool.and_eq_true_iff.mp hk
  refine ⟨step_os_same hs (by revert hk; cases t.cur <;> simp), fun b o h1 h2 h3 h4 h5 => ?_⟩
  rw [PySem.step_heap (denote table) p w s s' t t' hs]
  revert hk
  cases t.cur <;> intro hk <;> try exact h5
  case update a _ f _ =>
    have ne : b ≠ a := by
      rintro rfl
      simp only [Bool.or_eq_true, Nat.ble_eq, beq_iff_eq] at hk
      rcases hk with ((q | q) | q) | q
      · exact absurd h1 (Nat.not_lt.mpr q)
      · exact h2 q
      · exact h3 q
      · exact h4 q
    exact (Heap.get?_update_ne _ _ _ _ ne).trans h5
  case alloc x _ => exact Heap.get?_push_of_some x h5
theorem Kept.trans {h h1 h2 : Heap} (a : Kept n0 ann h h1) (b : Kept n0 ann h1 h2) : Kept n0 ann h h2 := fun x o e1 e2 e3 e4 e5 => b x o e1 e2 e3 e4 (a x o e1 e2 e3 e4 e5)
theorem Way.facts (a : Way p w n0 ann s t s' t') (hr : s.asleep) : Go p w s t s' t' ∧ s'.asleep ∧ s'.heap.life = s.heap.life ∧ s'.os = s.os ∧ Kept n0 ann s.heap s'.heap := by
  induction a with
  | refl s t => exact ⟨.refl _ _, hr, rfl, rfl, fun _ _ _ _ _ _ e => e⟩
  | step h1 h2 _ ih =>
    obtain ⟨k1, k2⟩ := kept_step h1 h2
    obtain ⟨g, a, l, o, k⟩ := ih (stay_asleep hr h2)
    exact ⟨(Go.one (Bool.and_eq_true_iff.mp h1).1 hr h2).trans g, a, l.trans (step_life (denote table) p w _ _ _ _ h2), o.trans k1, k2.trans k⟩
variable {α : Type} {B : List Frame} {K' : α → Sem Fin} {H' : Value → Sem Fin} {gd : Bool → Bool} {lv : List Value → List Value} {res : α → Flow}
/-- a piece that the kernel ran by itself, within the whole -/
theorem seg_way (hB : splitAtGen B = none) : ∀ (n : Nat) (s : Shared) (t t' : Thread) (f : Flow) (s' : Shared) (c' : Code) (p' : Pos), Rel2 (fun a => .pure (.done (res a))) K' deadEnd H' gd lv B t t' →
    segRun table p w n0 ann B.length n s t = some (f, s', c', p') → ∃ a, res a = f ∧ Way p w n0 ann s t' s' ⟨K' a, c', p', B⟩
  | 0, _, _, _, _, _, _, _, _, h => by cases h
  | n + 1, s, ⟨cur, code, pos, st⟩, ⟨cur2, code2, pos2, st2⟩, f, s', c', p', R, h => by
    obtain ⟨z1, z2, R⟩ := R
    dsimp only at z1 z2 R
    subst z1 z2
    unfold segRun at h
    cases he : endAt B.length ⟨cur, code, pos, st⟩ with
    | some g =>
      rw [he] at h
      obtain ⟨z1, z2, z3, z4⟩ : g = f ∧ s = s' ∧ code = c' ∧ pos = p' := by simpa using h
      subst z1 z2 z3 z4
      rcases R with ⟨q1, q2, x, q3, q4⟩ | ⟨q1, F⟩
      · subst q1 q2 q3 q4
        cases x with
        | pure a =>
          simp only [endAt, Sem.wrap, beq_self_eq_true, Option.some.injEq] at he
          exact ⟨a, he, .refl _ _⟩
        | _ => simp [endAt, Sem.wrap] at he
      · have ne : (st.length == B.length) = false := beq_eq_false_iff_ne.mpr (Nat.ne_of_gt F.longer.1)
        simp only [endAt, ne] at he
        cases he
    | none =>
      rw [he] at h
      cases hk : stepOk n0 ann ⟨cur, code, pos, st⟩ with
      | false => rw [hk] at h; cases h
      | true =>
        rw [hk] at h
        cases hs : PySem.step (denote table) p w s ⟨cur, code, pos, st⟩ with
        | halt o s2 => rw [hs] at h; cases h
        | go s2 t2 =>
          rw [hs] at h
          have key : ∃ t3, PySem.step (denote table) p w s ⟨cur2, code, pos, st2⟩ = .go s2 t3 ∧ stepOk n0 ann ⟨cur2, code, pos, st2⟩ = true ∧ Rel2 (fun a => .pure (.done (res a))) K' deadEnd H' gd lv B t2 t3 := by
            rcases R with ⟨q1, q2, x, q3, q4⟩ | ⟨q1, F⟩
            · subst q1 q2 q3 q4
              have hp : ∀ a, x ≠ .pure a := by
                rintro a rfl
                simp [endAt, Sem.wrap] at he
              have hr : ∀ e, x ≠ .raise e := by
                rintro e rfl
                obtain ⟨heap, gens, drawn, toks, os⟩ := s
                simp only [Sem.wrap, PySem.step] at hs
                cases hs
              obtain ⟨t3, e3, R3⟩ := step_outer (K' := K') (H' := H') hB hp hs
              exact ⟨t3, e3, (okOuter (K' := K') (H' := H') hp hr hk).1, R3⟩
            · subst q1
              obtain ⟨t3, e3, R3⟩ := step_inner hB F hs
              exact ⟨t3, e3, (okInner hB F hk).1, R3⟩
          obtain ⟨t3, e3, k3, R3⟩ := key
          obtain ⟨a, ha, W⟩ := seg_way hB n s2 t2 t3 f s' c' p' R3 h
          exact ⟨a, ha, .step k3 e3 W⟩
end
end R1

/-! R2: the top's way up to a statement; a name bound by an expression that the rules show; the way behind it. -/
namespace R1
open PySem PySem.W PySem.Calls PyProof.Rows
def envT (p : Program) (code : Value) (fr : Addr) : Env := { scope := p.main.scope, locals := mainNs, globals := mainNs, cells := [], code, frame := some fr }
def baseT (c : Code) (q : Pos) : List Frame := [.ret topAfter none false [] c q []]
section
variable {p : Program} {w : World} {n0 : Nat} {ann : Option Value}
theorem body_way {s s' : Shared} {b : List Stmt} {env : Env} {c c' : Code} {pos p' : Pos} {q : Code} {qp : Pos} {n : Nat} (h : segRun table p w n0 ann 1 n s (blockOf b env c pos (baseT q qp)) = some (.next, s', c', p')) :
    Way p w n0 ann s ⟨denote table (.body b env), c, pos, baseT q qp⟩ s' (restOf b env c' p' (baseT q qp)) := by
  obtain ⟨a, _, W⟩ := seg_way (p := p) (w := w) (n0 := n0) (ann := ann) (res := fun _ : Unit => Flow.next) (K' := fun _ => (execs b env).wrap doneF (leaveH env) id id) (H' := Sem.raise) (B := baseT q qp) rfl n s (blockOf b env c pos (baseT q qp))
    ⟨(blockStart b env).wrap (fun _ => (execs b env).wrap doneF (leaveH env) id id) .raise id id, c, pos, baseT q qp⟩ _ _ _ _ ⟨rfl, rfl, .inl ⟨rfl, rfl, _, rfl, rfl⟩⟩ h
  rw [body_wrap]
  exact W
theorem part_way {s s' : Shared} {l rest : List Stmt} {env : Env} {c c' : Code} {pos p' : Pos} {q : Code} {qp : Pos} {n : Nat} (h : segRun table p w n0 ann 1 n s (piecesOf l env c pos (baseT q qp)) = some (.next, s', c', p')) :
    Way p w n0 ann s (restOf (l ++ rest) env c pos (baseT q qp)) s' (restOf rest env c' p' (baseT q qp)) := by
  obtain ⟨a, ha, W⟩ := seg_way (p := p) (w := w) (n0 := n0) (ann := ann) (res := id) (K' := fun f => match f with | .next => (execs rest env).wrap doneF (leaveH env) id id | f => doneF f) (H' := leaveH env) (B := baseT q qp) rfl n s (piecesOf l env c pos (baseT q qp))
    ⟨(execs l env).wrap (fun f => match f with | .next => (execs rest env).wrap doneF (leaveH env) id id | f => doneF f) (leaveH env) id id, c, pos, baseT q qp⟩ _ _ _ _ ⟨rfl, rfl, .inl ⟨rfl, rfl, _, rfl, rfl⟩⟩ h
  obtain rfl : a = .next := ha
  unfold restOf
  rw [execs_app_wrap]
  exact W
abbrev callerC : Code := .builtin "claim.caller" {}
abbrev codeTh (p : Program) : Thread := ⟨(moduleCode p.main).wrap (fun v => doneF (.ret v)) deadEnd id id, callerC, default, []⟩
abbrev frameTh (code : Value) (c : Code) (q : Pos) : Thread := ⟨(newBodyFrame code mainNs mainNs).wrap (fun a => doneF (.ret (.ref a))) deadEnd id id, c, q, []⟩
theorem quiet_calm {c : Code} {b : List Stmt} {env : Env} {k : Result → Sem Fin} {q : Pos} : stepOk n0 ann ⟨.call (.body b env) none false [] k, c, q, []⟩ = true := by
  simp [stepOk, Thread.calm, Thread.yieldsInsideHandler, Thread.atCollectorCode, Thread.atExit]
theorem top_way {s0 s1 s2 s3 s4 : Shared} {code : Value} {fr : Addr} {c1 c2 c3 c4 : Code} {p1 p2 p3 p4 : Pos} {n1 n2 n3 n4 : Nat} {l rest : List Stmt}
    (h1 : segRun table p w n0 ann 0 n1 s0 (codeTh p) = some (.ret code, s1, c1, p1))
    (h2 : segRun table p w n0 ann 0 n2 s1 (frameTh code c1 p1) = some (.ret (.ref fr), s2, c2, p2))
    (h3 : segRun table p w n0 ann 1 n3 s2 (blockOf (behindTheImports p) (envT p code fr) (.body (behindTheImports p) (envT p code fr)) p2 (baseT c2 p2)) = some (.next, s3, c3, p3))
    (h4 : segRun table p w n0 ann 1 n4 s3 (piecesOf l (envT p code fr) c3 p3 (baseT c2 p2)) = some (.next, s4, c4, p4))
    (e : behindTheImports p = l ++ rest) : Way p w n0 ann s0 (topStub p) s4 (restOf rest (envT p code fr) c4 p4 (baseT c2 p2)) := by
  have W3 := body_way h3
  have W4 := part_way (rest := rest) h4
  rw [← e] at W4
  let fb : Addr → Sem Fin := fun fr' => (run (.body (behindTheImports p) (envT p code fr'))).bind fun _ => (ret .none : Sem Fin)
  let fa : Value → Sem Fin := fun code' => (newBodyFrame code' mainNs mainNs).bind fun fr' => (run (.body (behindTheImports p) (envT p code' fr'))).bind fun _ => (ret .none : Sem Fin)
  obtain ⟨a, ha, W1⟩ := seg_way (p := p) (w := w) (n0 := n0) (ann := ann) (res := fun v : Value => Flow.ret v) (K' := fa) (H' := Sem.raise) (B := []) rfl n1 s0 (codeTh p)
    ⟨(moduleCode p.main).wrap fa .raise id id, callerC, default, []⟩ _ _ _ _ ⟨rfl, rfl, .inl ⟨rfl, rfl, _, rfl, rfl⟩⟩ h1
  obtain rfl : a = code := by injection ha
  obtain ⟨a2, ha2, W2⟩ := seg_way (p := p) (w := w) (n0 := n0) (ann := ann) (res := fun v : Addr => Flow.ret (.ref v)) (K' := fb) (H' := Sem.raise) (B := []) rfl n2 s1 (frameTh a c1 p1)
    ⟨(newBodyFrame a mainNs mainNs).wrap fb .raise id id, c1, p1, []⟩ _ _ _ _ ⟨rfl, rfl, .inl ⟨rfl, rfl, _, rfl, rfl⟩⟩ h2
  obtain rfl : a2 = fr := by
    injection ha2 with ha2
    injection ha2
  have e1 : topStub p = ⟨(moduleCode p.main).wrap fa .raise id id, callerC, default, []⟩ := by
    rw [← Sem.bind_eq_wrap]
    rfl
  have e2 : (⟨fa a, c1, p1, []⟩ : Thread) = ⟨(newBodyFrame a mainNs mainNs).wrap fb .raise id id, c1, p1, []⟩ := by
    rw [← Sem.bind_eq_wrap]
  rw [e1]
  refine W1.trans ?_
  rw [e2]
  refine W2.trans (.step (t2 := ⟨denote table (.body (behindTheImports p) (envT p a a2)), .body (behindTheImports p) (envT p a a2), p2, baseT c2 p2⟩) ?_ ?_ (W3.trans W4))
  · exact quiet_calm
  · rfl
/-! ### a name bound -/
/-- what is left of `x = e` behind e -/
def bindG (env : Env) (x : Str) (xp : Pos) (rest : List Stmt) (v : Value) : Sem Fin :=
  ((standAt xp).bind fun _ => (bindName env x v).bind fun _ => (Sem.pure Flow.next : Sem Flow)).wrap (fun f => match f with | .next => (execs rest env).wrap doneF (leaveH env) id id | f => doneF f) (leaveH env) id id
theorem rest_assign {env : Env} {x : Str} {xp pos q : Pos} {e : Expr} {rest : List Stmt} {c : Code} {B : List Frame} (hs : swapsWith e (some (.Name x xp)) pos.line env = pure false) :
    restOf (.Assign [.Name x xp] e pos :: rest) env c q B = ⟨.at pos fun _ => ((eval e env).onRaise (leaving env)).bind (bindG env x xp rest), c, q, B⟩ := by
  unfold restOf
  rw [execs_cons_wrap, exec_Assign_Name env x xp e pos hs]
  have e1 : ((eval e env).onRaise (leaving env)).bind (bindG env x xp rest) = (eval e env).wrap (bindG env x xp rest) (leaveH env) id id := by
    rw [Sem.bind_eq_wrap, Sem.onRaise_eq_wrap, Sem.wrap_wrap]
    refine Sem.wrap_congr _ _ _ (fun _ => rfl) fun er => ?_
    show ((leaving env er).bind fun _ => (.raise er : Sem Value)).wrap (bindG env x xp rest) .raise id id = ((leaving env er).bind fun _ => (.raise er : Sem Flow)).wrap doneF .raise id id
    rw [Sem.bind_eq_wrap, Sem.bind_eq_wrap, Sem.wrap_wrap, Sem.wrap_wrap]
    rfl
  rw [e1]
  have e2 : ∀ v, bindG env x xp rest v = ((do standAt xp; bindName env x v; pure .next : Sem Flow)).wrap (fun f => match f with | .next => (execs rest env).wrap doneF (leaveH env) id id | f => doneF f) (leaveH env) id id := fun _ => rfl
  have e3 : ((eval e env).bind fun v => (do standAt xp; bindName env x v; pure Flow.next : Sem Flow)).wrap (fun f => match f with | .next => (execs rest env).wrap doneF (leaveH env) id id | f => doneF f) (leaveH env) id id = (eval e env).wrap (bindG env x xp rest) (leaveH env) id id := by
    rw [Sem.bind_eq_wrap, Sem.wrap_wrap]
    rfl
  rw [← e3]
  rfl
end
end R1

/-! R3: the whole top of three parts; the same pieces over the heap as a tree. -/
namespace R1
open PySem PySem.W PySem.Calls PyProof.Rows
theorem shared_eq {s s' : Shared} (e : s.forget = s'.forget) (g : s'.gens = #[]) : s = s' := by
  obtain ⟨h, gs, d, k, o⟩ := s
  obtain ⟨h', gs', d', k', o'⟩ := s'
  simp only at g
  subst g
  simp only [Shared.forget, Shared.mk.injEq] at e
  obtain ⟨rfl, e, rfl, rfl, rfl⟩ := e
  have : gs = #[] := by
    have z := congrArg Array.size e
    simp only [Array.size_map] at z
    exact Array.eq_empty_of_size_eq_zero z
  subst this
  rfl
structure Ran (p : Program) (w : World) (n0 : Nat) (ann : Option Value) (s0 s1 : Shared) : Prop where
  run : ∃ n t, schedN (denote table) p w n (.single s0 (topStub p)) = .running (.single s1 t) ∧ through t = true
  life : s1.heap.life = s0.heap.life
  os : s1.os = s0.os
  kept : Kept n0 ann s0.heap s1.heap
  asleep : s1.asleep
theorem whole {p : Program} {w : World} {n0 : Nat} {ann : Option Value} {A : Around} {Good : Shared → Prop} {s0 sA sB : Shared} {x : Str} {xp pos q : Pos} {e : Expr} {rest : List Stmt} {env : Env} {c : Code} {B : List Frame} {v0 : Value}
    (W : Way p w n0 ann s0 (topStub p) sA (restOf (.Assign [.Name x xp] e pos :: rest) env c q B)) (hs : swapsWith e (some (.Name x xp)) pos.line env = pure false) (hA : (Ctx.of c B).In A)
    (wpE : wpAny (model p w) A (eval e env) (fun v s' => v = v0 ∧ s' = sB) (fun _ _ => False) sA) (kB : Kept n0 ann sA.heap sB.heap) (lB : sB.heap.life = sA.heap.life) (oB : sB.os = sA.os)
    (S : ∀ pp, ∃ n s1, topRun table p w n0 ann n sB ⟨bindG env x xp rest v0, c, pp, B⟩ = some s1 ∧ s1.gens = #[] ∧ Good s1) (hr : s0.asleep) : ∃ s1, Ran p w n0 ann s0 s1 ∧ Good s1 := by
  obtain ⟨g, ha, l, o, k⟩ := W.facts hr
  rw [rest_assign hs] at g
  have st : Go p w sA ⟨.at pos fun _ => ((eval e env).onRaise (leaving env)).bind (bindG env x xp rest), c, q, B⟩ sA ⟨((eval e env).onRaise (leaving env)).bind (bindG env x xp rest), c, pos, B⟩ := by
    refine Go.one rfl ha ?_
    obtain ⟨heap, gens, drawn, toks, os⟩ := sA
    rfl
  have h0 : wpAny (model p w) A ((eval e env).onRaise (leaving env)) (fun v s' => v = v0 ∧ s' = sB) (fun _ _ => False) sA :=
    wpAny_onRaise (wpAny_mono wpE (fun _ _ z => z) (fun _ _ z => z.elim))
  obtain ⟨s', p', t', ⟨n, hn⟩, hz⟩ := wp_comes_bind (Ctx.fits_of c B) (bindG env x xp rest) _ _ _ pos sA (h0 (Ctx.of c B) pos hA)
  rcases hz with ⟨a, rfl, rfl, rfl⟩ | ⟨_, _, z⟩
  · obtain ⟨sr, tr, g2, e1, e2, ha2⟩ := Go.of_model n sA s' _ _ sA _ hn rfl rfl ha
    obtain ⟨m, s1, hm, g1, good⟩ := S p'
    obtain ⟨sr2, tr2, g3, th, e3⟩ := Go.of_top m s' _ s1 sr tr hm e1 e2 ha2
    obtain rfl := shared_eq e3 g1
    have hB : s'.asleep := Shared.asleep_of_life lB ha
    obtain ⟨_, l2, o2, k2⟩ := topRun_spec m s' _ _ hB hm
    obtain ⟨N, hN⟩ := (g.trans st).trans (g2.trans g3)
    exact ⟨sr2, ⟨⟨N, tr2, hN, th⟩, l2.trans (lB.trans l), o2.trans (oB.trans o), (k.trans kB).trans k2, Shared.asleep_of_life l2 hB⟩, good⟩
  · exact z.elim
/-! ### over the tree -/
open HandSHeadRun
section
variable (st : SharedT → Thread → Option (SharedT × Thread)) (n0 : Nat) (ann : Option Value) (b : Nat)
def segF : Nat → SharedT → Thread → Option (Flow × SharedT × Code × Pos)
  | 0, _, _ => none
  | m + 1, s, t => match endAt b t with
    | some f => some (f, s, t.code, t.pos)
    | none => match stepOk n0 ann t with
      | false => none
      | true => match st s t with
        | some (s', t') => frS s' fun s' => segF m s' t'
        | none => none
end
theorem segF_ok {tb : String → Option Builtin} {p : Program} {w : World} {n0 : Nat} {ann : Option Value} {b : Nat} {f : Flow} {s' : SharedT} {c' : Code} {p' : Pos} : ∀ {m : Nat} {s : SharedT} {t : Thread}, segF (stepT (denote tb) p w) n0 ann b m s t = some (f, s', c', p') →
    segRun tb p w n0 ann b m s.abs t = some (f, s'.abs, c', p')
  | 0, _, _, h => by cases h
  | m + 1, s, t, h => by
    unfold segF at h
    unfold segRun
    cases he : endAt b t with
    | some g =>
      rw [he] at h
      obtain ⟨rfl, rfl, rfl, rfl⟩ : g = f ∧ s = s' ∧ t.code = c' ∧ t.pos = p' := by simpa using h
      rfl
    | none =>
      rw [he] at h
      cases hk : stepOk n0 ann t with
      | false => rw [hk] at h; cases h
      | true =>
        rw [hk] at h
        cases hs : stepT (denote tb) p w s t with
        | none => rw [hs] at h; cases h
        | some r =>
          obtain ⟨s2, t2⟩ := r
          rw [hs] at h
          dsimp only at h
          rw [frS_eq] at h
          have q := segF_ok h
          rw [stepT_spec hs]
          exact q
end R1

/-! R4: the display of a module's table with tuple keys, in its scope. -/
namespace R1
open PySem PySem.W PySem.Calls PyProof.Rows H1
structure DX where
  x : Str
  y : Str
  k1 : Nat
  k2 : Nat
  kk : Nat
  p1 : Pos
  p2 : Pos
  kp : Pos
  ns : List (Str × Pos)
  vk : Nat
  vp : Pos
def DX.key (d : DX) : Expr := .Tuple [.Constant (.str d.x) d.k1 d.p1, .Constant (.str d.y) d.k2 d.p2] d.kk d.kp
def DX.val (d : DX) : Expr := .Tuple (d.ns.map fun n => .Name n.1 n.2) d.vk d.vp
def dictE (D : List DX) (pos : Pos) : Expr := .Dict (D.map fun d => some d.key) (D.map DX.val) pos
def DX.dat (m : Str → Option Value) (d : DX) : H1.Dat := ⟨d.x, d.y, d.ns.map fun n => (m n.1).getD .none⟩
def DX.trees (env : Env) (pos : Pos) (d : DX) : Sem Value × Sem Value := (eval d.key env, do let x ← eval d.val env; standAt pos; pure x)
/-- what such a display says -/
def nameOf : Expr → Option (Str × Pos)
  | .Name x p => some (x, p)
  | _ => none
def dxOf : Option Expr → Expr → Option DX
  | some (.Tuple [.Constant (.str x) k1 p1, .Constant (.str y) k2 p2] kk kp), .Tuple es vk vp => some ⟨x, y, k1, k2, kk, p1, p2, kp, es.filterMap nameOf, vk, vp⟩
  | _, _ => none
def dxAll (e : Expr) : List DX := match e with
  | .Dict ks vs _ => (ks.zip vs).filterMap fun p => dxOf p.1 p.2
  | _ => []
theorem zip_trees (env : Env) (pos : Pos) : ∀ D : List DX, (evalEachOpt (D.map fun d => some d.key) env).zip ((evalEach (D.map DX.val) env).map fun v => do let x ← v; standAt pos; pure x) = (D.map (DX.trees env pos)).map fun p => (some p.1, p.2)
  | [] => rfl
  | d :: D => congrArg (_ :: ·) (zip_trees env pos D)
section
variable {prog : Program} {w : World} {A : Around} {E : Value → Shared → Prop} {s : Shared} {env : Env} {m : Str → Option Value}
structure InMod (env : Env) : Prop where
  kind : env.scope.kind = .module
  loc : env.locals = mainNs
  glob : env.globals = mainNs
theorem ev_name {x : Str} {pos : Pos} {v : Value} {Q : Value → Shared → Prop} (I : InMod env) (hns : s.heap.Ns mainGlobals m) (hm : m x = some v) (hd : (x == ("__debug__" : Str)) = false) (q : Q v s) : wpAny (model prog w) A (eval (.Name x pos) env) Q E s := by
  refine wpAny_Name ?_ hd
  have e : loadName env x = loadGlobal env x := by
    unfold loadName
    simp [Env.blockKind, I.kind, ScopeKind.isAnnotationScope, I.loc, I.glob]
  rw [e]
  unfold loadGlobal
  have hn : s.heap.Ns env.globals m := by rw [I.glob]; exact hns
  refine wpAny_bind (wpAny_nsGet hn ?_)
  rw [hm]
  exact wpAny_pure q
def DX.ok (m : Str → Option Value) (d : DX) : Bool := d.ns.all (fun n => (m n.1).isSome && !(n.1 == ("__debug__" : Str))) && Nat.ble d.ns.length 100
theorem trees_of {d : DX} {pos : Pos} (I : InMod env) (ok : d.ok m = true) : Trees prog w A E (fun s => s.heap.Ns mainGlobals m) (d.trees env pos) (d.dat m) where
  key := fun s hs Q q => ev_key (k := d.kk) (pos := d.kp) q
  val := fun s hs Q q => by
    unfold DX.ok at ok
    simp only [Bool.and_eq_true, List.all_eq_true, Bool.not_eq_true', Option.isSome_iff_exists] at ok
    obtain ⟨ok, l⟩ := ok
    refine wpAny_bind (ev_names (vs := (d.dat m).vs) ?_ ?_ ?_ ?_ (wpAny_bind (wpAny_standAt (wpAny_pure q))))
    · show (d.ns.map _).length ≤ sizeLine
      rw [List.length_map]
      have := Nat.le_of_ble_eq_true l
      have big : 100 ≤ sizeLine := by decide
      omega
    · intro p hp Q q
      have hz : (d.ns.map fun n => Expr.Name n.1 n.2).zip (d.ns.map fun n => (m n.1).getD .none) = d.ns.map fun n => (Expr.Name n.1 n.2, (m n.1).getD .none) := by
        induction d.ns with
        | nil => rfl
        | cons a r ih => simp [ih]
      have hp' : p ∈ (d.ns.map fun n => Expr.Name n.1 n.2).zip (d.ns.map fun n => (m n.1).getD .none) := hp
      rw [hz] at hp'
      obtain ⟨n, hn, rfl⟩ := List.mem_map.mp hp'
      obtain ⟨⟨v, hv⟩, hd⟩ := ok n hn
      refine ev_name I hs hv hd ?_
      have q' : Q ((m n.1).getD .none) s := q
      rw [hv] at q'
      exact q'
    · show (d.ns.map _).length = (d.ns.map _).length
      rw [List.length_map, List.length_map]
    · intro e he rest
      obtain ⟨n, hn, rfl⟩ := List.mem_map.mp he
      rfl
theorem all_trees {pos : Pos} (I : InMod env) : ∀ D : List DX, D.all (DX.ok m) = true → AllT prog w A E (fun s => s.heap.Ns mainGlobals m) (D.map (DX.trees env pos)) (D.map (DX.dat m))
  | [], _ => .nil
  | d :: D, h => by
    rw [List.all_cons, Bool.and_eq_true] at h
    exact .cons (trees_of I h.1) (all_trees I D h.2)
theorem ns_push {h : Heap} {o : Obj} (x : h.Ns mainGlobals m) : (h.push o).Ns mainGlobals m := x.at fun _ e => Heap.get?_push_of_some _ e
theorem ns_grow {h : Heap} {d : Addr} {y : List Str × Addr × Value} (x : h.Ns mainGlobals m) (ne : mainGlobals ≠ d) : (grow (kd prog w) d h y).Ns mainGlobals m := x.sameBut grow_same ne
theorem keeps_mod {d : Addr} (ne : mainGlobals ≠ d) : Keeps prog w d (fun s => s.heap.Ns mainGlobals m) where
  key := fun t s hs => ns_push hs
  put := fun t s hs => ns_grow (ns_push (ns_push hs)) ne
theorem keepM_mod : KeepM (fun s => s.heap.Ns mainGlobals m) where
  key := fun t s hs => ns_push hs
  made := fun t s hs => ns_push (ns_push hs)
theorem fold_ns {d : Addr} (ne : mainGlobals ≠ d) : ∀ (ts : List H1.Dat) (s : Shared), s.heap.Ns mainGlobals m → (ts.foldl (fun z t => t.put prog w d z) s).heap.Ns mainGlobals m
  | [], _, h => h
  | t :: ts, s, h => fold_ns ne ts _ ((keeps_mod ne).put t s h)
theorem size_grow (h : Heap) (d : Addr) (y : List Str × Addr × Value) : (grow (kd prog w) d h y).objs.size = h.objs.size := by
  unfold grow Heap.update
  simp
theorem size_put (d : Addr) (t : H1.Dat) (s : Shared) : (t.put prog w d s).heap.objs.size = s.heap.objs.size + 2 := by
  show (grow (kd prog w) d (t.made s).heap (t.ent s)).objs.size = _
  rw [size_grow]
  show ((s.heap.push _).push _).objs.size = _
  rw [size_push, size_push]
theorem fold_size {d : Addr} : ∀ (ts : List H1.Dat) (s : Shared), (ts.foldl (fun z t => t.put prog w d z) s).heap.objs.size = s.heap.objs.size + 2 * ts.length
  | [], _ => rfl
  | t :: ts, s => by
    rw [List.foldl_cons, fold_size ts, size_put, List.length_cons]
    omega
theorem ev_table {D1 D2 : List DX} {pos : Pos} {Q : Value → Shared → Prop} (I : InMod env) (hu : A.units < cLine) (hns : s.heap.Ns mainGlobals m) (low : sysModules < s.heap.objs.size) (o1 : D1.all (DX.ok m) = true) (o2 : D2.all (DX.ok m) = true)
    (h1 : D1.length = 17) (h20 : D2 ≠ []) (h2 : D2.length ≤ 15) (hn : ((D1 ++ D2).map fun d => [d.x, d.y]).Nodup)
    (q : Q (.ref s.heap.objs.size) (shown prog w (D1.map (DX.dat m)) (D2.map (DX.dat m)) s)) : wpAny (model prog w) A (eval (dictE (D1 ++ D2) pos) env) Q E s := by
  unfold dictE
  rw [arm_eval_Dict, zip_trees, List.map_append]
  refine wpAny_bind (wpAny_standAt ?_)
  have ne : mainGlobals ≠ s.heap.objs.size := Nat.ne_of_lt hns.lt
  have nd : (dct s).heap.Ns mainGlobals m := ns_push hns
  have szd : (dct s).heap.objs.size = s.heap.objs.size + 1 := size_push _ _
  refine display_all (P := fun s => s.heap.Ns mainGlobals m) (t1 := D1.map (DX.dat m)) (t2 := D2.map (DX.dat m)) hu (keeps_mod ne) keepM_mod (fun s hs => ns_push hs) (Ne.symm (Nat.ne_of_lt low)) ?_ (by rw [List.length_map]; exact h1) (fun z => h20 (List.map_eq_nil_iff.mp z)) (by rw [List.length_map]; exact h2) (all_trees I D1 o1) (all_trees I D2 o2) hns (fold_ns ne _ _ nd) ?_ ?_ (fun z => ?_) q
  · refine beq_eq_false_iff_ne.mpr (Ne.symm (Nat.ne_of_lt ?_))
    rw [fold_size, szd]
    exact Nat.lt_of_lt_of_le low (by omega)
  · rw [← List.map_append, List.map_map]
    exact hn
  · rw [List.length_map, List.length_map]
    omega
  · rw [List.map_eq_nil_iff.mp z] at h1
    cases h1
end
end R1

/-! R5: what the display leaves, over the tree. -/
namespace R1
open PySem PySem.W PySem.Calls PyProof.Rows H1 HandSHeadRun
def tPush (s : SharedT) (o : Obj) : Option SharedT := match ((s.tree.ins s.n o).get s.n).isSome with
  | true => some { s with tree := s.tree.ins s.n o, n := s.n + 1 }
  | false => none
def tEnt (s : SharedT) (d : Addr) (e : DictEntry) : Option SharedT := match (s.tree.get d).isSome with
  | true => some { s with tree := s.tree.set d (Obj.mapDictKeys fun es => es.push e) }
  | false => none
theorem tPush_ok {s s' : SharedT} {o : Obj} (h : tPush s o = some s') : s'.abs = { s.abs with heap := s.abs.heap.push o } ∧ s'.n = s.n + 1 ∧ s'.toks = s.toks := by
  unfold tPush at h
  cases g : ((s.tree.ins s.n o).get s.n).isSome with
  | false => rw [g] at h; cases h
  | true =>
    rw [g] at h
    cases h
    refine ⟨?_, rfl, rfl⟩
    show (⟨absHeap (s.tree.ins s.n o) (s.n + 1) s.life, _, _, _, _⟩ : Shared) = _
    rw [absHeap_ins g]
    rfl
theorem tEnt_ok {s s' : SharedT} {d : Addr} {e : DictEntry} (h : tEnt s d e = some s') : s'.abs = { s.abs with heap := s.abs.heap.update d (Obj.mapDictKeys fun es => es.push e) } ∧ s'.n = s.n ∧ s'.toks = s.toks := by
  unfold tEnt at h
  cases g : (s.tree.get d).isSome with
  | false => rw [g] at h; cases h
  | true =>
    rw [g] at h
    cases h
    refine ⟨?_, rfl, rfl⟩
    obtain ⟨o, ho⟩ := Option.isSome_iff_exists.mp g
    show (⟨absHeap (s.tree.set d _) s.n s.life, _, _, _, _⟩ : Shared) = _
    rw [absHeap_set ho]
    rfl
theorem abs_size (s : SharedT) : s.abs.heap.objs.size = s.n := absHeap_size s.tree s.n s.life
theorem abs_toks (s : SharedT) : s.abs.toks = s.toks := rfl
def moreT (k : Nat) (s : SharedT) : SharedT := { s with toks := s.toks + k }
theorem moreT_abs (k : Nat) (s : SharedT) : (moreT k s).abs = { s.abs with toks := s.abs.toks + k } := rfl
def tMade (t : H1.Dat) (s : SharedT) : Option SharedT := match tPush s (tupO [.str t.x s.toks, .str t.y (s.toks + 1)]) with
  | some s1 => tPush (moreT 2 s1) (tupO t.vs)
  | none => none
theorem tMade_ok {t : H1.Dat} {s s' : SharedT} (h : tMade t s = some s') : s'.abs = t.made s.abs := by
  unfold tMade at h
  cases e : tPush s (tupO [.str t.x s.toks, .str t.y (s.toks + 1)]) with
  | none => rw [e] at h; cases h
  | some s1 =>
    rw [e] at h
    obtain ⟨a, _, _⟩ := tPush_ok e
    obtain ⟨b, _, _⟩ := tPush_ok h
    rw [b, moreT_abs, a]
    rfl
section
variable (hash : List Str → Int)
def entT (t : H1.Dat) (n : Nat) : DictEntry := ⟨hash [t.x, t.y], .ref n, .ref (n + 1)⟩
def tPut (d : Addr) (t : H1.Dat) (s : SharedT) : Option SharedT := match tMade t s with
  | some s1 => (match tEnt s1 d (entT hash t s.n) with
    | some s2 => some (moreT 3 s2)
    | none => none)
  | none => none
def tFold (d : Addr) : List H1.Dat → SharedT → Option SharedT
  | [], s => some s
  | t :: ts, s => match tPut hash d t s with
    | some s2 => frS s2 fun s2 => tFold d ts s2
    | none => none
def tAll : List H1.Dat → SharedT → Option (List DictEntry × SharedT)
  | [], s => some ([], s)
  | t :: ts, s => match tMade t s with
    | some s2 => frS s2 fun s2 => (match tAll ts s2 with
      | some (es, s3) => some (entT hash t s.n :: es, s3)
      | none => none)
    | none => none
def tEnts (d : Addr) : List DictEntry → SharedT → Option SharedT
  | [], s => some s
  | e :: es, s => match tEnt s d e with
    | some s2 => tEnts d es s2
    | none => none
def dictO : Obj := { cls := .type "dict", data := .dict #[] }
def tShown (t1 t2 : List H1.Dat) (s : SharedT) : Option SharedT := match tPush s dictO with
  | some s0 => (match tFold hash s.n t1 s0 with
    | some s1 => (match tPush s1 dictO with
      | some s1d => (match tAll hash t2 s1d with
        | some (es, s2) => (match tEnts s1.n es s2 with
          | some s3 => (match tEnts s.n es s3 with
            | some s4 => frS (moreT (3 * es.length) s4) fun s5 => some s5
            | none => none)
          | none => none)
        | none => none)
      | none => none)
    | none => none)
  | none => none
end
section
variable {prog : Program} {w : World}
theorem ent_eq (t : H1.Dat) (s : SharedT) : entT (kd prog w).hash t s.n = entryOfKey (kd prog w) (t.ent s.abs) := by
  show (⟨_, .ref s.n, .ref (s.n + 1)⟩ : DictEntry) = ⟨_, .ref s.abs.heap.objs.size, .ref (s.abs.heap.objs.size + 1)⟩
  rw [abs_size]
  rfl
theorem tPut_ok {d : Addr} {t : H1.Dat} {s s' : SharedT} (h : tPut (kd prog w).hash d t s = some s') : s'.abs = t.put prog w d s.abs := by
  unfold tPut at h
  cases e : tMade t s with
  | none => rw [e] at h; cases h
  | some s1 =>
    rw [e] at h
    dsimp only at h
    cases e2 : tEnt s1 d (entT (kd prog w).hash t s.n) with
    | none => rw [e2] at h; cases h
    | some s2 =>
      rw [e2] at h
      cases h
      have a := tMade_ok e
      obtain ⟨b, _, _⟩ := tEnt_ok e2
      rw [moreT_abs, b, a, ent_eq]
      rfl
theorem tFold_ok {d : Addr} : ∀ {ts : List H1.Dat} {s s' : SharedT}, tFold (kd prog w).hash d ts s = some s' → s'.abs = ts.foldl (fun z t => t.put prog w d z) s.abs
  | [], s, s', h => by cases h; rfl
  | t :: ts, s, s', h => by
    unfold tFold at h
    cases e : tPut (kd prog w).hash d t s with
    | none => rw [e] at h; cases h
    | some s2 =>
      rw [e] at h
      dsimp only at h
      rw [frS_eq] at h
      rw [List.foldl_cons, ← tPut_ok e]
      exact tFold_ok h
theorem tAll_ok : ∀ {ts : List H1.Dat} {s s' : SharedT} {es : List DictEntry}, tAll (kd prog w).hash ts s = some (es, s') → s'.abs = madeAll ts s.abs ∧ es = (entsOf ts s.abs).map (entryOfKey (kd prog w))
  | [], s, s', es, h => by cases h; exact ⟨rfl, rfl⟩
  | t :: ts, s, s', es, h => by
    unfold tAll at h
    cases e : tMade t s with
    | none => rw [e] at h; cases h
    | some s2 =>
      rw [e] at h
      dsimp only at h
      rw [frS_eq] at h
      cases e2 : tAll (kd prog w).hash ts s2 with
      | none => rw [e2] at h; cases h
      | some r =>
        obtain ⟨es2, s3⟩ := r
        rw [e2] at h
        cases h
        obtain ⟨a, b⟩ := tAll_ok e2
        have z := tMade_ok e
        refine ⟨?_, ?_⟩
        · rw [a, z]
          rfl
        · rw [b, z, ent_eq]
          rfl
theorem tEnts_ok {d : Addr} : ∀ {ys : List (List Str × Addr × Value)} {s s' : SharedT}, tEnts d (ys.map (entryOfKey (kd prog w))) s = some s' → s'.abs = { s.abs with heap := ys.foldl (grow (kd prog w) d) s.abs.heap }
  | [], s, s', h => by cases h; rfl
  | y :: ys, s, s', h => by
    have h1 : (match tEnt s d (entryOfKey (kd prog w) y) with
      | some s2 => tEnts d (ys.map (entryOfKey (kd prog w))) s2
      | none => none) = some s' := h
    cases e : tEnt s d (entryOfKey (kd prog w) y) with
    | none => rw [e] at h1; cases h1
    | some s2 =>
      rw [e] at h1
      obtain ⟨a, _, _⟩ := tEnt_ok e
      rw [tEnts_ok h1, a]
      rfl
theorem tShown_ok {t1 t2 : List H1.Dat} {s s' : SharedT} (h : tShown (kd prog w).hash t1 t2 s = some s') : s'.abs = shown prog w t1 t2 s.abs := by
  unfold tShown at h
  cases e0 : tPush s dictO with
  | none => rw [e0] at h; cases h
  | some s0 =>
    rw [e0] at h; dsimp only at h
    cases e1 : tFold (kd prog w).hash s.n t1 s0 with
    | none => rw [e1] at h; cases h
    | some s1 =>
      rw [e1] at h; dsimp only at h
      cases e2 : tPush s1 dictO with
      | none => rw [e2] at h; cases h
      | some s1d =>
        rw [e2] at h; dsimp only at h
        cases e3 : tAll (kd prog w).hash t2 s1d with
        | none => rw [e3] at h; cases h
        | some r =>
          obtain ⟨es, s2⟩ := r
          rw [e3] at h; dsimp only at h
          cases e4 : tEnts s1.n es s2 with
          | none => rw [e4] at h; cases h
          | some s3 =>
            rw [e4] at h; dsimp only at h
            cases e5 : tEnts s.n es s3 with
            | none => rw [e5] at h; cases h
            | some s4 =>
              rw [e5] at h; dsimp only at h
              rw [frS_eq] at h
              cases h
              obtain ⟨a0, _, _⟩ := tPush_ok e0
              have a1 := tFold_ok e1
              obtain ⟨a2, _, _⟩ := tPush_ok e2
              obtain ⟨a3, b3⟩ := tAll_ok e3
              subst b3
              have a4 := tEnts_ok e4
              have a5 := tEnts_ok e5
              have f0 : s0.abs = dct s.abs := a0
              have f2 : s1d.abs = dct s1.abs := a2
              have f1 : s1.abs = t1.foldl (fun z t => t.put prog w s.abs.heap.objs.size z) (dct s.abs) := by rw [a1, f0, abs_size]
              rw [moreT_abs, a5, a4, a3, f2, List.length_map]
              unfold H1.shown short
              dsimp only
              rw [← f1, abs_size, abs_size]
end
end R1

/-! R6: the whole top, reckoned over the tree; what it says of the real one. -/
namespace R1
open PySem PySem.W PySem.Calls PyProof.Rows H1 HandSHeadRun
/-! ### what the display leaves alone -/
section
variable {prog : Program} {w : World}
theorem grow_get {h : Heap} {d b : Addr} {o : Obj} {y : List Str × Addr × Value} (ne : b ≠ d) (e : h.get? b = some o) : (grow (kd prog w) d h y).get? b = some o := (Heap.get?_update_ne _ _ _ _ ne).trans e
theorem fold_grow_get {d b : Addr} {o : Obj} (ne : b ≠ d) : ∀ (ys : List (List Str × Addr × Value)) (h : Heap), h.get? b = some o → (ys.foldl (grow (kd prog w) d) h).get? b = some o
  | [], _, e => e
  | y :: ys, h, e => fold_grow_get ne ys _ (grow_get ne e)
theorem fold_put_get {d b : Addr} {o : Obj} (ne : b ≠ d) : ∀ (ts : List H1.Dat) (s : Shared), s.heap.get? b = some o → (ts.foldl (fun z t => t.put prog w d z) s).heap.get? b = some o
  | [], _, e => e
  | t :: ts, s, e => fold_put_get ne ts _ (grow_get (y := t.ent s) ne (made_get t s e))
theorem shown_get {t1 t2 : List H1.Dat} {s : Shared} {b : Addr} {o : Obj} (e : s.heap.get? b = some o) : (H1.shown prog w t1 t2 s).heap.get? b = some o := by
  have lt := Heap.lt_size e
  have ne : b ≠ s.heap.objs.size := Nat.ne_of_lt lt
  have e1 : (t1.foldl (fun z t => t.put prog w s.heap.objs.size z) (dct s)).heap.get? b = some o := fold_put_get ne t1 _ (Heap.get?_push_of_some _ e)
  have ne1 : b ≠ (t1.foldl (fun z t => t.put prog w s.heap.objs.size z) (dct s)).heap.objs.size := Nat.ne_of_lt (Heap.lt_size e1)
  exact fold_grow_get ne _ _ (fold_grow_get ne1 _ _ (madeAll_get t2 _ (Heap.get?_push_of_some _ e1)))
theorem fold_grow_life {d : Addr} : ∀ (ys : List (List Str × Addr × Value)) (h : Heap), (ys.foldl (grow (kd prog w) d) h).life = h.life
  | [], _ => rfl
  | y :: ys, h => (fold_grow_life ys _).trans rfl
theorem fold_put_life {d : Addr} : ∀ (ts : List H1.Dat) (s : Shared), (ts.foldl (fun z t => t.put prog w d z) s).heap.life = s.heap.life ∧ (ts.foldl (fun z t => t.put prog w d z) s).os = s.os
  | [], _ => ⟨rfl, rfl⟩
  | t :: ts, s => ⟨(fold_put_life ts _).1.trans rfl, (fold_put_life ts _).2.trans rfl⟩
theorem madeAll_life : ∀ (ts : List H1.Dat) (s : Shared), (madeAll ts s).heap.life = s.heap.life ∧ (madeAll ts s).os = s.os
  | [], _ => ⟨rfl, rfl⟩
  | t :: ts, s => ⟨(madeAll_life ts _).1.trans rfl, (madeAll_life ts _).2.trans rfl⟩
theorem shown_life {t1 t2 : List H1.Dat} {s : Shared} : (H1.shown prog w t1 t2 s).heap.life = s.heap.life ∧ (H1.shown prog w t1 t2 s).os = s.os := by
  obtain ⟨a, b⟩ := fold_put_life (prog := prog) (w := w) (d := s.heap.objs.size) t1 (dct s)
  obtain ⟨c, d⟩ := madeAll_life t2 (dct (t1.foldl (fun z t => t.put prog w s.heap.objs.size z) (dct s)))
  exact ⟨(fold_grow_life _ _).trans ((fold_grow_life _ _).trans (c.trans a)), d.trans b⟩
end
/-! ### the reckoning -/
section
variable (st : SharedT → Thread → Option (SharedT × Thread)) (n0 : Nat) (ann : Option Value) (M : Nat) (p : Program) (l : List Stmt)
structure Mid where
  s : SharedT
  code : Value
  fr : Addr
  c2 : Code
  p2 : Pos
  c : Code
  pos : Pos
def preM (s0 : SharedT) : Option Mid := match segF st n0 ann 0 M s0 (codeTh p) with
  | some (.ret code, s1, c1, p1) => (match segF st n0 ann 0 M s1 (frameTh code c1 p1) with
    | some (.ret (.ref fr), s2, c2, p2) => (match segF st n0 ann 1 M s2 (blockOf (behindTheImports p) (envT p code fr) (.body (behindTheImports p) (envT p code fr)) p2 (baseT c2 p2)) with
      | some (.next, s3, c3, p3) => (match segF st n0 ann 1 M s3 (piecesOf l (envT p code fr) c3 p3 (baseT c2 p2)) with
        | some (.next, s4, c4, p4) => some ⟨s4, code, fr, c2, p2, c4, p4⟩
        | _ => none)
      | _ => none)
    | _ => none)
  | _ => none
variable (x : Str) (xp : Pos) (rest : List Stmt) (D1 D2 : List DX)
def aroundT (m : Mid) : Around := { depth := frameCount (Ctx.of m.c (baseT m.c2 m.p2)).below + (Ctx.of m.c (baseT m.c2 m.p2)).code.weight, units := (Ctx.of m.c (baseT m.c2 m.p2)).units }
def mgT (s : SharedT) : Str → Option Value := s.abs.heap.nsMap mainGlobals
def midOk (m : Mid) : Bool := m.s.abs.heap.isNs mainGlobals && Nat.blt sysModules m.s.n && D1.all (DX.ok (mgT m.s)) && D2.all (DX.ok (mgT m.s)) && Nat.blt (aroundT m).units cLine
def sufM (hash : List Str → Int) (pp : Pos) (m : Mid) : Option SharedT := match midOk D1 D2 m with
  | true => (match tShown hash (D1.map (DX.dat (mgT m.s))) (D2.map (DX.dat (mgT m.s))) m.s with
    | some s5 => goF st n0 ann M s5 ⟨bindG (envT p m.code m.fr) x xp rest (.ref m.s.n), m.c, pp, baseT m.c2 m.p2⟩
    | none => none)
  | false => none
end
noncomputable def endM (st : SharedT → Thread → Option (SharedT × Thread)) (M : Nat) (p : Program) (l : List Stmt) (x : Str) (xp : Pos) (rest : List Stmt) (D1 D2 : List DX) (w : World) (pp : Pos) (os : OsState) : Option SharedT := match putAll (boot_heap w.params).objs.toList .nil 0 with
  | some (t, n) => frNat n fun n0 => (match preM st n0 (bootAnn w) M p l (bootT w os (t, n0)) with
    | some m => sufM st n0 (bootAnn w) M p x xp rest D1 D2 (kd p w).hash pp m
    | none => none)
  | none => none
theorem preM_ok {p : Program} {w : World} {n0 : Nat} {ann : Option Value} {M : Nat} {l rest : List Stmt} {s0 : SharedT} {m : Mid} (h : preM (stepT (denote table) p w) n0 ann M p l s0 = some m) (e : behindTheImports p = l ++ rest) :
    Way p w n0 ann s0.abs (topStub p) m.s.abs (restOf rest (envT p m.code m.fr) m.c m.pos (baseT m.c2 m.p2)) := by
  unfold preM at h
  split at h
  · rename_i code s1 c1 p1 e1
    split at h
    · rename_i fr s2 c2 p2 e2
      split at h
      · rename_i s3 c3 p3 e3
        split at h
        · rename_i s4 c4 p4 e4
          cases h
          exact top_way (segF_ok e1) (segF_ok e2) (segF_ok e3) (segF_ok e4) e
        · cases h
      · cases h
    · cases h
  · cases h
theorem endM_ok {p : Program} {w : World} {M : Nat} {l rest : List Stmt} {x : Str} {xp ap dp : Pos} {D1 D2 : List DX} {os : OsState} {Good : Shared → Prop} (e : behindTheImports p = l ++ .Assign [.Name x xp] (dictE (D1 ++ D2) dp) ap :: rest)
    (hs : ∀ env, swapsWith (dictE (D1 ++ D2) dp) (some (.Name x xp)) ap.line env = pure false) (hk : p.main.scope.kind = .module) (h1 : D1.length = 17) (h20 : D2 ≠ []) (h2 : D2.length ≤ 15) (hn : ((D1 ++ D2).map fun d => [d.x, d.y]).Nodup)
    (hr : (⟨boot_heap w.params, #[], boot_drawn, boot_toks, os⟩ : Shared).asleep)
    (h : ∀ pp, ∃ s1, endM (stepT (denote table) p w) M p l x xp rest D1 D2 w pp os = some s1 ∧ s1.abs.gens = #[] ∧ Good s1.abs) :
    ∃ s1, Ran p w (boot_heap w.params).objs.size (bootAnn w) ⟨boot_heap w.params, #[], boot_drawn, boot_toks, os⟩ s1 ∧ Good s1 := by
  cases eb : putAll (boot_heap w.params).objs.toList .nil 0 with
  | none =>
    obtain ⟨s1, z, _⟩ := h default
    unfold endM at z
    rw [eb] at z
    cases z
  | some r =>
    obtain ⟨t, n⟩ := r
    have eh := putAll_heap eb
    have en : (boot_heap w.params).objs.size = n := by
      rw [← eh]
      exact absHeap_size t n _
    have ea : (bootT w os (t, n)).abs = ⟨boot_heap w.params, #[], boot_drawn, boot_toks, os⟩ := by
      show (⟨absHeap t n (boot_heap w.params).life, #[], boot_drawn, boot_toks, os⟩ : Shared) = _
      rw [eh]
    have h' : ∀ pp, ∃ s1, (match preM (stepT (denote table) p w) n (bootAnn w) M p l (bootT w os (t, n)) with
        | some m => sufM (stepT (denote table) p w) n (bootAnn w) M p x xp rest D1 D2 (kd p w).hash pp m
        | none => none) = some s1 ∧ s1.abs.gens = #[] ∧ Good s1.abs := fun pp => by
      obtain ⟨s1, z, g⟩ := h pp
      unfold endM at z
      rw [eb] at z
      dsimp only at z
      rw [frNat_eq] at z
      exact ⟨s1, z, g⟩
    cases em : preM (stepT (denote table) p w) n (bootAnn w) M p l (bootT w os (t, n)) with
    | none =>
      obtain ⟨s1, z, _⟩ := h' default
      rw [em] at z
      cases z
    | some m =>
      rw [em] at h'
      dsimp only at h'
      have W := preM_ok em e
      rw [ea] at W
      rw [en]
      have ok : midOk D1 D2 m = true := by
        obtain ⟨s1, z, _⟩ := h' default
        unfold sufM at z
        cases q : midOk D1 D2 m with
        | true => rfl
        | false => rw [q] at z; cases z
      obtain ⟨s5, e5⟩ : ∃ s5, tShown (kd p w).hash (D1.map (DX.dat (mgT m.s))) (D2.map (DX.dat (mgT m.s))) m.s = some s5 := by
        obtain ⟨s1, z, _⟩ := h' default
        unfold sufM at z
        rw [ok] at z
        dsimp only at z
        cases q : tShown (kd p w).hash (D1.map (DX.dat (mgT m.s))) (D2.map (DX.dat (mgT m.s))) m.s with
        | none => rw [q] at z; cases z
        | some s5 => exact ⟨s5, rfl⟩
      have a5 := tShown_ok e5
      unfold midOk at ok
      simp only [Bool.and_eq_true] at ok
      obtain ⟨⟨⟨⟨k1, k2⟩, k3⟩, k4⟩, k5⟩ := ok
      have hA : (Ctx.of m.c (baseT m.c2 m.p2)).In (aroundT m) := ⟨rfl, Nat.le_refl _, (fun _ z => (by cases z)), (fun _ z => (by cases z)), Nat.le_refl _⟩
      refine whole (A := aroundT m) (sB := s5.abs) (v0 := .ref m.s.n) W (hs _) hA ?_ ?_ ?_ ?_ ?_ hr
      · refine ev_table (m := mgT m.s) ⟨hk, rfl, rfl⟩ (Nat.le_of_ble_eq_true k5) (.of_isNs k1) (by rw [abs_size]; exact Nat.le_of_ble_eq_true k2) k3 k4 h1 h20 h2 hn ⟨?_, a5.symm⟩
        rw [abs_size]
      · intro b o _ _ _ _ z
        rw [a5]
        exact shown_get z
      · rw [a5]; exact shown_life.1
      · rw [a5]; exact shown_life.2
      · intro pp
        obtain ⟨s1, z, g⟩ := h' pp
        unfold sufM at z
        rw [show midOk D1 D2 m = true by unfold midOk; simp only [Bool.and_eq_true]; exact ⟨⟨⟨⟨k1, k2⟩, k3⟩, k4⟩, k5⟩] at z
        dsimp only at z
        rw [e5] at z
        exact ⟨M, s1.abs, goF_ok z, g⟩
end R1

/-! R7: a row holds by a top that ran so, and by the walk of its def. -/
namespace R1
open PySem PySem.W PySem.Calls PyProof.Rows H1 HandSHeadRun
section
variable {r : OpenRow} {q : Program} {loose : List Str} {XP : (Str → Option Value) → Heap → Prop} {YP : World → Heap → Prop} {d : DefRec} {kwd : List (Str × Expr)}
/-- the state behind the top, and what is known of it -/
structure Behind (r : OpenRow) (q : Program) (loose : List Str) (XP : (Str → Option Value) → Heap → Prop) (YP : World → Heap → Prop) (w : World) (s0 s : Shared) : Prop where
  ran : TopRan r.prog w s0 s
  rest : s.asleep
  gens : s.gens = #[]
  main : s.heap.isNs mainGlobals = true
  grd : Ground q loose [] XP w s (s.heap.nsMap mainGlobals) (s.heap.nsMap builtinsNs) s.heap
  recs : RecFacts r.records s.heap
  says : YP w s.heap
abbrev Up (h h' : Heap) : Prop := ∀ b o, h.get? b = some o → h'.get? b = some o
/-- what is called: the row's name, looked up in the module -/
def callT (r : OpenRow) (vs : List Value) : Sem Fin := do
  match ← nsGet mainNs r.name with
  | some f => do ret (← PySem.call f vs)
  | none => unsupported "claim.caller:no-such-global"
theorem callT_any {w : World} {s : Shared} {mg : Str → Option Value} {f : Value} {vs : List Value} {Q : Fin → Shared → Prop} {E : Value → Shared → Prop} (hg : s.heap.Ns mainGlobals mg) (hf : mg r.name = some f)
    (h : wpAny (model r.prog w) callerA (PySem.call f vs) (fun v s' => Q (.done (.ret v)) s') E s) : wpAny (model r.prog w) callerA (callT r vs) Q E s := by
  unfold callT
  refine wpAny_bind (wpAny_nsGet hg ?_)
  rw [hf]
  exact wpAny_bind (wpAny_mono h (fun v s' z => wpAny_pure z) (fun e s' z => z))
theorem call_by {w : World} {s0 s : Shared} (B : Behind r q loose XP YP w s0 s) (hY : ∀ w h h', YP w h → Up h h' → YP w h') (hX : ∀ mg h h', XP mg h → Up h h' → XP mg h')
    (hdef : defOf q r.name = some (d, kwd)) (hwr : (!r.writes || r.records.isEmpty) = true) (ok : (frees r.toRowW && r.within.isEmpty) = true) (call : WalkO q loose XP YP r.toRowW d kwd fun f vs => PySem.call f vs)
    {free : Addr → Prop} {gn : Prop} :
    r.claim.CallFrom (fun vs => ⟨callT r vs, .builtin "claim.caller" {}, default, []⟩) w free gn (fun h' => r.writes = true → namesKept r.prog r.keeps s.heap h' ∧ ∀ x ∈ r.claim.records, ∀ a, classAt s.heap x.1 = some a → recordClass h' a x.1 (x.2.map (·.1)) = true) s := by
  obtain ⟨o1, o2⟩ := Bool.and_eq_true_iff.mp ok
  obtain ⟨same, hu, ha, hap, hm⟩ := frees_parts o1
  have G : Ground q loose r.records XP w s _ _ s.heap := B.recs.ground B.grd
  refine ClaimW.callFrom_of_specG (c := r.claim) B.rest B.gens ?_
  intro args pre lay ord perm
  obtain ⟨⟨vs, s1⟩, laid⟩ := Option.isSome_iff_exists.mp (layAllW_isSome (P := w.params) (ord := ord) G.has args r.args s (pre_splitW pre).1)
  have up : Up s.heap s1.heap := layAllW_keeps _ _ _ laid
  have rst := layAllW_rest _ _ _ laid
  have g1 : s1.gens = #[] := rst.1.trans B.gens
  obtain ⟨as, rd, new, old⟩ := reads_layAllW perm _ _ _ laid lay s1.heap (fun _ _ z => z)
  have L : Laid r.records w s s1 args vs as := ⟨⟨ord, perm, laid⟩, rd, new, old, up, g1, rst.2.2.1⟩
  have G1 := G.keeps hX up
  obtain ⟨a, o, pm, cd, doc, dV, kV, f1, f2, f3, f4, f5⟩ := G1.fn hdef
  have nm : d.name = r.name := defOf_name hdef
  have body := call w s s1 _ _ G1 (hY _ _ _ B.says up) a o pm cd doc dV kV f2 f3 f4 f5 (nm ▸ f1) L.gens args vs as pre lay L.reads L.well (L.low G.low)
  have hw0 : r.claim.within = [] := List.isEmpty_iff.mp o2
  have fin : ∀ (res : Result) (s' : Shared), GoodWG r.claim (classAt s.heap) (ExcName.means s.heap) args s1 res s' → r.claim.Ends s args vs s1 res s' ∧ s'.os = s.os ∧ AllBare s'.gens ∧
      (r.writes = true → namesKept r.prog r.keeps s.heap s'.heap ∧ ∀ x ∈ r.claim.records, ∀ a, classAt s.heap x.1 = some a → recordClass s'.heap a x.1 (x.2.map (·.1)) = true) := by
    intro res s' g
    have z := g.laid (c := r.claim) same hw0 (ident_freeW hu ha hap) L
    exact ⟨z.1, z.2.1, z.2.2, fun wr => ⟨namesKept_of B.ran B.main r.keeps up g.2.1.old, noTable hwr wr⟩⟩
  refine ⟨vs, s1, laid, callT_any G1.T.g f1 (wpAny_mono body (fun v s' g => ?_) (fun e s' g => ?_))⟩
  · exact ⟨_, rfl, fin _ _ g⟩
  · exact fin _ _ g
theorem holds_by (left : ∀ w, (∃ s, AfterRun (opening r.prog) w s) ∧ ∀ s, AfterRun (opening r.prog) w s → ∃ s0, fenceModules? r.prog s = some s0 ∧ s0.gens = #[] ∧ ∃ s1, Behind r q loose XP YP w s0 s1)
    (hY : ∀ w h h', YP w h → Up h h' → YP w h') (hX : ∀ mg h h', XP mg h → Up h h' → XP mg h') (hdef : defOf q r.name = some (d, kwd)) (hp : r.prog.theDef r.name = some (d.params, d.body, d.scope))
    (hk : kwWritten? d.params.kwonlyargs d.params.kw_defaults = some kwd) (hwr : (!r.writes || r.records.isEmpty) = true) (k1 : r.wellSaid = true) (ok : (opensWell r.prog && (frees r.toRowW && r.within.isEmpty)) = true) (hb : r.prog.bare) (hw : r.toRowW.promised)
    (call : WalkO q loose XP YP r.toRowW d kwd fun f vs => PySem.call f vs) : r.Holds := by
  obtain ⟨o1, o2⟩ := Bool.and_eq_true_iff.mp ok
  have hm := (frees_parts (Bool.and_eq_true_iff.mp o2).1).2.2.2.2
  refine ⟨k1, hw, ⟨hb, o1, ?_⟩, hw.witness, fun w => ⟨(left w).1, fun s hs => ?_⟩⟩
  · show r.makers.map _ = []
    rw [hm]
    rfl
  · obtain ⟨s0, h1, h2, s1, B⟩ := (left w).2 s hs
    refine ⟨s0, h1, h2, s1, B.ran, fun n hn => ?_, B.recs.1, B.recs.2.1, call_by B hY hX hdef hwr o2 call⟩
    have en : n = r.name := by
      split at hn <;> simp_all
    subst en
    exact pinned_of_view B.main B.grd hdef hp hk
end
end R1

/-! R8: the head of a law whose module has such a table. -/
namespace R1
open PySem PySem.W PySem.Calls PyProof.Rows H1 HandSHeadRun
/-- what is looked at behind the top -/
noncomputable def looksT (r : OpenRow) (q : Program) (loose : List Str) {α : Type} (ob : SharedT → α) (w : World) (s : SharedT) :=
  (looksF r.prog (boot_heap w.params) s.abs, seenQ q loose (importedModules r.prog.main.body) (fun s => xlAt q [] s && recOk r.records s) s.abs, ob s)
theorem behind_of {r : OpenRow} {q : Program} {loose : List Str} {H : Hook} {ob : SharedT → H.α} {w : World} {os : OsState} {s0 s1 : Shared} {st : SharedT} (est : st.abs = s1) (ho : ∀ s : SharedT, ob s = H.obs s.abs) (hch : chainsOk q = true)
    (e0 : s0 = ⟨boot_heap w.params, #[], boot_drawn, boot_toks, os⟩) (R : Ran r.prog w (boot_heap w.params).objs.size (bootAnn w) ⟨boot_heap w.params, #[], boot_drawn, boot_toks, os⟩ s1)
    (L : looksT r q loose ob w st = (true, openGood q loose, H.val w)) : Behind r q loose (XL q []) H.says w s0 s1 := by
  subst est
  unfold looksT at L
  obtain ⟨l1, l2, l3⟩ : _ ∧ _ ∧ _ := by simpa only [Prod.mk.injEq] using L
  rw [← seenQ_eq] at l2
  unfold looksF at l1
  simp only [Bool.and_eq_true] at l1
  obtain ⟨⟨⟨m1, m2⟩, m3⟩, m4⟩ := l1
  have hX : ∀ s : Shared, (xlAt q [] s && recOk r.records s) = true → XL q [] (s.heap.nsMap mainGlobals) s.heap ∧ RecFacts r.records s.heap := fun s z => ⟨xl_of s (Bool.and_eq_true_iff.mp z).1, recFacts_of (Bool.and_eq_true_iff.mp z).2⟩
  obtain ⟨G, g0, g1, g2, g3, g4, g5⟩ := ground_of_open (w := w) (XP := fun mg h => XL q [] mg h ∧ RecFacts r.records h) hX hch l2
  have G0 : Ground q loose [] (XL q []) w st.abs (st.abs.heap.nsMap mainGlobals) (st.abs.heap.nsMap builtinsNs) st.abs.heap := ⟨G.T, G.B, G.D, G.TE, G.TD, G.W, G.X.1, G.cls, G.has, G.apart, G.once, G.K⟩
  have gg : st.abs.gens = #[] := Array.eq_empty_of_size_eq_zero (beq_iff_eq.mp g0)
  subst e0
  refine ⟨⟨R.run, R.life, Shared.rest_eq R.os, fun b o hb own => ?_, g2, statics_of_ok m1, g3, g4, g5, gens_of_done m3, names_of_bound m2, laid_of_kept m4⟩, R.asleep, gg, g1, G0, G.X.2, H.of w _ ((ho _).symm.trans l3)⟩
  refine R.kept b o (Heap.lt_size hb) (fun z => own (.inl z)) (fun z => own (.inr (.inl z))) (fun z => own (.inr (.inr ?_))) hb
  exact (Pin.globalOf_eq (boot_ns _) _).trans z
theorem endQ2_eq (M : Nat) (p : Program) (l : List Stmt) (x : Str) (xp : Pos) (rest : List Stmt) (D1 D2 : List DX) (w : World) (pp : Pos) (os : OsState) :
    endM (stepT (denote table) p w) M p l x xp rest D1 D2 w pp os = endM (stepQ (denQ tabQ) p w) M p l x xp rest D1 D2 w pp os := by
  rw [table_eq_tree, stepQ_eq, denQ_eq, tabQ_eq]
theorem head_tab {r : OpenRow} {q : Program} {H : Hook} {ob : SharedT → H.α} {M : Nat} {loose : List Str} {d : DefRec} {kwd : List (Str × Expr)} {l rest : List Stmt} {x : Str} {xp ap dp : Pos} {D1 D2 : List DX} (ho : ∀ s : SharedT, ob s = H.obs s.abs)
    (e : opening r.prog = plainProg r.prog.main.scope.names) (f : ∀ s, fenceModules? r.prog s = some s)
    (eb : behindTheImports r.prog = l ++ .Assign [.Name x xp] (dictE (D1 ++ D2) dp) ap :: rest) (hs : ∀ env, swapsWith (dictE (D1 ++ D2) dp) (some (.Name x xp)) ap.line env = pure false) (hkm : r.prog.main.scope.kind = .module)
    (h1 : D1.length = 17) (h20 : D2 ≠ []) (h2 : D2.length ≤ 15) (hn : ((D1 ++ D2).map fun d => [d.x, d.y]).Nodup)
    (run : ∀ (w : World) (pp : Pos) (os : OsState), (endM (stepQ (denQ tabQ) r.prog w) M r.prog l x xp rest D1 D2 w pp os).map (looksT r q loose ob w) = some (true, openGood q loose, H.val w))
    (hdef : defOf q r.name = some (d, kwd)) (hp : r.prog.theDef r.name = some (d.params, d.body, d.scope)) (hk : kwWritten? d.params.kwonlyargs d.params.kw_defaults = some kwd)
    (hwr : (!r.writes || r.records.isEmpty) = true) (k1 : r.wellSaid = true) (hch : chainsOk q = true) (ok : (opensWell r.prog && (frees r.toRowW && r.within.isEmpty)) = true) (hb : r.prog.bare) (hw : r.toRowW.promised)
    (call : WalkO q loose (XL q []) H.says r.toRowW d kwd fun f vs => PySem.call f vs) : r.Holds := by
  refine holds_by (q := q) (loose := loose) (XP := XL q []) (YP := H.says) (fun w => ?_) H.keeps XL.keeps hdef hp hk hwr k1 ok hb hw call
  obtain ⟨⟨h, gs, dr, k, os⟩, a, a'⟩ := Option.map_eq_some_iff.mp (boot_open (N := 600) e (by rfl) f w)
  obtain ⟨rfl, rfl, rfl, rfl⟩ : h = boot_heap w.params ∧ gs = Array.mk [] ∧ dr = boot_drawn ∧ k = boot_toks := by simpa using a'
  rw [← table_eq_tree] at a
  obtain ⟨s, h4, h5⟩ := Option.bind_eq_some_iff.mp a
  have A := AfterImport.of_importEnds h4
  refine ⟨⟨s, A⟩, fun s' hs' => ?_⟩
  obtain rfl : s' = s := AfterImport.unique hs' A
  have z : (⟨boot_heap w.params, Array.mk [], boot_drawn, boot_toks, os⟩ : Shared).asleep := Shared.asleep_of_life (fence_lifeW h5) A.life
  obtain ⟨s1, R, st, est, L⟩ := endM_ok (p := r.prog) (w := w) (M := M) (os := os) (Good := fun s1 => ∃ st : SharedT, st.abs = s1 ∧ looksT r q loose ob w st = (true, openGood q loose, H.val w)) eb hs hkm h1 h20 h2 hn z (fun pp => by
    obtain ⟨st, e1, e2⟩ := Option.map_eq_some_iff.mp (run w pp os)
    refine ⟨st, (endQ2_eq ..).trans e1, ?_, st, rfl, e2⟩
    have l2 : seenQ q loose (importedModules r.prog.main.body) (fun s => xlAt q [] s && recOk r.records s) st.abs = openGood q loose := congrArg (fun x => x.2.1) e2
    rw [← seenQ_eq] at l2
    obtain ⟨_, g0, _⟩ := ground_of_open (w := w) (XP := fun mg h => XL q [] mg h) (fun s z => xl_of s (Bool.and_eq_true_iff.mp z).1) hch l2
    exact Array.eq_empty_of_size_eq_zero (beq_iff_eq.mp g0))
  exact ⟨_, h5, rfl, s1, behind_of est ho hch rfl R L⟩
end R1

/-! R9: the table's statement, taken out of the text by its place. -/
namespace R1
open PySem PySem.W PySem.Calls PyProof.Rows H1 HandSHeadRun
def stAt (p : Program) (i : Nat) : Stmt := (behindTheImports p)[i]?.getD (.Pass default)
def valOf : Stmt → Expr
  | .Assign _ v _ => v
  | _ => .Name "" default
def tgtOf : Stmt → Str
  | .Assign [.Name x _] _ _ => x
  | _ => ""
def tgpOf : Stmt → Pos
  | .Assign [.Name _ p] _ _ => p
  | _ => default
def apOf : Stmt → Pos
  | .Assign _ _ p => p
  | _ => default
def dpOf : Expr → Pos
  | .Dict _ _ p => p
  | _ => default
abbrev ahead (p : Program) (i : Nat) : List Stmt := (behindTheImports p).take i
abbrev behind (p : Program) (i : Nat) : List Stmt := (behindTheImports p).drop (i + 1)
abbrev dOne (p : Program) (i : Nat) : List DX := (dxAll (valOf (stAt p i))).take 17
abbrev dTwo (p : Program) (i : Nat) : List DX := (dxAll (valOf (stAt p i))).drop 17
noncomputable abbrev endI (i M : Nat) (p : Program) (w : World) (pp : Pos) (os : OsState) : Option SharedT :=
  endM (stepQ (denQ tabQ) p w) M p (ahead p i) (tgtOf (stAt p i)) (tgpOf (stAt p i)) (behind p i) (dOne p i) (dTwo p i) w pp os
def readsRight (p : Program) (i : Nat) : Prop := behindTheImports p = ahead p i ++ .Assign [.Name (tgtOf (stAt p i)) (tgpOf (stAt p i))] (dictE (dOne p i ++ dTwo p i) (dpOf (valOf (stAt p i)))) (apOf (stAt p i)) :: behind p i
def twoKeys (p : Program) (i : Nat) : Bool := Nat.beq (dOne p i).length 17 && Nat.ble 1 (dTwo p i).length && Nat.ble (dTwo p i).length 15
end R1

/-! R10: what is known of the heap (K), with the table beside it. -/
namespace R1
open PySem PySem.W PySem.Calls PyProof.Rows H1 HandSHeadRun
def addK (K X : Params → Frag) : Params → Frag := fun P => K P ++ X P
def wOf (P : Params) : World := ⟨fun _ _ => 0, P⟩
def tabEnts : List DX → Nat → List (List L2.Key × Addr × Value)
  | [], _ => []
  | d :: ds, a => ([.inr d.x, .inr d.y], a, .ref (a + 1)) :: tabEnts ds (a + 2)
def tabXs (p : Program) (i : Nat) (aF : Nat) : List (List L2.Key × Addr × Value) := tabEnts (dOne p i) (aF + 1) ++ tabEnts (dTwo p i) (aF + 36)
def tabObj (p : Program) (i : Nat) (aF : Nat) (P : Params) : Obj := { cls := .type "dict", data := .dict ((tabXs p i aF).map (entryOfKey (tupleKind (L2.mixKind p (wOf P))))).toArray (tabXs p i aF).length }
def tabK (p : Program) (i : Nat) (aF : Nat) : Params → Frag := fun P => [(aF, tabObj p i aF P)]
noncomputable def obK (as : List Addr) (s : SharedT) : List (Option Obj) := as.map (getT s)
theorem obK_eq (as : List Addr) (s : SharedT) : obK as s = as.map s.abs.heap.get? := by
  unfold obK
  exact List.map_congr_left fun a _ => getT_eq s a
theorem lookup_app {K X : Params → Frag} {P : Params} {a : Addr} {o : Obj} (h : (K P).lookup a = some o) : (addK K X P).lookup a = some o := by
  show (K P ++ X P).lookup a = some o
  generalize K P = l at h ⊢
  induction l with
  | nil => cases h
  | cons p r ih =>
    rw [List.cons_append]
    simp only [List.lookup] at h ⊢
    split at h
    · exact h
    · exact ih h
theorem nsIn_app {K X : Params → Frag} {P : Params} {ns : Addr} {x : Str} {v : Option Value} (h : nsIn (K P) ns x = some v) : nsIn (addK K X P) ns x = some v := by
  unfold nsIn at h ⊢
  cases e : (K P).lookup ns with
  | none => rw [e] at h; cases h
  | some o =>
    rw [lookup_app e]
    rw [e] at h
    exact h
end R1

/-! R11: the table as the law's readings know it. -/
namespace R1
open PySem PySem.W PyProof.Rows
def keysOk (K : Frag) (xs : List (List L2.Key × Addr × Value)) : Bool := xs.all fun x => match x.1, K.lookup x.2.1 with
  | [.inr a, .inr b], some ⟨.type "tuple", _, .seq its _, _⟩ => (match its.toList with
    | [.str a2 _, .str b2 _] => decide (a = a2) && decide (b = b2)
    | _ => false)
  | _, _ => false
def valR : Value → L2.V
  | .ref a => .ref a
  | _ => .non
def refsOk (xs : List (List L2.Key × Addr × Value)) : Bool := xs.all fun x => match x.2.2 with
  | .ref _ => true
  | _ => false
def tabKvs (p : Program) (i aF : Nat) : List (List L2.Key × L2.V) := (tabXs p i aF).map fun x => (x.1, valR x.2.2)
theorem lookup_snd {K X : Params → Frag} {P : Params} {a : Addr} {o : Obj} (h : (K P).lookup a = none) (h2 : (X P).lookup a = some o) : (addK K X P).lookup a = some o := by
  show (K P ++ X P).lookup a = some o
  generalize K P = l at h ⊢
  induction l with
  | nil => exact h2
  | cons p r ih =>
    rw [List.cons_append]
    simp only [List.lookup] at h ⊢
    split at h
    · cases h
    · exact ih h
theorem paired_map (xs : List (List L2.Key × Addr × Value)) (h : refsOk xs = true) : Paired (fun p q => p.1 = q.1 ∧ L2.RelV p.2 q.2.2) (xs.map fun x => (x.1, valR x.2.2)) xs := by
  induction xs with
  | nil => exact .nil
  | cons x r ih =>
    have h : ((match x.2.2 with | .ref _ => true | _ => false) && refsOk r) = true := h
    rw [Bool.and_eq_true] at h
    refine .cons ⟨rfl, ?_⟩ (ih h.2)
    have h1 := h.1
    split at h1
    · rename_i a e
      show L2.RelV (valR x.2.2) x.2.2
      rw [e]
      exact rfl
    · cases h1
theorem tab_at {K0 : Params → Frag} {p : Program} {i aF : Nat} {w : World} (n0 : (K0 w.params).lookup aF = none) (hs : ((aF : Addr) == sysModules) = false) (ks : keysOk (K0 w.params) (tabXs p i aF) = true) (rs : refsOk (tabXs p i aF) = true)
    (nd : ((tabXs p i aF).map (·.1)).Nodup) : Z.Tab (addK K0 (tabK p i aF) w.params) p w aF (tabKvs p i aF) := by
  have hl : (addK K0 (tabK p i aF) w.params).lookup aF = some (tabObj p i aF w.params) := lookup_snd n0 (by
    show List.lookup aF [(aF, tabObj p i aF w.params)] = _
    simp)
  refine ⟨_, _, tabXs p i aF, hl, hs, ?_, fun x hx => ?_, nd, paired_map _ rs⟩
  · show ((tabXs p i aF).map (entryOfKey (tupleKind (L2.mixKind p (wOf w.params))))) = (tabXs p i aF).map (entryOfKey (tupleKind (L2.mixKind p w)))
    refine List.map_congr_left fun x hx => ?_
    have e : (tupleKind (L2.mixKind p (wOf w.params))).hash x.1 = (tupleKind (L2.mixKind p w)).hash x.1 := by
      show reduceHash (Builtin.Tuple.tupleHashOf (x.1.map _)) = reduceHash (Builtin.Tuple.tupleHashOf (x.1.map _))
      congr 2
    unfold entryOfKey
    rw [e]
  · have h := List.all_eq_true.mp ks x hx
    obtain ⟨k, a, v⟩ := x
    dsimp only at h
    split at h
    · rename_i a1 b1 dd its n sl e
      dsimp only at *
      split at h
      · rename_i a2 t b2 u ei
        rw [Bool.and_eq_true, decide_eq_true_eq, decide_eq_true_eq] at h
        refine ⟨_, its, n, lookup_app e, rfl, rfl, ?_⟩
        rw [ei, h.1, h.2]
        exact .cons (L2.keyIs_str _ t) (.cons (L2.keyIs_str _ u) .nil)
      · cases h
    · cases h
theorem codeIn_app {K X : Params → Frag} {P : Params} {cd : Value} {q : Str} (h : codeIn (K P) cd q = true) : codeIn (addK K X P) cd q = true := by
  unfold codeIn at h ⊢
  split at h
  · rename_i c
    cases e : (K P).lookup c with
    | none => rw [e] at h; cases h
    | some o =>
      show (match (addK K X P).lookup c with | some ⟨_, _, .fields vs, _⟩ => (match vs.toList with | _ :: .str n _ :: _ => n == q | _ => false) | _ => false) = true
      rw [lookup_app e]
      rw [e] at h
      exact h
  · cases h
theorem keepIn_app {K X : Params → Frag} {P : Params} {f : Addr} (h : fnIn (K P) f = true) : keepIn (addK K X P) (.ref f) = true := by
  unfold fnIn at h
  split at h
  · rename_i e
    show (match (addK K X P).lookup f with | some ⟨_, _, .func _, _⟩ => true | some ⟨_, _, .cls _, _⟩ => specialIn (addK K X P) (.ref f) "__call__" == some (some (.builtin "type.__call__")) | _ => false) = true
    rw [lookup_app e]
  · cases h
theorem tab_eq {K0 : Params → Frag} {p q : Program} {i aF : Nat} {w : World} {kvs : List (List L2.Key × L2.V)} (e : tabKvs p i aF = kvs) (hp : p = q) (n0 : (K0 w.params).lookup aF = none) (hs : ((aF : Addr) == sysModules) = false) (ks : keysOk (K0 w.params) (tabXs p i aF) = true) (rs : refsOk (tabXs p i aF) = true)
    (nd : ((tabXs p i aF).map (·.1)).Nodup) : Z.Tab (addK K0 (tabK p i aF) w.params) q w aF kvs := by
  subst e
  subst hp
  exact tab_at n0 hs ks rs nd
end R1

namespace L04_
open PySem PySem.Spec PyProof.Rows L2 Z
open SX M9
open SX M9 M3 M4
def top (i : Nat) : Stmt := PySem.Challenge.pw_inorderonce_k04_commands.main.body.getD i (.Pass ⟨0, 0, 0, 0⟩)
structure Txt (K : PySem.W.Frag) (mg : Str → Option Value) : Prop where
  n_int : mg "int" = none
  n_abs : mg "abs" = none
  n_len : mg "len" = none
  n_sum : mg "sum" = none
  n_range : mg "range" = none
  n_tuple : mg "tuple" = none
  n_isinstance : mg "isinstance" = none
  n_bool : mg "bool" = none
  n_str : mg "str" = none
  n_dict : mg "dict" = none
  n_list : mg "list" = none
  n_all : mg "all" = none
  n_enumerate : mg "enumerate" = none
  n_repr : mg "repr" = none
  n_max : mg "max" = none
  n_min : mg "min" = none
  c_MOST_NAME : ∃ u, mg "MOST_NAME" = some u ∧ RelV (.int (8)) u
  c_MOST_NUMBER_letters : ∃ u, mg "MOST_NUMBER_letters" = some u ∧ RelV (.int (999999999999)) u
  c_MOST_PLAIN : ∃ u, mg "MOST_PLAIN" = some u ∧ RelV (.int (60)) u
  c_MOST_BODY : ∃ u, mg "MOST_BODY" = some u ∧ RelV (.int (40)) u
  c_MOST_TICKS : ∃ u, mg "MOST_TICKS" = some u ∧ RelV (.int (50)) u
  c_MOST_PRIORITY : ∃ u, mg "MOST_PRIORITY" = some u ∧ RelV (.int (3)) u
  c_MOST_ITEMS_letters : ∃ u, mg "MOST_ITEMS_letters" = some u ∧ RelV (.int (4)) u
  c_MOST_TRIES : ∃ u, mg "MOST_TRIES" = some u ∧ RelV (.int (4)) u
theorem bt_int : bootBuiltins "int" = some (.type "int") := by decide +kernel
theorem bt_abs : bootBuiltins "abs" = some (.builtin "abs") := by decide +kernel
theorem bt_len : bootBuiltins "len" = some (.builtin "len") := by decide +kernel
theorem bt_sum : bootBuiltins "sum" = some (.builtin "sum") := by decide +kernel
theorem bt_tuple : bootBuiltins "tuple" = some (.type "tuple") := by decide +kernel
theorem bt_isinstance : bootBuiltins "isinstance" = some (.builtin "isinstance") := by decide +kernel
theorem bt_bool : bootBuiltins "bool" = some (.type "bool") := by decide +kernel
theorem bt_str : bootBuiltins "str" = some (.type "str") := by decide +kernel
theorem bt_dict : bootBuiltins "dict" = some (.type "dict") := by decide +kernel
theorem bt_list : bootBuiltins "list" = some (.type "list") := by decide +kernel
theorem bt_all : bootBuiltins "all" = some (.builtin "all") := by decide +kernel
theorem bt_repr : bootBuiltins "repr" = some (.builtin "repr") := by decide +kernel
theorem bt_max : bootBuiltins "max" = some (.builtin "max") := by decide +kernel
theorem bt_min : bootBuiltins "min" = some (.builtin "min") := by decide +kernel


local macro_rules | `(tactic| walk_at "hp") => `(tactic| first | assumption | (refine Nw.keep (by assumption) ?_; walk_at "hp") | (refine But.at (by assumption) (by assumption) ?_; walk_at "hp") | (refine Wr.keep (by assumption) (by assumption) ?_; walk_at "hp"))
/-! ### promises -/
/-- a box of digits and draws, with at most n draws so far -/
def BoxAt (n : Nat) (H : Hp) (b : Addr) : Prop := ∃ (g : Int) (f : Bool) (s c : Int), H b = some (.lst [.int g, .bl f, .int s, .int c]) ∧ 0 ≤ g ∧ 0 ≤ s ∧ s < 2147483648 ∧ 0 ≤ c ∧ c ≤ n
theorem BoxAt.mono {n m : Nat} {H : Hp} {b : Addr} (h : BoxAt n H b) (e : n ≤ m) : BoxAt m H b := by
  obtain ⟨g, f, s, c, h1, h2, h3, h4, h5, h6⟩ := h
  exact ⟨g, f, s, c, h1, h2, h3, h4, h5, by omega⟩
theorem BoxAt.same {n : Nat} {H H2 : Hp} {b : Addr} (h : BoxAt n H b) (e : Same H H2) : BoxAt n H2 b := by
  obtain ⟨g, f, s, c, h1, h2⟩ := h
  exact ⟨g, f, s, c, e _ _ h1, h2⟩
theorem BoxAt.some {n : Nat} {H : Hp} {b : Addr} (h : BoxAt n H b) : ∃ o, H b = Option.some o := by
  obtain ⟨g, f, s, c, h1, h2⟩ := h
  exact ⟨_, h1⟩
theorem BoxAt.ne {n : Nat} {H : Hp} {b p : Addr} (h : BoxAt n H b) (e : H p = none) : b ≠ p := by
  obtain ⟨o, h⟩ := h.some
  exact ne_of_none h e
theorem BoxAt.wr {n : Nat} {H H2 : Hp} {b l : Addr} {o : HO} (h : BoxAt n H b) (e : b ≠ l) (w : Wr H l o H2) : BoxAt n H2 b := by
  obtain ⟨g, f, s, c, h1, h2⟩ := h
  exact ⟨g, f, s, c, w.keep e h1, h2⟩
theorem BoxAt.but {n : Nat} {H H2 : Hp} {b l : Addr} (h : BoxAt n H b) (e : b ≠ l) (w : But l H H2) : BoxAt n H2 b := by
  obtain ⟨g, f, s, c, h1, h2⟩ := h
  exact ⟨g, f, s, c, w.at e h1, h2⟩
def TX (n : Nat) (l : List Nat) : Prop := Pr l ∧ l.length ≤ n
def sp__law_box (K : PySem.W.Frag) : Sp := sp1 fun great H Q _ => ∃ g, great = .int g ∧ ∀ b H2, H b = none → Same H H2 → BoxAt 0 H2 b → Q (.ref b) H2
def sp__law_cell (K : PySem.W.Frag) : Sp := sp2 fun script k H Q _ => ∃ (a : Addr) (i : Int) (ns : List Int), script = .ref a ∧ k = .int i ∧ 0 ≤ i ∧ i < 1000 ∧ SqL K H a (ns.map V.int) ∧ ns.length ≤ 63 ∧ ∀ z H2, Same H H2 → Q (.int z) H2
def sp__law_take (K : PySem.W.Frag) : Sp := sp2 fun box many H Q _ => ∃ (b : Addr) (m : Int) (n : Nat), box = .ref b ∧ many = .int m ∧ 0 < m ∧ m < 1000000 ∧ BoxAt n H b ∧ n < 1000000 ∧ ∀ r H2, But b H H2 → BoxAt (n + 1) H2 b → 0 ≤ r → r < m → Q (.int r) H2
theorem lit_nil : ("" : Str) = S [] := by decide +kernel
theorem joinSz (ls : List (List Nat)) (h : ls.flatten.length ≤ 10000000) : ((ls.map S).map (·.length)).sum + (ls.map S).length * ("" : Str).length ≤ 16777216 := by
  rw [lit_nil, length_S, lens, ← List.length_flatten]
  show _ + _ * 0 ≤ _
  omega
theorem nself (x : V) : (true ^^ decide (x = x)) = false := by rw [decide_eq_true rfl]; rfl
theorem eself (x : V) : (false ^^ decide (x = x)) = true := by rw [decide_eq_true rfl]; rfl
theorem menuS (ts : List Str) {n : Nat} (ok : (ts.all fun t => (t.cps.toList.all fun c => decide (32 ≤ c) && decide (c ≤ 126)) && decide (t.cps.toList.length ≤ n)) = true) {r : Int} (h0 : 0 ≤ r) (h : r < (ts.length : Int)) :
    ∃ l, atI (ts.map V.str) r = some (.str (S l)) ∧ TX n l := by
  obtain ⟨v, h1, h2, _⟩ := atI_some (xs := ts.map V.str) h0 (by rw [List.length_map]; exact h)
  obtain ⟨t, ht, rfl⟩ := List.mem_map.mp h2
  have q := (List.all_eq_true.mp ok) t ht
  rw [Bool.and_eq_true] at q
  refine ⟨t.cps.toList, ?_, pr_of q.1, of_decide_eq_true q.2⟩
  rw [S_tl]
  exact h1
/-- the signs of the alphabets -/
theorem near_item {t : Str} (h : (t.cps.toList.all fun c => decide (32 ≤ c) && decide (c ≤ 126)) = true) {r : Int} (h0 : 0 ≤ r) (h1 : r < (t.length : Int)) : ∃ c : Nat, atI t.cps.toList r = some c ∧ 32 ≤ c ∧ c ≤ 126 := by
  obtain ⟨c, e1, e2, _⟩ := atI_some (xs := t.cps.toList) h0 (by simpa [Str.length] using h1)
  have := (List.all_eq_true.mp h) c e2
  exact ⟨c, e1, by simpa using this⟩
theorem log_small {n : Nat} (h : n < 10000000) : ((n : Nat) : Int).natAbs.log2 < 1920 := by
  rw [Int.natAbs_natCast]
  rcases Nat.eq_zero_or_pos n with e | e
  · subst e; decide
  · have q : 2 ^ n.log2 ≤ n := Nat.log2_self_le (by omega)
    have h2 : n < 2 ^ 24 := by omega
    have : n.log2 < 24 := (Nat.pow_lt_pow_iff_right (by decide : 1 < 2)).mp (Nat.lt_of_le_of_lt q h2)
    omega
def Vd (H : Hp) (v : V) (d : PyData) : Prop := ∃ g, Dz g H v d
theorem Vd.kind {K : PySem.W.Frag} {H : Hp} {v : V} {d : PyData} (h : Vd H v d) : KindV K H v (kindD d) := by
  obtain ⟨g, h⟩ := h
  exact Dz.kind h
theorem Vd.int {H : Hp} {v : V} {i : Int} (h : Vd H v (.int i)) : v = .int i := by
  obtain ⟨g, h⟩ := h
  cases h
  rfl
theorem Vd.str {H : Hp} {v : V} {x : Str} (h : Vd H v (.str x)) : v = .str x := by
  obtain ⟨g, h⟩ := h
  cases h
  rfl
theorem Vd.same {H H2 : Hp} {v : V} {d : PyData} (h : Vd H v d) (s : Same H H2) : Vd H2 v d := by
  obtain ⟨g, h⟩ := h
  exact ⟨g, Dz.same s h⟩
theorem within_ch {k i j : Int} {P : V → Prop} (q : P (.bl (within (.int k) i j))) : if decide (i ≤ k) = true then P (.bl (decide (k ≤ j))) else P (.bl false) := by
  have q : P (.bl (decide (i ≤ k) && decide (k ≤ j))) := q
  cases e : decide (i ≤ k) with
  | false =>
    rw [e] at q
    exact iteN rfl q
  | true =>
    rw [e] at q
    exact iteY rfl q
def sp_is_integer (K : PySem.W.Frag) : Sp := sp1 fun v H Q _ => ∃ d, Vd H v d ∧ Q (.bl (intD d)) H
def sp_is_within (K : PySem.W.Frag) : Sp := sp3 fun v a b H Q _ => ∃ d i j, Vd H v d ∧ a = .int i ∧ b = .int j ∧ Q (.bl (within d i j)) H
def sp__law_within (K : PySem.W.Frag) : Sp := sp3 fun v a b H Q _ => ∃ d i j, Vd H v d ∧ a = .int i ∧ b = .int j ∧ Q (.bl (within d i j)) H
def sp_is_signs (K : PySem.W.Frag) : Sp := sp1 fun v H Q _ => ∃ d, Vd H v d ∧ asc1 d = true ∧ Q (.bl (signsD d)) H
def sp_is_plain (K : PySem.W.Frag) : Sp := sp1 fun v H Q _ => ∃ d, Vd H v d ∧ asc1 d = true ∧ Q (.bl (plainD 60 d)) H
def sp_is_body (K : PySem.W.Frag) : Sp := sp1 fun v H Q _ => ∃ d, Vd H v d ∧ asc1 d = true ∧ Q (.bl (plainD 40 d)) H
def sp_is_name (K : PySem.W.Frag) : Sp := sp1 fun v H Q _ => ∃ d, Vd H v d ∧ asc1 d = true ∧ Q (.bl (nameD d)) H
def sp_is_number (K : PySem.W.Frag) : Sp := sp1 fun v H Q _ => ∃ d, Vd H v d ∧ Q (.bl (within d 1 999999999999)) H
def sp_is_token (K : PySem.W.Frag) : Sp := sp1 fun v H Q _ => ∃ d, Vd H v d ∧ Q (.bl (tokenD d)) H
def sp_is_item (K : PySem.W.Frag) : Sp := sp1 fun v H Q _ => ∃ d, Vd H v d ∧ asc d = true ∧ Q (.bl (itemD d)) H
def sp__law_is_name (K : PySem.W.Frag) : Sp := sp1 fun v H Q _ => ∃ d, Vd H v d ∧ asc1 d = true ∧ ∀ H2, Same H H2 → Q (.bl (nameD d)) H2
def sp__law_is_body (K : PySem.W.Frag) : Sp := sp1 fun v H Q _ => ∃ d, Vd H v d ∧ asc1 d = true ∧ ∀ H2, Same H H2 → Q (.bl (plainD 40 d)) H2
def sp__law_is_token (K : PySem.W.Frag) : Sp := sp1 fun v H Q _ => ∃ d, Vd H v d ∧ Q (.bl (tokenD d)) H
def sp__law_is_item (K : PySem.W.Frag) : Sp := sp1 fun v H Q _ => ∃ d, Vd H v d ∧ asc d = true ∧ ∀ H2, Same H H2 → Q (.bl (itemD d)) H2
def sp__law_told (K : PySem.W.Frag) : Sp := sp2 fun v u H Q _ => ∃ a b : Bool, v = .bl a ∧ u = .bl b ∧ Q (.bl (a == b)) H
theorem token_len {ds : List PyData} (h : ds.length ≠ 2) : tokenD (.tuple ds) = false := by
  match ds, h with
  | [], _ => rfl
  | [_], _ => rfl
  | [_, _], h => exact absurd rfl h
  | _ :: _ :: _ :: _, _ => rfl
theorem item_len {ds : List PyData} (h : ds.length ≠ 6) : itemD (.tuple ds) = false := by
  match ds, h with
  | [], _ => rfl
  | [_], _ => rfl
  | [_, _], _ => rfl
  | [_, _, _], _ => rfl
  | [_, _, _, _], _ => rfl
  | [_, _, _, _, _], _ => rfl
  | [_, _, _, _, _, _], h => exact absurd rfl h
  | _ :: _ :: _ :: _ :: _ :: _ :: _ :: _, _ => rfl
theorem int_ne {n : Nat} {k : Nat} {b : Bool} (h : n ≠ k) : (b ^^ decide (V.int (n : Nat) = V.int (k : Nat))) = b := by
  rw [decide_eq_false fun e => h (by have := V.int.inj e; omega)]
  cases b <;> rfl
theorem two_of {α : Type} {xs : List α} (h : xs.length = 2) : ∃ a b, xs = [a, b] := by
  match xs, h with
  | [a, b], _ => exact ⟨a, b, rfl⟩
theorem six_of {α : Type} {xs : List α} (h : xs.length = 6) : ∃ a b c d e f, xs = [a, b, c, d, e, f] := by
  match xs, h with
  | [a, b, c, d, e, f], _ => exact ⟨a, b, c, d, e, f, rfl⟩
/-- a name; the parts of an item -/
def NM (l : List Nat) : Prop := 1 ≤ l.length ∧ l.length ≤ 8 ∧ ∀ c ∈ l, 97 ≤ c ∧ c ≤ 122
theorem low_item {r : Int} (h0 : 0 ≤ r) (h1 : r < 26) : ∃ c : Nat, atI ("abcdefghijklmnopqrstuvwxyz" : Str).cps.toList r = some c ∧ 97 ≤ c ∧ c ≤ 122 := by
  obtain ⟨c, e1, e2, _⟩ := atI_some (xs := ("abcdefghijklmnopqrstuvwxyz" : Str).cps.toList) h0 (by rw [letters_list]; exact h1)
  have : low c = true := by rw [← low_in]; exact decide_eq_true e2
  unfold low at this
  exact ⟨c, e1, by simpa using this⟩
def ItemAt (H : Hp) (p : Addr) : Prop := ∃ (k m t : List Nat) (i x y : Int), H p = some (.tup [.str (S k), .str (S m), .str (S t), .int i, .int x, .int y]) ∧ NM k ∧ NM m ∧ TX 40 t ∧ 0 ≤ i ∧ i ≤ 3 ∧ 0 ≤ x ∧ x ≤ 50 ∧ 0 ≤ y ∧ y ≤ 50
def sp__law_name (K : PySem.W.Frag) : Sp := sp1 fun box H Q _ => ∃ (b : Addr) (n : Nat), box = .ref b ∧ BoxAt n H b ∧ n < 800000 ∧ ∀ l H2, But b H H2 → BoxAt (n + 20) H2 b → NM l → Q (.str (S l)) H2
def sp__law_text (K : PySem.W.Frag) : Sp := sp2 fun box most H Q _ => ∃ (b : Addr) (n : Nat), box = .ref b ∧ most = .int 40 ∧ BoxAt n H b ∧ n < 800000 ∧ ∀ l H2, But b H H2 → BoxAt (n + 50) H2 b → TX 40 l → Q (.str (S l)) H2
def sp__law_item (K : PySem.W.Frag) : Sp := sp1 fun box H Q _ => ∃ (b : Addr) (n : Nat), box = .ref b ∧ BoxAt n H b ∧ n < 700000 ∧ ∀ p H2, H p = none → But b H H2 → BoxAt (n + 100) H2 b → ItemAt H2 p → Q (.ref p) H2
theorem BoxAt.neq {n : Nat} {H : Hp} {b p : Addr} {o : HO} (h : BoxAt n H b) (e : H p = Option.some o) (ne : ∀ g f s c, o ≠ .lst [.int g, .bl f, .int s, .int c]) : p ≠ b := fun z => by
  obtain ⟨g, f, s, c, hb, _⟩ := h
  rw [← z, e] at hb
  exact ne g f s c (Option.some.inj hb)
def itemDs (k m t : List Nat) (i x y : Int) : List PyData := [.str (S k), .str (S m), .str (S t), .int i, .int x, .int y]
theorem name_S {l : List Nat} (h : NM l) : nameD (.str (S l)) = true := by
  show (decide (1 ≤ (S l).length) && decide ((S l).length ≤ 8) && lowS (S l)) = true
  have e : lowS (S l) = true := by
    unfold lowS
    rw [cps_S, List.all_eq_true]
    intro c hc
    simpa using h.2.2 c hc
  rw [e, length_S, decide_eq_true h.1, decide_eq_true h.2.1]
  rfl
theorem within_i {i a b : Int} (h : a ≤ i ∧ i ≤ b) : within (.int i) a b = true := by
  show (decide (a ≤ i) && decide (i ≤ b)) = true
  rw [decide_eq_true h.1, decide_eq_true h.2]
  rfl
theorem item_ok {k m t : List Nat} {i x y : Int} (nk : NM k) (nm : NM m) (tt : TX 40 t) (i0 : 0 ≤ i) (i1 : i ≤ 3) (x0 : 0 ≤ x) (x1 : x ≤ 50) (y0 : 0 ≤ y) (y1 : y ≤ 50) : itemD (.tuple (itemDs k m t i x y)) = true := by
  show (nameD (.str (S k)) && nameD (.str (S m)) && plainD 40 (.str (S t)) && within (.int i) 0 3 && within (.int x) 0 50 && within (.int y) 0 50) = true
  have e : plainD 40 (.str (S t)) = true := by
    show (prS (S t) && decide ((S t).length ≤ 40)) = true
    have : prS (S t) = true := by
      unfold prS
      rw [cps_S, List.all_eq_true]
      intro c hc
      simpa using tt.1 c hc
    rw [this, length_S, decide_eq_true tt.2]
    rfl
  rw [name_S nk, name_S nm, e, within_i ⟨i0, i1⟩, within_i ⟨x0, x1⟩, within_i ⟨y0, y1⟩]
  rfl
def sp_law (K : PySem.W.Frag) : Sp := sp1 fun v H Q _ => ∃ (a : Addr) (ns : List Int), v = .ref a ∧ SqL K H a (ns.map V.int) ∧ ns.length ≤ 63 ∧ ∀ H2, Q (.bl true) H2

/-- the promise of a judge of parts -/
def spP (k : PK) : Sp := sp1 fun v H Q _ => ∃ d, Vd H v d ∧ ascA d = true ∧ ∀ H2, Same H H2 → Q (.bl (pkD k d)) H2
structure FormsF (P : Program) (w : World) (K : PySem.W.Frag) (mg : Str → Option Value) (base : Heap) (k : Nat) (dF : Addr) (kvs : List (List Key × V)) : Prop where
  at_ : mg "FORMS" = some (.ref dF)
  tab : Tab K P w dF kvs
  rows : ∀ y : Str, (formC y = none ∧ valV kvs [.inr "commands", .inr y] = none) ∨ ∃ a fs ks, formC y = some ks ∧ valV kvs [.inr "commands", .inr y] = some (.ref a) ∧ KT K a fs ∧ Paired (fun f pk => Held P w K mg base k f (spP pk)) fs ks
theorem vInt {i j : Int} (h : (false ^^ decide (V.int i = V.int j)) = true) : i = j := by
  rw [Bool.false_xor] at h
  exact V.int.inj (of_decide_eq_true h)
theorem vIntN {i j : Int} (h : ¬ (false ^^ decide (V.int i = V.int j)) = true) : i ≠ j := fun z => h (by rw [z, decide_eq_true rfl]; rfl)
theorem at0 (v : V) (vs : List V) : atI (v :: vs) 0 = some v := atI_nat (j := 0) rfl
theorem paired_len {α β : Type} {F : α → β → Prop} {l1 : List α} {l2 : List β} (h : Paired F l1 l2) : l1.length = l2.length := by
  induction h with
  | nil => rfl
  | cons _ _ ih => rw [List.length_cons, List.length_cons, ih]
theorem paired_at {α β : Type} {F : α → β → Prop} {l1 : List α} {l2 : List β} (h : Paired F l1 l2) : ∀ {i : Nat} {a : α}, l1[i]? = some a → ∃ b, l2[i]? = some b ∧ F a b := by
  induction h with
  | nil => intro i a e; simp at e
  | cons h1 _ ih =>
    intro i a e
    cases i with
    | zero => cases e; exact ⟨_, rfl, h1⟩
    | succ i => exact ih (i := i) (by simpa using e)
theorem form_ne {y : Str} {ks : List PK} (h : formC y = some ks) : 1 ≤ ks.length ∧ ks.length ≤ 4 := by
  unfold formC at h
  split at h
  · cases h; decide
  split at h
  · cases h; decide
  split at h
  · cases h; decide
  split at h
  · cases h; decide
  split at h
  · cases h; decide
  split at h
  · cases h; decide
  · cases h
theorem vNe {i j : Int} (h : (true ^^ decide (V.int i = V.int j)) = true) : i ≠ j := fun z => by rw [z, decide_eq_true rfl] at h; cases h
theorem vNeN {i j : Int} (h : ¬ (true ^^ decide (V.int i = V.int j)) = true) : i = j := by
  by_cases z : i = j
  · exact z
  · exact absurd (by rw [decide_eq_false (fun e => z (V.int.inj e))]; rfl) h
theorem all2_len : ∀ {ks : List PK} {ds : List PyData}, ks.length ≠ ds.length → all2 ks ds = false
  | [], [], h => absurd rfl h
  | [], _ :: _, _ => rfl
  | _ :: _, [], _ => rfl
  | k :: ks, d :: ds, h => by
    show (pkD k d && all2 ks ds) = false
    rw [all2_len (fun z => h (by rw [List.length_cons, List.length_cons, z])), Bool.and_false]
theorem drop_at {α : Type} {l : List α} {i : Nat} {a : α} (h : l[i]? = some a) : l.drop i = a :: l.drop (i + 1) := by
  obtain ⟨hi, e⟩ := List.getElem?_eq_some_iff.mp h
  rw [List.drop_eq_getElem_cons hi, e]
theorem ascAll_tail {d : PyData} {ds : List PyData} (h : ascA (.tuple (d :: ds)) = true) : ascAll ds = true := by
  have h : (ascA d && ascAll ds) = true := h
  rw [Bool.and_eq_true] at h
  exact h.2
theorem sNe {i j : Str} (h : (true ^^ decide (V.str i = V.str j)) = true) : i ≠ j := fun z => by rw [z, decide_eq_true rfl] at h; cases h
theorem sNeN {i j : Str} (h : ¬ (true ^^ decide (V.str i = V.str j)) = true) : i = j := by
  by_cases z : i = j
  · exact z
  · exact absurd (by rw [decide_eq_false (fun e => z (V.str.inj e))]; rfl) h
theorem fits_of {d : PyData} (h : fitsD d = true) : ∃ w ds ks, d = .tuple (.str w :: ds) ∧ formC w = some ks ∧ all2 ks ds = true := by
  cases d with
  | tuple ds =>
    cases ds with
    | nil => cases h
    | cons d0 ds =>
      cases d0 with
      | str w =>
        have h : (match formC w with | some ks => all2 ks ds | none => false) = true := h
        cases e : formC w with
        | none => rw [e] at h; cases h
        | some ks => rw [e] at h; exact ⟨w, ds, ks, rfl, e, h⟩
      | _ => cases h
  | _ => cases h
theorem apartD_ne {w : Str} {ds : List PyData} (h : w ≠ "group") : apartD (.tuple (.str w :: ds)) = true := by
  unfold apartD
  split
  · rename_i w' x b c e
    have e := PyData.tuple.inj e
    have e : w = w' := PyData.str.inj (List.cons.inj e).1
    subst e
    rw [decide_eq_true h]
    rfl
  · rfl
theorem all2_three {k1 k2 k3 : PK} {ds : List PyData} (h : all2 [k1, k2, k3] ds = true) : ∃ a b c, ds = [a, b, c] ∧ pkD k1 a = true ∧ pkD k2 b = true ∧ pkD k3 c = true := by
  match ds, h with
  | [a, b, c], h =>
    have h : (pkD k1 a && (pkD k2 b && (pkD k3 c && true))) = true := h
    simp only [Bool.and_eq_true] at h
    exact ⟨a, b, c, rfl, h.1, h.2.1, h.2.2.1⟩
  | [], h => cases h
  | [a], h =>
    have h : (pkD k1 a && false) = true := h
    rw [Bool.and_false] at h
    cases h
  | [a, b], h =>
    have h : (pkD k1 a && (pkD k2 b && false)) = true := h
    rw [Bool.and_false, Bool.and_false] at h
    cases h
  | a :: b :: c :: d :: r, h =>
    have h : (pkD k1 a && (pkD k2 b && (pkD k3 c && false))) = true := h
    rw [Bool.and_false, Bool.and_false, Bool.and_false] at h
    cases h
theorem name_str {d : PyData} (h : nameD d = true) : ∃ x, d = .str x := by
  cases d with
  | str x => exact ⟨x, rfl⟩
  | _ => cases h
theorem dead_str {d : PyData} (h : deadD d = true) : d = .none ∨ ∃ x, d = .str x := by
  cases d with
  | none => exact .inl rfl
  | str x => exact .inr ⟨x, rfl⟩
  | _ => cases h
theorem zTr_bl {K : PySem.W.Frag} {b : Bool} {H : Hp} {Q : Bool → Hp → Prop} (h : Q b H) : zTr K (.bl b) H Q := h
def sp_is_flag (K : PySem.W.Frag) : Sp := sp1 fun v H Q _ => ∃ d, Vd H v d ∧ Q (.bl (boolD d)) H
def sp_is_dead_topic (K : PySem.W.Frag) : Sp := sp1 fun v H Q _ => ∃ d, Vd H v d ∧ asc1 d = true ∧ Q (.bl (deadD d)) H
def sp_is_try (K : PySem.W.Frag) : Sp := sp1 fun v H Q _ => ∃ d, Vd H v d ∧ Q (.bl (within d 0 4)) H
def sp_is_index (K : PySem.W.Frag) : Sp := sp1 fun v H Q _ => ∃ d, Vd H v d ∧ Q (.bl (within d 0 999999999999)) H
def sp_are_made (K : PySem.W.Frag) : Sp := sp1 fun v H Q _ => ∃ d, Vd H v d ∧ ascA d = true ∧ ∀ H2, Same H H2 → Q (.bl (madeD d)) H2
def sp_are_sent (K : PySem.W.Frag) : Sp := sp1 fun v H Q _ => ∃ d, Vd H v d ∧ ascA d = true ∧ ∀ H2, Same H H2 → Q (.bl (sentD d)) H2
def sp_fits (K : PySem.W.Frag) : Sp := sp2 fun g v H Q _ => ∃ d, g = .str "commands" ∧ Vd H v d ∧ ascA d = true ∧ ∀ H2, Same H H2 → Q (.bl (fitsD d)) H2
def sp_is_command (K : PySem.W.Frag) : Sp := sp1 fun v H Q _ => ∃ d, Vd H v d ∧ ascA d = true ∧ ∀ H2, Same H H2 → Q (.bl (cmdD d)) H2
def sp__law_are_items (K : PySem.W.Frag) : Sp := sp2 fun v l H Q _ => ∃ d, Vd H v d ∧ ascA d = true ∧ ((l = .int 0 ∧ ∀ H2, Same H H2 → Q (.bl (madeD d)) H2) ∨ (l = .int 1 ∧ ∀ H2, Same H H2 → Q (.bl (sentD d)) H2))
def sp__law_is_command (K : PySem.W.Frag) : Sp := sp1 fun v H Q _ => ∃ d, Vd H v d ∧ ascA d = true ∧ ∀ H2, Same H H2 → Q (.bl (cmdD d)) H2
theorem HP_is_name (K : PySem.W.Frag) : ∀ vs H Q E, spP .name vs H Q E → sp_is_name K vs H Q E
  | [_], H, Q, E, ⟨d, h, a, q⟩ => ⟨d, h, asc_one a, q H (Same.refl H)⟩
theorem HP_is_flag (K : PySem.W.Frag) : ∀ vs H Q E, spP .flag vs H Q E → sp_is_flag K vs H Q E
  | [_], H, Q, E, ⟨d, h, a, q⟩ => ⟨d, h, q H (Same.refl H)⟩
theorem HP_is_dead_topic (K : PySem.W.Frag) : ∀ vs H Q E, spP .dead vs H Q E → sp_is_dead_topic K vs H Q E
  | [_], H, Q, E, ⟨d, h, a, q⟩ => ⟨d, h, asc_one a, q H (Same.refl H)⟩
theorem HP_is_number (K : PySem.W.Frag) : ∀ vs H Q E, spP .number vs H Q E → sp_is_number K vs H Q E
  | [_], H, Q, E, ⟨d, h, a, q⟩ => ⟨d, h, q H (Same.refl H)⟩
theorem HP_is_token (K : PySem.W.Frag) : ∀ vs H Q E, spP .token vs H Q E → sp_is_token K vs H Q E
  | [_], H, Q, E, ⟨d, h, a, q⟩ => ⟨d, h, q H (Same.refl H)⟩
theorem HP_is_try (K : PySem.W.Frag) : ∀ vs H Q E, spP .try_ vs H Q E → sp_is_try K vs H Q E
  | [_], H, Q, E, ⟨d, h, a, q⟩ => ⟨d, h, q H (Same.refl H)⟩
theorem HP_is_index (K : PySem.W.Frag) : ∀ vs H Q E, spP .index vs H Q E → sp_is_index K vs H Q E
  | [_], H, Q, E, ⟨d, h, a, q⟩ => ⟨d, h, q H (Same.refl H)⟩
theorem HP_are_made (K : PySem.W.Frag) : ∀ vs H Q E, spP .made vs H Q E → sp_are_made K vs H Q E
  | [_], H, Q, E, ⟨d, h, a, q⟩ => ⟨d, h, a, q⟩
theorem HP_are_sent (K : PySem.W.Frag) : ∀ vs H Q E, spP .sent vs H Q E → sp_are_sent K vs H Q E
  | [_], H, Q, E, ⟨d, h, a, q⟩ => ⟨d, h, a, q⟩
theorem made_sent {d : PyData} (e : madeD d = false) : sentD d = false := by
  cases d with
  | tuple ds =>
    have e : (decide (ds.length ≤ 4) && ds.all itemD) = false := e
    show (decide (1 ≤ ds.length) && (decide (ds.length ≤ 4) && ds.all itemD)) = false
    rw [e, Bool.and_false]
  | _ => rfl
theorem made_of {d : PyData} (e : madeD d = true) : ∃ ds, d = .tuple ds ∧ ds.length ≤ 4 ∧ ds.all itemD = true := by
  cases d with
  | tuple ds =>
    have e : (decide (ds.length ≤ 4) && ds.all itemD) = true := e
    rw [Bool.and_eq_true, decide_eq_true_eq] at e
    exact ⟨ds, rfl, e.1, e.2⟩
  | _ => cases e
theorem sent_of {ds : List PyData} (l : ds.length ≤ 4) (a : ds.all itemD = true) : sentD (.tuple ds) = decide (1 ≤ ds.length) := by
  show (decide (1 ≤ ds.length) && (decide (ds.length ≤ 4) && ds.all itemD)) = _
  rw [a, decide_eq_true l, Bool.and_true, Bool.and_true]
theorem dz_at {g : Bool} {H : Hp} : ∀ {xs : List V} {ds : List PyData} {i : Nat} {v : V}, DzAll g H xs ds → xs[i]? = some v → ∃ d, ds[i]? = some d ∧ Dz g H v d
  | _, _, i, _, .nil, e => by simp at e
  | _, _, 0, _, .cons h t, e => by cases e; exact ⟨_, rfl, h⟩
  | _, _, i + 1, _, .cons h t, e => dz_at (i := i) t (by simpa using e)
theorem BoxAt.mv {n : Nat} {H H2 : Hp} {b : Addr} (h : BoxAt n H b) (t : But b H H2) : Mv H H2 := by
  obtain ⟨g, f, s, c, hb, _⟩ := h
  exact Mv.but hb t
theorem gd_nm {H : Hp} {l : List Nat} (h : NM l) : Gd H 0 2000 (.str (S l)) (.str (S l)) := gd_str (fun c hc => by have := h.2.2 c hc; omega) (by have := h.2.1; omega)
theorem item_el {H : Hp} {p : Addr} (h : ItemAt H p) : ∃ ds, El H (.ref p) (.tuple ds) ∧ itemD (.tuple ds) = true ∧ ∃ xs, H p = some (.tup xs) ∧ GAll H 0 2000 xs ds ∧ xs.length = 6 := by
  obtain ⟨k, m, t, i, x, y, h, nk, nm, tt, i0, i1, x0, x1, y0, y1⟩ := h
  have a : GAll H 0 2000 [.str (S k), .str (S m), .str (S t), .int i, .int x, .int y] (itemDs k m t i x y) :=
    .cons (gd_nm nk) (.cons (gd_nm nm) (.cons (gd_str tt.1 (by have := tt.2; omega)) (.cons (gd_int (by omega)) (.cons (gd_int (by omega)) (.cons (gd_int (by omega)) .nil)))))
  exact ⟨_, .inr ⟨p, _, _, rfl, rfl, h, a, rfl, rfl⟩, item_ok nk nm tt i0 i1 x0 x1 y0 y1, _, h, a, rfl⟩
def sp__law_number (K : PySem.W.Frag) : Sp := sp1 fun box H Q _ => ∃ (b : Addr) (n : Nat), box = .ref b ∧ BoxAt n H b ∧ n < 800000 ∧ ∀ i H2, But b H H2 → BoxAt (n + 2) H2 b → 1 ≤ i → i ≤ 999999999999 → Q (.int i) H2
def sp__law_token (K : PySem.W.Frag) : Sp := sp1 fun box H Q _ => ∃ (b : Addr) (n : Nat), box = .ref b ∧ BoxAt n H b ∧ n < 700000 ∧ ∀ p i j H2, H p = none → But b H H2 → BoxAt (n + 4) H2 b → H2 p = some (.tup [.int i, .int j]) → 1 ≤ i → i ≤ 999999999999 → 1 ≤ j → j ≤ 999999999999 → Q (.ref p) H2
def sp__law_items (K : PySem.W.Frag) : Sp := sp2 fun box l H Q _ => ∃ (b : Addr) (n : Nat) (m : Int), box = .ref b ∧ l = .int m ∧ 0 ≤ m ∧ m ≤ 1 ∧ BoxAt n H b ∧ n < 600000 ∧ ∀ p xs ds H2, H p = none → But b H H2 → BoxAt (n + 500) H2 b → H2 p = some (.tup xs) → Paired (El H2) xs ds → m ≤ (xs.length : Int) → xs.length ≤ 4 → ds.all itemD = true → Q (.ref p) H2
def sp__law_command (K : PySem.W.Frag) : Sp := sp2 fun box way H Q _ => ∃ (b : Addr) (n : Nat) (i : Int), box = .ref b ∧ way = .int i ∧ 0 ≤ i ∧ i < 6 ∧ BoxAt n H b ∧ n < 500000 ∧ ∀ p xs ds H2, H p = none → But b H H2 → BoxAt (n + 600) H2 b → Cmd H2 p xs ds → cmdD (.tuple ds) = true → ((i = 1 ∨ i = 2 ∨ i = 4 → xs.length = 4) ∧ (i = 3 → xs.length = 5)) → Q (.ref p) H2
def okAll (d : PyData) : Bool := ascA d && oddOk d && nob d
theorem gd_dec {H : Hp} {v : V} {d : PyData} (h : Dz true H v d) (ok : okAll d = true) : Gd H 3 2000 v d := by
  unfold okAll at ok
  simp only [Bool.and_eq_true] at ok
  exact gd_odd h ok.1.2 ok.1.1 ok.2
theorem gd_lit {H : Hp} {x : Str} (ok : okAll (.str x) = true) : Gd H 0 2000 (.str x) (.str x) := by
  have g := gd_dec (.str x) ok (H := H)
  exact ⟨.str x, g.asc, g.sh, Nat.le_refl 0, g.len, rfl⟩
theorem atI_neg1 {α : Type} {xs : List α} {v : α} (h : xs[xs.length - 1]? = some v) : atI xs (-1) = some v := by
  have hl : xs.length ≠ 0 := fun z => by
    have := List.length_eq_zero_iff.mp z
    subst this
    cases h
  unfold atI ixN
  rw [if_neg (by decide), if_pos (by omega), show (-1 + ((xs.length : Nat) : Int)).toNat = xs.length - 1 by omega]
  exact h
def sp__law_odd (K : PySem.W.Frag) : Sp := sp1 fun box H Q _ => ∃ (b : Addr) (n : Nat), box = .ref b ∧ BoxAt n H b ∧ n < 800000 ∧ ∀ v d H2, But b H H2 → BoxAt (n + 1) H2 b → Gd H2 3 2000 v d → Q v H2
def sp__law_spoiled (K : PySem.W.Frag) : Sp := sp2 fun box v H Q _ => ∃ (b : Addr) (n : Nat) (p : Addr) (k B : Nat) (xs : List V) (ds : List PyData), box = .ref b ∧ v = .ref p ∧ BoxAt n H b ∧ n < 700000 ∧ H p = some (.tup xs) ∧ GAll H k B xs ds ∧ 3 ≤ k ∧ 2000 ≤ B ∧ 1 ≤ xs.length ∧ xs.length ≤ 8 ∧
  ∀ q ys es H2, But b H H2 → BoxAt (n + 2) H2 b → H2 q = some (.tup ys) → GAll H2 k B ys es → ys.length = xs.length → Q (.ref q) H2
def SB (B : Nat) : Nat := 4 + 10 * (B + 2) + 30
def sp__law_shape (K : PySem.W.Frag) : Sp := sp2 fun box v H Q _ => ∃ (b : Addr) (n : Nat) (p : Addr) (k B : Nat) (xs : List V) (ds : List PyData), box = .ref b ∧ v = .ref p ∧ BoxAt n H b ∧ n < 700000 ∧ H p = some (.tup xs) ∧ GAll H k B xs ds ∧ 2000 ≤ B ∧ 2 ≤ xs.length ∧ xs.length ≤ 8 ∧ boxLike ds = false ∧
  ∀ v d H2, But b H H2 → BoxAt (n + 1) H2 b → Gd H2 (k + 2) (SB B) v d → Q v H2
def sp__law_within_last (K : PySem.W.Frag) : Sp := sp2 fun box v H Q _ => ∃ (b : Addr) (n : Nat) (p : Addr) (xs : List V) (ds : List PyData), box = .ref b ∧ v = .ref p ∧ BoxAt n H b ∧ n < 600000 ∧ Cmd H p xs ds ∧ ∀ q ys es H2, But b H H2 → BoxAt (n + 10) H2 b → H2 q = some (.tup ys) → GAll H2 8 200000 ys es → ys.length ≤ 5 → Q (.ref q) H2
def sp__law_renamed (K : PySem.W.Frag) : Sp := sp2 fun box v H Q _ => ∃ (b : Addr) (n : Nat) (p : Addr) (xs : List V) (ds : List PyData), box = .ref b ∧ v = .ref p ∧ BoxAt n H b ∧ n < 600000 ∧ Cmd H p xs ds ∧ ∀ q ys es H2, But b H H2 → BoxAt (n + 1) H2 b → H2 q = some (.tup ys) → GAll H2 8 200000 ys es → ys.length ≤ 5 → Q (.ref q) H2
/-- a statement and what comes behind it, cut apart -/
theorem seq_cut {T Y : TS} {D : Ends} {σ : L2.St} {H : Hp} (St : L2.St → Hp → Prop) (h1 : ∀ Nx : L2.St → Hp → Prop, (∀ σ' H', St σ' H' → Nx σ' H') → T { D with nx := Nx } σ H) (h2 : ∀ σ' H', St σ' H' → Y D σ' H') : tSeq T Y D σ H := h1 _ h2
/-- where the law stands: the box, the command, the others -/
structure LS (H0 Hx : Hp) (b p : Addr) (n : Nat) (xs : List V) (ds : List PyData) (al : Addr) (L : List V) (q : Nat) : Prop where
  B : BoxAt n Hx b
  t : But b H0 Hx
  C : Cmd Hx p xs ds
  o : Hx al = some (.lst L)
  g : ∀ x ∈ L, Good2 Hx x
  l : L.length ≤ q
  r : ∃ q r, L = .ref q :: r
theorem LS.same {H0 Hx Hy : Hp} {b p al : Addr} {n q : Nat} {xs L : List V} {ds : List PyData} (h : LS H0 Hx b p n xs ds al L q) (s : Same Hx Hy) : LS H0 Hy b p n xs ds al L q :=
  ⟨h.B.same s, h.t.trans (But.of s), h.C.mv (Mv.of s), s _ _ h.o, fun x hx => (h.g x hx).mv (Mv.of s), h.l, h.r⟩
theorem LS.but {H0 Hx Hy : Hp} {b p al : Addr} {n m q : Nat} {xs L : List V} {ds : List PyData} (h : LS H0 Hx b p n xs ds al L q) (t : But b Hx Hy) (B : BoxAt m Hy b) : LS H0 Hy b p m xs ds al L q := by
  have mv := h.B.mv t
  refine ⟨B, h.t.trans t, h.C.mv mv, t.at (h.B.neq h.o (fun _ _ _ _ z => ?_)) h.o, fun x hx => (h.g x hx).mv mv, h.l, h.r⟩
  obtain ⟨q, r, e⟩ := h.r
  rw [e] at z
  cases z
theorem LS.more {H0 Hx : Hp} {b p al al2 : Addr} {n q q2 : Nat} {xs L M : List V} {ds : List PyData} (h : LS H0 Hx b p n xs ds al L q) (o : Hx al2 = some (.lst (L ++ M))) (g : ∀ x ∈ M, Good2 Hx x) (l : q + M.length ≤ q2) : LS H0 Hx b p n xs ds al2 (L ++ M) q2 :=
  ⟨h.B, h.t, h.C, o, fun x hx => (List.mem_append.mp hx).elim (h.g x) (g x), by have := h.l; rw [List.length_append]; omega, by obtain ⟨q, r, e⟩ := h.r; exact ⟨q, r ++ M, by rw [e]; rfl⟩⟩
theorem LS.mono {H0 Hx : Hp} {b p al : Addr} {n m q q2 : Nat} {xs L : List V} {ds : List PyData} (h : LS H0 Hx b p n xs ds al L q) (e : n ≤ m) (e2 : q ≤ q2) : LS H0 Hx b p m xs ds al L q2 :=
  ⟨h.B.mono e, h.t, h.C, h.o, h.g, Nat.le_trans h.l e2, h.r⟩
theorem cut_no {n j : Nat} {A P : Prop} (hj : j < n) (z : A ∧ HT.sIx n n (some ((j : Nat) : Int)) = n) : P := absurd z.2 (by rw [sIx_pos (Int.natCast_nonneg j), Int.toNat_natCast]; omega)
theorem cut_nf {n d j : Nat} {A P : Prop} (h0 : 0 < j) (hj : 0 < n) (z : HT.sIx n d (some ((j : Nat) : Int)) = 0 ∧ A) : P := absurd z.1 (by rw [sIx_pos (Int.natCast_nonneg j), Int.toNat_natCast]; omega)
theorem cut_to {H H' : Hp} {c : Addr} {xs : List V} (j : Nat) (n : Nw H c (.tup (cutV xs none (some ((j : Nat) : Int)))) H') : Nw H c (.tup (xs.take j)) H' := by rw [cutV_to] at n; exact n
theorem cut_fr {H H' : Hp} {c : Addr} {xs : List V} (j : Nat) (n : Nw H c (.tup (cutV xs (some ((j : Nat) : Int)) none)) H') : Nw H c (.tup (xs.drop j)) H' := by rw [cutV_fr] at n; exact n
theorem alt_good {Hx : Hp} {p r : Addr} {xs : List V} {ds : List PyData} {j : Nat} {v : V} {d : PyData} (C : Cmd Hx p xs ds) (h : Hx r = some (.tup (xs.take j ++ [v]))) (g : Gd Hx 8 200000 v d) : Good2 Hx (.ref r) :=
  good2_tup h ((C.all.take j).mono (by decide) (by decide) |>.app (.cons g .nil)) (by rw [List.length_append, List.length_take]; have := C.five; show _ + 1 ≤ _; omega)
theorem alt_mid {Hx : Hp} {p r : Addr} {xs : List V} {ds : List PyData} {j k : Nat} {v : V} {d : PyData} (C : Cmd Hx p xs ds) (h : Hx r = some (.tup ((xs.take j ++ [v]) ++ xs.drop k))) (g : Gd Hx 8 200000 v d) : Good2 Hx (.ref r) :=
  good2_tup h ((((C.all.take j).mono (by decide) (by decide)).app (.cons g .nil)).app ((C.all.drop k).mono (by decide) (by decide))) (by rw [List.length_append, List.length_append, List.length_take, List.length_drop]; have := C.five; show _ + 1 + _ ≤ _; omega)
theorem gall_same {Hx : Hp} {k B : Nat} {v : V} {d : PyData} (g : Gd Hx k B v d) : ∀ n : Nat, GAll Hx k B (List.replicate n [v]).flatten (List.replicate n d)
  | 0 => .nil
  | n + 1 => .cons g (gall_same g n)
theorem LS.add {K : PySem.W.Frag} {H0 Hx Hy Hz : Hp} {b p al la : Addr} {n m q q2 : Nat} {xs L M : List V} {ds : List PyData} {Q : VK} (h : LS H0 Hx b p n xs ds al L q) (t : But b Hx Hy) (B : BoxAt m Hy b) (w : Nw Hy la (.lst M) Hz) (g : ∀ x ∈ M, Good2 Hy x) (l : q + M.length ≤ q2) (l2 : q2 ≤ 60) (k : ∀ a2 H', LS H0 H' b p m xs ds a2 (L ++ M) q2 → Q (.ref a2) H') : zAdd K (.ref al) (.ref la) Hz Q := by
  have h2 := (h.but t B).same w.same
  refine .inl ⟨_, _, h2.o, w.here, sz (by have := h2.l; omega), fun a2 H' n' => ?_⟩
  have h3 := h2.same n'.same
  exact k a2 H' (h3.more n'.here (fun x hx => (g x hx).mv (Mv.of (w.same.trans n'.same))) l)
def sp__law_right (K : PySem.W.Frag) : Sp := sp1 fun v H Q _ => Good2 H v ∧ ∀ H2, Same H H2 → Q (.bl true) H2
section
variable {P : Program} {w : World} {K : PySem.W.Frag} {mg : Str → Option Value} {base : Heap}
/-! ### _law_box(_law_great), level 1 -/
abbrev s__law_box : Stmt := top 57
abbrev N__law_box : List Str := ["_law_great"]
theorem sc__law_box : FnScope N__law_box ["_law_great"] (defScope s__law_box) := ⟨rfl, rfl, rfl, by decide +kernel, rfl, by decide +kernel, by decide +kernel⟩
theorem ok__law_box (T : Txt K mg) (D : Df K mg "_law_box" s__law_box ["_law_great"]) : Ct P w K mg base CX0 1 "_law_box" ["_law_great"] (sp__law_box K) := by
  refine ct1 D sc__law_box fun f cdv A outer s H a_great Q E hr h => ⟨_, (pss_one (ps_ret (pe_lz (pa_cons (pe_callB c_abs (by rfl) T.n_abs bt_abs (pa_cons (pz 0) pa_nil)) (pa_cons (pe_cmpR o_ge (pe_callB c_abs (by rfl) T.n_abs bt_abs (pa_cons (pz 0) pa_nil)) (pe_op o_pow pe_int pe_int) (nomark _)) (pa_cons (pe_op o_mod (pe_callTy c_int (by rfl) T.n_int bt_int (pa_cons (pe_callB c_abs (by rfl) T.n_abs bt_abs (pa_cons (pz 0) pa_nil)) pa_nil)) pe_int) (pa_cons pe_int pa_nil))))))), ?_⟩
  obtain ⟨g, rfl, k⟩ := h
  refine ⟨⟨by decide, by decide, by decide⟩, by show (0 : Int) < _; decide, by show 4 ≤ sizeLine; decide, fun b H2 n => ?_⟩
  refine k b H2 n.fresh n.same ⟨_, _, _, _, n.here, ?_, ?_, ?_, by decide, by decide⟩
  · split <;> omega
  · exact Int.emod_nonneg _ (by decide)
  · have := Int.emod_lt_of_pos (if g < 0 then -g else g) (show (0 : Int) < 2147483629 by decide)
    omega

/-! ### _law_cell(_law_script, _law_k), level 1 -/
abbrev s__law_cell : Stmt := top 56
abbrev N__law_cell : List Str := ["_law_script", "_law_k"]
theorem sc__law_cell : FnScope N__law_cell ["_law_script", "_law_k"] (defScope s__law_cell) := ⟨rfl, rfl, rfl, by decide +kernel, rfl, by decide +kernel, by decide +kernel⟩
theorem ok__law_cell (T : Txt K mg) (D : Df K mg "_law_cell" s__law_cell ["_law_script", "_law_k"]) : Ct P w K mg base CX0 1 "_law_cell" ["_law_script", "_law_k"] (sp__law_cell K) := by
  refine ct2 D sc__law_cell fun f cdv A outer s H a_script a_k Q E hr h => ⟨_, (pss_one (ps_ret (pe_ifExp (pt_cmpZ o_ltS (pz 1) (pe_callB (k_len K) (by rfl) T.n_len bt_len (pa_cons (pz 0) pa_nil)) (nomark _)) (pe_ix (k_ix K) (pz 0) (pz 1) (fun _ _ => rfl)) (pe_op (k_add K) (pe_op o_mul pe_int (pz 1)) (pe_op o_mod (pe_callB (k_sum K rfl) (by rfl) T.n_sum bt_sum (pa_cons (pe_slice (k_sl K) (pz 0) po_none (po_z pe_int)) pa_nil)) pe_int))))), ?_⟩
  obtain ⟨a, i, ns, rfl, rfl, h0, h1, hS, hl, k⟩ := h
  refine .inl ⟨_, .inl hS, ?_⟩
  refine ite2 (fun hc => ?_) (fun hc => ?_)
  · have hi : i < (ns.map V.int).length := by simpa using hc
    rw [List.length_map] at hi
    refine ⟨_, V.int (ns.getD i.toNat 0), .inl hS, ?_, k _ _ (Same.refl _)⟩
    have e : i = ((i.toNat : Nat) : Int) := by omega
    rw [e]
    refine atI_nat ?_
    rw [Int.toNat_natCast, List.getElem?_map, List.getElem?_eq_getElem (by omega)]
    simp [List.getD, List.getElem?_eq_getElem (show i.toNat < ns.length by omega)]
  · refine ⟨.inr ⟨by omega, by omega⟩, .inl ⟨_, hS, fun p H2 n => ?_⟩⟩
    have e : cutV (ns.map V.int) none (some 1) = (ns.take 1).map V.int := by
      cases ns with
      | nil => rfl
      | cons x r => simp [cutV, HT.sIx]
    rw [e] at n
    exact ⟨_, SqL.of n.here, by show (0 : Int) < _; decide, k _ _ n.same⟩

/-! ### _law_take(_law_box_here, _law_many), level 1 -/
abbrev s__law_take : Stmt := top 58
abbrev N__law_take : List Str := ["_law_box_here", "_law_many", "_law_digit", "_law_mixed"]
theorem sc__law_take : FnScope N__law_take ["_law_box_here", "_law_many"] (defScope s__law_take) := ⟨rfl, rfl, rfl, by decide +kernel, rfl, by decide +kernel, by decide +kernel⟩
theorem ok__law_take (T : Txt K mg) (D : Df K mg "_law_take" s__law_take ["_law_box_here", "_law_many"]) : Ct P w K mg base CX0 1 "_law_take" ["_law_box_here", "_law_many"] (sp__law_take K) := by
  refine ct2 D sc__law_take fun f cdv A outer s H a_box_here a_many Q E hr h => ⟨_, (pss_cons (ps_if (PW.pt (pw_and (pt_trK K (pe_ix (k_ix K) (pz 0) pe_int (fun _ _ => rfl))) (pw_and1 (pt_cmpZ o_gtS (pe_ix (k_ix K) (pz 0) pe_int (fun _ _ => rfl)) pe_int (nomark _))))) 
      (pss_cons (ps_set (i := 2) sc__law_take.nd rfl (Or.inl rfl) (pe_op o_mod (pe_callTy c_int (by rfl) T.n_int bt_int (pa_cons (pe_ix (k_ix K) (pz 0) pe_int (fun _ _ => rfl)) pa_nil)) (pz 1)))
      (pss_cons (ps_asg (pe_op o_fdiv (pe_ix (k_ix K) (pz 0) pe_int (fun _ _ => rfl)) (pz 1)) (pg_sub (pz 0) pe_int s_list))
      (pss_one (ps_ret (pz 2))))) pss_nil)
    (pss_cons (ps_asg (pe_op (k_add K) (pe_ix (k_ix K) (pz 0) pe_int (fun _ _ => rfl)) pe_int) (pg_sub (pz 0) pe_int s_list))
    (pss_cons (ps_set (i := 3) sc__law_take.nd rfl (Or.inl rfl) (pe_op o_mod (pe_callTy c_int (by rfl) T.n_int bt_int (pa_cons (pe_op o_pow (pe_op (k_add K) (pe_op (k_add K) (pe_ix (k_ix K) (pz 0) pe_int (fun _ _ => rfl)) (pe_op o_mul pe_int (pe_ix (k_ix K) (pz 0) pe_int (fun _ _ => rfl)))) pe_int) pe_int) pa_nil)) pe_int))
    (pss_one (ps_ret (pe_op o_mod (pe_op o_fdiv (pe_op o_mod (pe_callTy c_int (by rfl) T.n_int bt_int (pa_cons (pe_op o_pow (pe_op (k_add K) (pe_op o_mul (pz 3) pe_int) (pe_op o_mul pe_int (pe_ix (k_ix K) (pz 0) pe_int (fun _ _ => rfl)))) pe_int) pa_nil)) pe_int) pe_int) (pz 1))))))), ?_⟩
  obtain ⟨b, m, n, rfl, rfl, hm, hm2, hB, hn, k⟩ := h
  obtain ⟨g, f1, s1, c, hb, g0, s0, s2, c0, c1⟩ := id hB
  have two : (2 : Int) ^ 64 = 18446744073709551616 := by decide
  refine ⟨_, _, .inl (SqL.of hb), rfl, ?_⟩
  refine ite2 (fun h1 => ?_) (fun h1 => ?_)
  · refine ⟨_, _, .inl (SqL.of hb), rfl, ?_⟩
    refine ite2 (fun h2 => ?_) (fun h2 => ?_)
    · refine ⟨_, _, .inl (SqL.of hb), rfl, hm, ?_⟩
      refine ⟨_, _, .inl (SqL.of hb), rfl, ⟨hm, by omega⟩, ?_⟩
      refine ⟨_, 0, hb, rfl, fun H2 w => ?_⟩
      have hg : 0 < g := by simpa using h2
      exact k _ H2 w.but ⟨_, _, _, _, w.here, Int.ediv_nonneg g0 (by omega), s0, s2, c0, by omega⟩ (Int.emod_nonneg _ (by omega)) (Int.emod_lt_of_pos _ hm)
    · refine ⟨_, _, .inl (SqL.of hb), rfl, ?_⟩
      refine ⟨_, 3, hb, rfl, fun H2 w => ?_⟩
      refine ⟨_, _, .inl (SqL.of w.here), rfl, ?_⟩
      refine ⟨_, _, .inl (SqL.of w.here), rfl, .inl ⟨by omega, by omega⟩, ?_⟩
      refine ⟨⟨by decide, by decide, by omega⟩, by show (0 : Int) < _; decide, ?_⟩
      have q1 := Int.emod_nonneg ((s1 + 15485863 * (c + 1) + 179424697) ^ (5 : Int).toNat) (show (2147483647 : Int) ≠ 0 by decide)
      have q2 := Int.emod_lt_of_pos ((s1 + 15485863 * (c + 1) + 179424697) ^ (5 : Int).toNat) (show (0 : Int) < 2147483647 by decide)
      refine ⟨.inr ⟨by omega, by omega⟩, ?_⟩
      refine ⟨_, _, .inl (SqL.of w.here), rfl, .inl ⟨by omega, by omega⟩, ?_⟩
      generalize (s1 + 15485863 * (c + 1) + 179424697) ^ (5 : Int).toNat % 2147483647 = z at q1 q2 ⊢
      refine ⟨⟨by decide, by decide, by omega⟩, by show (0 : Int) < _; decide, ⟨by show (0 : Int) < _; decide, by show _ < (1073741824 : Int); decide⟩, hm, ?_⟩
      exact k _ H2 w.but ⟨_, _, _, _, w.here, g0, s0, s2, by omega, by omega⟩ (Int.emod_nonneg _ (by omega)) (Int.emod_lt_of_pos _ hm)
  · refine iteF ?_
    refine ⟨_, _, .inl (SqL.of hb), rfl, ?_⟩
    refine ⟨_, 3, hb, rfl, fun H2 w => ?_⟩
    refine ⟨_, _, .inl (SqL.of w.here), rfl, ?_⟩
    refine ⟨_, _, .inl (SqL.of w.here), rfl, .inl ⟨by omega, by omega⟩, ?_⟩
    refine ⟨⟨by decide, by decide, by omega⟩, by show (0 : Int) < _; decide, ?_⟩
    have q1 := Int.emod_nonneg ((s1 + 15485863 * (c + 1) + 179424697) ^ (5 : Int).toNat) (show (2147483647 : Int) ≠ 0 by decide)
    have q2 := Int.emod_lt_of_pos ((s1 + 15485863 * (c + 1) + 179424697) ^ (5 : Int).toNat) (show (0 : Int) < 2147483647 by decide)
    refine ⟨.inr ⟨by omega, by omega⟩, ?_⟩
    refine ⟨_, _, .inl (SqL.of w.here), rfl, .inl ⟨by omega, by omega⟩, ?_⟩
    generalize (s1 + 15485863 * (c + 1) + 179424697) ^ (5 : Int).toNat % 2147483647 = z at q1 q2 ⊢
    refine ⟨⟨by decide, by decide, by omega⟩, by show (0 : Int) < _; decide, ⟨by show (0 : Int) < _; decide, by show _ < (1073741824 : Int); decide⟩, hm, ?_⟩
    exact k _ H2 w.but ⟨_, _, _, _, w.here, g0, s0, s2, by omega, by omega⟩ (Int.emod_nonneg _ (by omega)) (Int.emod_lt_of_pos _ hm)

/-! ### _law_name(_law_box_here), level 2 -/
abbrev s__law_name : Stmt := top 59
abbrev N__law_name : List Str := ["_law_box_here", "_law_letters", "_law_many", "_law_k"]
theorem sc__law_name : FnScope N__law_name ["_law_box_here"] (defScope s__law_name) := ⟨rfl, rfl, rfl, by decide +kernel, rfl, by decide +kernel, by decide +kernel⟩
theorem ok__law_name (T : Txt K mg) (C__law_take : Ct P w K mg base CX0 1 "_law_take" ["_law_box_here", "_law_many"] (sp__law_take K)) (D : Df K mg "_law_name" s__law_name ["_law_box_here"]) : Ct P w K mg base CX0 2 "_law_name" ["_law_box_here"] (sp__law_name K) := by
  refine ct1 D sc__law_name fun f cdv A outer s H a_box_here Q E hr h => ⟨_, (pss_cons (ps_asg (pe_tz (pa_cons pe_str (pa_cons (pe_op (k_add K) pe_int (pe_cl C__law_take (hr.mono (by decide)) pass0 (pa_cons (pz 0) (pa_cons pe_int pa_nil)))) pa_nil))) (pg_tzK (n := 2) K (by rfl) (pgs_cz (pg_name (i := 1) sc__law_name.nd rfl (Or.inr rfl)) (pgs_cz (pg_name (i := 2) sc__law_name.nd rfl (Or.inl rfl)) pgs_nz))))
    (pss_cons (ps_if (pt_cmpZ (k_eq K hr.units) (pe_cl C__law_take (hr.mono (by decide)) pass0 (pa_cons (pz 0) (pa_cons pe_int pa_nil))) pe_int (nomark _)) 
      (pss_one (ps_ret (pe_op o_mul (pe_ix (k_ix K) (pz 1) (pe_cl C__law_take (hr.mono (by decide)) pass0 (pa_cons (pz 0) (pa_cons pe_int pa_nil))) (fun _ _ => rfl)) (pz 2)))) pss_nil)
    (pss_one (ps_ret (pe_ms PySem.F.slot_str_join PySem.F.type_str_join (mk_join K) pe_str (pa_cons (pe_lcz (own := [("_law_k", 3)]) (by rfl) sc__law_name.nd (pi_rngZ (by rfl) T.n_range (pa_cons (pz 2) pa_nil)) (blkOk_by (own := [("_law_k", 3)]) (N := N__law_name) (sc := defScope s__law_name) (by decide +kernel)) (fun _ _ _ _ _ => (pg_name (i := 3) sc__law_name.nd rfl (Or.inl rfl))) (fun _ _ _ _ _ => pts_nil) (fun _ _ _ _ _ => (pe_ix (k_ix K) (pz 1) (pe_cl C__law_take (hr.mono (by decide)) pass0 (pa_cons (pz 0) (pa_cons pe_int pa_nil))) (fun _ _ => rfl)))) pa_nil)))))), ?_⟩
  obtain ⟨b, n, rfl, hB, hn, q⟩ := h
  refine ⟨b, 8, n, rfl, rfl, by decide, by decide, hB, by omega, fun r H0 t0 B0 r0 r1 => ?_⟩
  refine ⟨by show 2 ≤ sizeLine; decide, fun p H1 n1 => ?_⟩
  refine ⟨_, SqT.of n1.here, rfl, ?_⟩
  refine ⟨b, 4, n + 1, rfl, rfl, by decide, by decide, B0.same n1.same, by omega, fun r2 H2 t2 B2 r20 r21 => ?_⟩
  have t12 := (t0.nw n1).trans t2
  refine ite2 (fun hw => ?_) (fun hw => ?_)
  · refine ⟨b, 26, n + 2, rfl, rfl, by decide, by decide, B2, by omega, fun r3 H3 t3 B3 r30 r31 => ?_⟩
    obtain ⟨c, e, hc⟩ := low_item r30 r31
    refine ⟨c, by decide, e, ?_⟩
    rw [show (⟨#[c]⟩ : Str) = S [c] from rfl]
    refine ⟨by show _ ≤ 1 + r; omega, by show 1 + r < _; omega, by rw [length_S]; show 1 * (1 + r).toNat ≤ _; omega, ?_⟩
    rw [rep_S, rep_one]
    exact q _ H3 (t12.trans t3) (B3.mono (by omega)) ⟨by rw [List.length_replicate]; show 1 ≤ (1 + r).toNat; omega, by rw [List.length_replicate]; show (1 + r).toNat ≤ 8; omega, fun x hx => by rw [(List.mem_replicate.mp hx).2]; exact hc⟩
  · refine ⟨by show _ ≤ 1 + r; omega, by show 1 + r < _; omega, fun D hD => lc_w (wk_rng 0 (1 + r).toNat) (by rw [rngV_len]; omega)
      (fun i acc H' => ∃ ls : List (List Nat), acc = strsV ls ∧ ls.length = i ∧ (∀ l ∈ ls, l.length = 1 ∧ ∀ c ∈ l, 97 ≤ c ∧ c ≤ 122) ∧ But b H2 H' ∧ BoxAt (n + 2 + i) H' b)
      (fun H4 n4 => ⟨[], rfl, rfl, (fun _ h => by cases h), n4.but, (B2.same n4.same)⟩) (fun _ _ _ _ => trivial) (fun i acc H' ⟨ls, e, l, _⟩ => by rw [e, strsV_len]; omega) ?_ ?_⟩
    · rintro i x acc H4 hx hD4 ⟨ls, rfl, hl, ht, t4, B4⟩
      obtain ⟨hi, rfl⟩ := rngV_at hx
      have nD : D ≠ b := (B2.ne hD).symm
      refine ⟨rfl, ?_⟩
      refine ⟨b, 26, n + 2 + i, rfl, rfl, by decide, by decide, B4, by omega, fun r3 H5 t5 B5 r30 r31 => ?_⟩
      obtain ⟨c, e, hc⟩ := low_item r30 r31
      refine ⟨c, by decide, e, t5.at nD hD4, fun H6 w6 => ?_⟩
      refine ⟨ls ++ [[c]], strsV_app ls [c] ▸ rfl, by rw [List.length_append, hl]; rfl, fun l hl => ?_, (t4.trans t5).wr hD w6, (B5.wr nD.symm w6)⟩
      rcases List.mem_append.mp hl with hl | hl
      · exact ht l hl
      · rw [List.mem_singleton.mp hl]
        exact ⟨rfl, fun x hx => by rw [List.mem_singleton.mp hx]; exact hc⟩
    · rintro acc H4 _ hD4 ⟨ls, rfl, hl, ht, t4, B4⟩
      rw [rngV_len] at hl
      rw [rngV_len] at B4
      have lenF : ls.flatten.length = ls.length := by
        have gen : ∀ ls : List (List Nat), (∀ l ∈ ls, l.length = 1) → ls.flatten.length = ls.length := by
          intro ls
          induction ls with
          | nil => intro _; rfl
          | cons a r ih =>
            intro h
            rw [List.flatten_cons, List.length_append, h a List.mem_cons_self, ih fun l hl => h l (List.mem_cons_of_mem _ hl), List.length_cons]
            omega
        exact gen ls fun l hl => (ht l hl).1
      refine ⟨ls.map S, .inl (SqL.of hD4), ?_, ?_⟩
      · exact joinSz _ (by omega)
      rw [join_flat lit_nil]
      refine q _ H4 (t12.trans t4) (B4.mono (by omega)) ⟨by omega, by omega, fun c hc => ?_⟩
      obtain ⟨l, hl, hc⟩ := List.mem_flatten.mp hc
      exact (ht l hl).2 c hc

/-! ### _law_text(_law_box_here, _law_most), level 2 -/
abbrev s__law_text : Stmt := top 60
abbrev N__law_text : List Str := ["_law_box_here", "_law_most", "_law_signs", "_law_many", "_law_k"]
theorem sc__law_text : FnScope N__law_text ["_law_box_here", "_law_most"] (defScope s__law_text) := ⟨rfl, rfl, rfl, by decide +kernel, rfl, by decide +kernel, by decide +kernel⟩
theorem ok__law_text (T : Txt K mg) (C__law_take : Ct P w K mg base CX0 1 "_law_take" ["_law_box_here", "_law_many"] (sp__law_take K)) (D : Df K mg "_law_text" s__law_text ["_law_box_here", "_law_most"]) : Ct P w K mg base CX0 2 "_law_text" ["_law_box_here", "_law_most"] (sp__law_text K) := by
  refine ct2 D sc__law_text fun f cdv A outer s H a_box_here a_most Q E hr h => ⟨_, (pss_cons (ps_set (i := 2) sc__law_text.nd rfl (Or.inr rfl) pe_str)
    (pss_cons (ps_set (i := 3) sc__law_text.nd rfl (Or.inl rfl) (pe_ix (k_ix K) (pe_lz (pa_cons pe_int (pa_cons pe_int (pa_cons pe_int (pa_cons pe_int (pa_cons pe_int (pa_cons (pe_op o_sub (pz 1) pe_int) (pa_cons (pz 1) pa_nil)))))))) (pe_cl C__law_take (hr.mono (by decide)) pass0 (pa_cons (pz 0) (pa_cons pe_int pa_nil))) (fun _ _ => rfl)))
    (pss_one (ps_ret (pe_ms PySem.F.slot_str_join PySem.F.type_str_join (mk_join K) pe_str (pa_cons (pe_lcz (own := [("_law_k", 4)]) (by rfl) sc__law_text.nd (pi_rngZ (by rfl) T.n_range (pa_cons (pz 3) pa_nil)) (blkOk_by (own := [("_law_k", 4)]) (N := N__law_text) (sc := defScope s__law_text) (by decide +kernel)) (fun _ _ _ _ _ => (pg_name (i := 4) sc__law_text.nd rfl (Or.inl rfl))) (fun _ _ _ _ _ => pts_nil) (fun _ _ _ _ _ => (pe_ix (k_ix K) (pz 2) (pe_cl C__law_take (hr.mono (by decide)) pass0 (pa_cons (pz 0) (pa_cons pe_int pa_nil))) (fun _ _ => rfl)))) pa_nil)))))), ?_⟩
  obtain ⟨b, n, rfl, rfl, hB, hn, q⟩ := h
  refine ⟨by show 7 ≤ sizeLine; decide, fun p H1 n1 => ?_⟩
  have nb : p ≠ b := (hB.ne n1.fresh).symm
  refine ⟨b, 7, n, rfl, rfl, by decide, by decide, hB.same n1.same, by omega, fun r H2 t2 B2 r0 r1 => ?_⟩
  obtain ⟨m, hm, hmem⟩ := menuI [0, 1, 2, 3, 7, 39, 40] r0 r1
  have hm' : 0 ≤ m ∧ m ≤ 40 := by
    simp only [List.mem_cons, List.not_mem_nil, or_false] at hmem
    omega
  refine ⟨_, .int m, .inl (SqL.of (t2.at nb n1.here)), hm, ?_⟩
  have t12 : But b H H2 := n1.but.trans t2
  refine ⟨by omega, by omega, fun D hD => lc_w (wk_rng 0 m.toNat) (by rw [rngV_len]; omega)
      (fun i acc H' => ∃ ls : List (List Nat), acc = strsV ls ∧ ls.length = i ∧ (∀ l ∈ ls, TX 1 l) ∧ But b H2 H' ∧ BoxAt (n + 1 + i) H' b)
      (fun H4 n4 => ⟨[], rfl, rfl, (fun _ h => by cases h), n4.but, (B2.same n4.same)⟩) (fun _ _ _ _ => trivial) (fun i acc H' ⟨ls, e, l, _⟩ => by rw [e, strsV_len]; omega) ?_ ?_⟩
  · rintro i x acc H4 hx hD4 ⟨ls, rfl, hl, ht, t4, B4⟩
    obtain ⟨hi, rfl⟩ := rngV_at hx
    have nD : D ≠ b := (B2.ne hD).symm
    refine ⟨rfl, ?_⟩
    refine ⟨b, 94, n + 1 + i, rfl, rfl, by decide, by decide, B4, by omega, fun r3 H5 t5 B5 r30 r31 => ?_⟩
    obtain ⟨c, e, hc⟩ := near_item (t := " !\"#$&'()*+,-./0123456789:;<=>?@ABCDEFGHIJKLMNOPQRSTUVWXYZ[\\]^_`abcdefghijklmnopqrstuvwxyz{|}~") (by decide) r30 r31
    refine ⟨c, by decide, e, t5.at nD hD4, fun H6 w6 => ?_⟩
    refine ⟨ls ++ [[c]], strsV_app ls [c] ▸ rfl, by rw [List.length_append, hl]; rfl, fun l hl => ?_, (t4.trans t5).wr hD w6, (B5.wr nD.symm w6)⟩
    rcases List.mem_append.mp hl with hl | hl
    · exact ht l hl
    · rw [List.mem_singleton.mp hl]
      exact ⟨pr_cons hc pr_nil, Nat.le_refl 1⟩
  · rintro acc H4 _ hD4 ⟨ls, rfl, hl, ht, t4, B4⟩
    rw [rngV_len] at hl
    rw [rngV_len] at B4
    have lenF : ls.flatten.length ≤ ls.length := by
      have gen : ∀ ls : List (List Nat), (∀ l ∈ ls, TX 1 l) → ls.flatten.length ≤ ls.length := by
        intro ls
        induction ls with
        | nil => intro _; exact Nat.le_refl 0
        | cons a r ih =>
          intro h
          have h1 := (h a List.mem_cons_self).2
          have h2 := ih fun l hl => h l (List.mem_cons_of_mem _ hl)
          rw [List.flatten_cons, List.length_append, List.length_cons]
          omega
      exact gen ls ht
    refine ⟨ls.map S, .inl (SqL.of hD4), ?_, ?_⟩
    · exact joinSz _ (by omega)
    rw [join_flat lit_nil]
    exact q _ H4 (t12.trans t4) (B4.mono (by omega)) ⟨pr_flat fun l hl => (ht l hl).1, by omega⟩

/-! ### _law_item(_law_box_here), level 3 -/
abbrev s__law_item : Stmt := top 61
abbrev N__law_item : List Str := ["_law_box_here", "_law_times", "_law_head"]
theorem sc__law_item : FnScope N__law_item ["_law_box_here"] (defScope s__law_item) := ⟨rfl, rfl, rfl, by decide +kernel, rfl, by decide +kernel, by decide +kernel⟩
theorem ok__law_item (C__law_take : Ct P w K mg base CX0 1 "_law_take" ["_law_box_here", "_law_many"] (sp__law_take K)) (C__law_text : Ct P w K mg base CX0 2 "_law_text" ["_law_box_here", "_law_most"] (sp__law_text K)) (C__law_name : Ct P w K mg base CX0 2 "_law_name" ["_law_box_here"] (sp__law_name K)) (D : Df K mg "_law_item" s__law_item ["_law_box_here"]) : Ct P w K mg base CX0 3 "_law_item" ["_law_box_here"] (sp__law_item K) := by
  refine ct1 D sc__law_item fun f cdv A outer s H a_box_here Q E hr h => ⟨_, (pss_cons (ps_set (i := 1) sc__law_item.nd rfl (Or.inl rfl) (pe_lz (pa_cons pe_int (pa_cons pe_int (pa_cons pe_int (pa_cons pe_int (pa_cons (pe_cl C__law_take (hr.mono (by decide)) pass0 (pa_cons (pz 0) (pa_cons pe_int pa_nil))) pa_nil)))))))
    (pss_cons (ps_set (i := 2) sc__law_item.nd rfl (Or.inl rfl) (pe_tz (pa_cons (pe_cl C__law_name (hr.mono (by decide)) pass0 (pa_cons (pz 0) pa_nil)) (pa_cons (pe_cl C__law_name (hr.mono (by decide)) pass0 (pa_cons (pz 0) pa_nil)) (pa_cons (pe_cl C__law_text (hr.mono (by decide)) pass0 (pa_cons (pz 0) (pa_cons pe_int pa_nil))) (pa_cons (pe_cl C__law_take (hr.mono (by decide)) pass0 (pa_cons (pz 0) (pa_cons pe_int pa_nil))) pa_nil))))))
    (pss_one (ps_ret (pe_op (k_add K) (pz 2) (pe_tz (pa_cons (pe_ix (k_ix K) (pz 1) (pe_cl C__law_take (hr.mono (by decide)) pass0 (pa_cons (pz 0) (pa_cons pe_int pa_nil))) (fun _ _ => rfl)) (pa_cons (pe_ix (k_ix K) (pz 1) (pe_cl C__law_take (hr.mono (by decide)) pass0 (pa_cons (pz 0) (pa_cons pe_int pa_nil))) (fun _ _ => rfl)) pa_nil)))))))), ?_⟩
  obtain ⟨b, n, rfl, hB, hn, q⟩ := h
  refine ⟨b, 51, n, rfl, rfl, by decide, by decide, hB, by omega, fun r H1 t1 B1 r0 r1 => ?_⟩
  refine ⟨by show 5 ≤ sizeLine; decide, fun p H2 n2 => ?_⟩
  have nb : p ≠ b := (B1.ne n2.fresh).symm
  refine ⟨b, _, rfl, B1.same n2.same, by omega, fun k1 H3 t3 B3 nm1 => ?_⟩
  refine ⟨b, _, rfl, B3, by omega, fun k2 H4 t4 B4 nm2 => ?_⟩
  refine ⟨b, _, rfl, rfl, B4, by omega, fun tx H5 t5 B5 tt => ?_⟩
  refine ⟨b, 4, _, rfl, rfl, by decide, by decide, B5, by omega, fun i H6 t6 B6 i0 i1 => ?_⟩
  refine ⟨by show 4 ≤ sizeLine; decide, fun hd H7 n7 => ?_⟩
  have t37 := (((t3.trans t4).trans t5).trans t6).nw n7
  have nhb : hd ≠ b := (B6.ne n7.fresh).symm
  have menu : ∀ x : Int, 0 ≤ x → x < 5 → ∃ y : Int, atI [V.int 0, .int 1, .int 49, .int 50, .int r] x = some (.int y) ∧ 0 ≤ y ∧ y ≤ 50 := fun x h0 h1 => by
    obtain ⟨m, hm, hmem⟩ := menuI [0, 1, 49, 50, r] h0 h1
    simp only [List.mem_cons, List.not_mem_nil, or_false] at hmem
    exact ⟨m, hm, by omega⟩
  refine ⟨b, 5, _, rfl, rfl, by decide, by decide, B6.same n7.same, by omega, fun x H8 t8 B8 x0 x1 => ?_⟩
  obtain ⟨y, hy, y0, y1⟩ := menu x x0 x1
  refine ⟨_, _, .inl (SqL.of (t8.at nb (t37.at nb n2.here))), hy, ?_⟩
  refine ⟨b, 5, _, rfl, rfl, by decide, by decide, B8, by omega, fun x' H9 t9 B9 x0' x1' => ?_⟩
  obtain ⟨y', hy', y0', y1'⟩ := menu x' x0' x1'
  refine ⟨_, _, .inl (SqL.of (t9.at nb (t8.at nb (t37.at nb n2.here)))), hy', ?_⟩
  refine ⟨by show 2 ≤ sizeLine; decide, fun tl H10 n10 => ?_⟩
  have h10 := n10.keep (t9.at nhb (t8.at nhb n7.here))
  refine .inr ⟨_, _, SqT.of h10, SqT.of n10.here, by show 6 ≤ sizeLine; decide, (fun z => by cases z), (fun _ z => by cases z), fun _ _ v H11 n11 => ?_⟩
  have to10 : But b H H10 := ((((t1.nw n2).trans t37).trans t8).trans t9).nw n10
  have B10 := B9.same n10.same
  exact q v H11 (to10.free (B10.ne n11.fresh).symm n11.fresh) (to10.nw n11) ((B10.same n11.same).mono (by omega)) ⟨k1, k2, tx, i, y, y', n11.here, nm1, nm2, tt, i0, by omega, y0, y1, y0', y1'⟩

/-! ### _law_items(_law_box_here, _law_least), level 4 -/
abbrev s__law_items : Stmt := top 68
abbrev N__law_items : List Str := ["_law_box_here", "_law_least", "_law_items_here", "_law_k"]
theorem sc__law_items : FnScope N__law_items ["_law_box_here", "_law_least"] (defScope s__law_items) := ⟨rfl, rfl, rfl, by decide +kernel, rfl, by decide +kernel, by decide +kernel⟩
theorem ok__law_items (T : Txt K mg) (C__law_take : Ct P w K mg base CX0 1 "_law_take" ["_law_box_here", "_law_many"] (sp__law_take K)) (C__law_item : Ct P w K mg base CX0 3 "_law_item" ["_law_box_here"] (sp__law_item K)) (D : Df K mg "_law_items" s__law_items ["_law_box_here", "_law_least"]) : Ct P w K mg base CX0 4 "_law_items" ["_law_box_here", "_law_least"] (sp__law_items K) := by
  refine ct2 D sc__law_items fun f cdv A outer s H a_box_here a_least Q E hr h => ⟨_, (pss_cons (ps_setLcz (i := 2) (own := [("_law_k", 3)]) (by rfl) sc__law_items.nd rfl rfl (sw_true rfl rfl rfl (by decide +kernel)) (pi_rngZ (by rfl) T.n_range (pa_cons (pe_op (k_add K) (pz 1) (pe_cl C__law_take (hr.mono (by decide)) pass0 (pa_cons (pz 0) (pa_cons (pe_op o_sub pe_int (pz 1)) pa_nil)))) pa_nil)) (blkOk_by (own := [("_law_k", 3)]) (N := N__law_items) (sc := defScope s__law_items) (by decide +kernel)) (fun _ _ _ _ _ => (pg_name (i := 3) sc__law_items.nd rfl (Or.inl rfl))) (fun _ _ _ _ _ => pts_nil) (fun _ _ _ _ _ => (pe_cl C__law_item (hr.mono (by decide)) pass0 (pa_cons (pz 0) pa_nil))))
    (pss_one (ps_ret (pe_callTy (k_tuple K) (by rfl) T.n_tuple bt_tuple (pa_cons (pz 2) pa_nil))))), ?_⟩
  obtain ⟨b, n, m, rfl, rfl, m0, m1, hB, hn, q⟩ := h
  refine ⟨b, 5 - m, n, rfl, rfl, by omega, by omega, hB, by omega, fun r H1 t1 B1 r0 r1 => ?_⟩
  refine ⟨by omega, by omega, fun D hD => lc_w (wk_rng 0 (m + r).toNat) (by rw [rngV_len]; omega)
      (fun i acc H' => ∃ ds : List PyData, Paired (El H') acc ds ∧ ds.all itemD = true ∧ acc.length = i ∧ But b H1 H' ∧ BoxAt (n + 1 + 100 * i) H' b)
      (fun H4 n4 => ⟨[], .nil, rfl, rfl, n4.but, B1.same n4.same⟩) (fun _ _ _ _ => trivial) (fun i acc H' ⟨ds, _, _, l, _⟩ => by omega) ?_ ?_⟩
  · rintro i x acc H4 hx hD4 ⟨ds, pe, ai, hl, t4, B4⟩
    obtain ⟨hi, rfl⟩ := rngV_at hx
    have nD : D ≠ b := (B1.ne hD).symm
    refine ⟨rfl, ?_⟩
    refine ⟨b, _, rfl, B4, by omega, fun p H5 fp t5 B5 ia => ?_⟩
    obtain ⟨dd, el, iD, _⟩ := item_el ia
    have hD5 := t5.at nD hD4
    refine ⟨hD5, fun H6 w6 => ?_⟩
    have m46 := (B4.mv t5).ml.trans (ML.wr hD5 w6)
    refine ⟨ds ++ [.tuple dd], (paired_mono (fun _ _ z => z.ml m46) pe).snoc (el.ml (ML.wr hD5 w6)), ?_, by rw [List.length_append, hl]; rfl, (t4.trans t5).wr hD w6, (B5.wr nD.symm w6).mono (by omega)⟩
    rw [List.all_append, ai]
    show (true && (itemD (.tuple dd) && true)) = true
    rw [iD]
    rfl
  · rintro acc H4 _ hD4 ⟨ds, pe, ai, hl, t4, B4⟩
    rw [rngV_len] at hl B4
    refine ⟨acc, .inl ⟨SqL.of hD4, fun p H5 n5 => ?_⟩⟩
    have t := (t1.trans t4)
    refine q p acc ds H5 (t.free (B4.ne n5.fresh).symm n5.fresh) (t.nw n5) ((B4.same n5.same).mono (by omega)) n5.here (paired_mono (fun _ _ z => z.ml (Mv.of n5.same).ml) pe) (by omega) (by omega) ai

/-! ### _law_number(_law_box_here), level 2 -/
abbrev s__law_number : Stmt := top 69
abbrev N__law_number : List Str := ["_law_box_here"]
theorem sc__law_number : FnScope N__law_number ["_law_box_here"] (defScope s__law_number) := ⟨rfl, rfl, rfl, by decide +kernel, rfl, by decide +kernel, by decide +kernel⟩
theorem ok__law_number (C__law_take : Ct P w K mg base CX0 1 "_law_take" ["_law_box_here", "_law_many"] (sp__law_take K)) (D : Df K mg "_law_number" s__law_number ["_law_box_here"]) : Ct P w K mg base CX0 2 "_law_number" ["_law_box_here"] (sp__law_number K) := by
  refine ct1 D sc__law_number fun f cdv A outer s H a_box_here Q E hr h => ⟨_, (pss_one (ps_ret (pe_ix (k_ix K) (pe_lz (pa_cons pe_int (pa_cons pe_int (pa_cons (pe_op o_sub (pe_op o_pow pe_int pe_int) pe_int) (pa_cons (pe_op (k_add K) pe_int (pe_cl C__law_take (hr.mono (by decide)) pass0 (pa_cons (pz 0) (pa_cons pe_int pa_nil)))) pa_nil))))) (pe_cl C__law_take (hr.mono (by decide)) pass0 (pa_cons (pz 0) (pa_cons pe_int pa_nil))) (fun _ _ => rfl)))), ?_⟩
  obtain ⟨b, n, rfl, hB, hn, q⟩ := h
  refine ⟨⟨by decide, by decide, by decide⟩, ?_⟩
  refine ⟨b, 100000, n, rfl, rfl, by decide, by decide, hB, by omega, fun r H1 t1 B1 r0 r1 => ?_⟩
  refine ⟨by show 4 ≤ sizeLine; decide, fun p H2 n2 => ?_⟩
  have B2 := B1.same n2.same
  have nb := B2.neq n2.here (fun _ _ _ _ z => by cases z)
  refine ⟨b, 4, _, rfl, rfl, by decide, by decide, B2, by omega, fun r3 H3 t3 B3 r30 r31 => ?_⟩
  have ten : ((10 : Int) ^ (12 : Int).toNat - 1) = 999999999999 := by decide
  obtain ⟨m, hm, hmem⟩ := menuI [1, 2, (10 : Int) ^ (12 : Int).toNat - 1, 1 + r] r30 r31
  rw [ten] at hmem
  simp only [List.mem_cons, List.not_mem_nil, or_false] at hmem
  refine ⟨_, .int m, .inl (SqL.of (t3.at nb n2.here)), hm, ?_⟩
  exact q m H3 ((t1.nw n2).trans t3) (B3.mono (by omega)) (by omega) (by omega)

/-! ### _law_token(_law_box_here), level 3 -/
abbrev s__law_token : Stmt := top 70
abbrev N__law_token : List Str := ["_law_box_here"]
theorem sc__law_token : FnScope N__law_token ["_law_box_here"] (defScope s__law_token) := ⟨rfl, rfl, rfl, by decide +kernel, rfl, by decide +kernel, by decide +kernel⟩
theorem ok__law_token (C__law_number : Ct P w K mg base CX0 2 "_law_number" ["_law_box_here"] (sp__law_number K)) (D : Df K mg "_law_token" s__law_token ["_law_box_here"]) : Ct P w K mg base CX0 3 "_law_token" ["_law_box_here"] (sp__law_token K) := by
  refine ct1 D sc__law_token fun f cdv A outer s H a_box_here Q E hr h => ⟨_, (pss_one (ps_ret (pe_tz (pa_cons (pe_cl C__law_number (hr.mono (by decide)) pass0 (pa_cons (pz 0) pa_nil)) (pa_cons (pe_cl C__law_number (hr.mono (by decide)) pass0 (pa_cons (pz 0) pa_nil)) pa_nil))))), ?_⟩
  obtain ⟨b, n, rfl, hB, hn, q⟩ := h
  refine ⟨b, n, rfl, hB, by omega, fun i H1 t1 B1 i0 i1 => ?_⟩
  refine ⟨b, _, rfl, B1, by omega, fun j H2 t2 B2 j0 j1 => ?_⟩
  refine ⟨by show 2 ≤ sizeLine; decide, fun p H3 n3 => ?_⟩
  have t := (t1.trans t2).nw n3
  exact q p i j H3 ((t1.trans t2).free (B2.ne n3.fresh).symm n3.fresh) t (B2.same n3.same) n3.here i0 i1 j0 j1

/-! ### _law_command(_law_box_here, _law_way), level 5 -/
abbrev s__law_command : Stmt := top 71
abbrev N__law_command : List Str := ["_law_box_here", "_law_way", "_law_name_here", "_law_other", "_law_dead"]
theorem sc__law_command : FnScope N__law_command ["_law_box_here", "_law_way"] (defScope s__law_command) := ⟨rfl, rfl, rfl, by decide +kernel, rfl, by decide +kernel, by decide +kernel⟩
theorem ok__law_command (C__law_name : Ct P w K mg base CX0 2 "_law_name" ["_law_box_here"] (sp__law_name K)) (C__law_take : Ct P w K mg base CX0 1 "_law_take" ["_law_box_here", "_law_many"] (sp__law_take K)) (C__law_items : Ct P w K mg base CX0 4 "_law_items" ["_law_box_here", "_law_least"] (sp__law_items K)) (C__law_number : Ct P w K mg base CX0 2 "_law_number" ["_law_box_here"] (sp__law_number K)) (C__law_token : Ct P w K mg base CX0 3 "_law_token" ["_law_box_here"] (sp__law_token K)) (D : Df K mg "_law_command" s__law_command ["_law_box_here", "_law_way"]) : Ct P w K mg base CX0 5 "_law_command" ["_law_box_here", "_law_way"] (sp__law_command K) := by
  refine ct2 D sc__law_command fun f cdv A outer s H a_box_here a_way Q E hr h => ⟨_, (pss_cons (ps_parZ (i := 2) (j := 3) (by rfl) sc__law_command.nd rfl rfl (by decide) rfl rfl (pa_cons (pe_cl C__law_name (hr.mono (by decide)) pass0 (pa_cons (pz 0) pa_nil)) (pa_cons (pe_cl C__law_name (hr.mono (by decide)) pass0 (pa_cons (pz 0) pa_nil)) pa_nil)) (by rfl))
    (pss_cons (ps_if (pt_cmpZ (k_eq K hr.units) (pz 1) pe_int (nomark _)) 
      (pss_one (ps_ret (pe_tz (pa_cons pe_str (pa_cons (pz 2) (pa_cons (pe_cmpR (k_eq K hr.units) (pe_cl C__law_take (hr.mono (by decide)) pass0 (pa_cons (pz 0) (pa_cons pe_int pa_nil))) pe_int (nomark _)) pa_nil)))))) pss_nil)
    (pss_cons (ps_if (pt_cmpZ (k_eq K hr.units) (pz 1) pe_int (nomark _)) 
      (pss_cons (ps_set (i := 4) sc__law_command.nd rfl (Or.inl rfl) (pe_cl C__law_name (hr.mono (by decide)) pass0 (pa_cons (pz 0) pa_nil)))
      (pss_one (ps_ret (pe_tz (pa_cons pe_str (pa_cons (pz 2) (pa_cons (pz 3) (pa_cons (pe_ifExp (PW.pt (pw_or (pt_cmpZ (k_eq K hr.units) (pz 4) (pz 3) (nomark _)) (pw_or1 (pt_cmpZ (k_eq K hr.units) (pe_cl C__law_take (hr.mono (by decide)) pass0 (pa_cons (pz 0) (pa_cons pe_int pa_nil))) pe_int (nomark _))))) pe_non (pz 4)) pa_nil)))))))) pss_nil)
    (pss_cons (ps_if (pt_cmpZ (k_eq K hr.units) (pz 1) pe_int (nomark _)) 
      (pss_one (ps_ret (pe_tz (pa_cons pe_str (pa_cons (pz 2) (pa_cons (pe_cl C__law_number (hr.mono (by decide)) pass0 (pa_cons (pz 0) pa_nil)) (pa_cons (pe_cl C__law_items (hr.mono (by decide)) pass0 (pa_cons (pz 0) (pa_cons pe_int pa_nil))) pa_nil))))))) pss_nil)
    (pss_cons (ps_if (pt_cmpZ (k_eq K hr.units) (pz 1) pe_int (nomark _)) 
      (pss_one (ps_ret (pe_tz (pa_cons pe_str (pa_cons (pz 2) (pa_cons (pe_cl C__law_number (hr.mono (by decide)) pass0 (pa_cons (pz 0) pa_nil)) (pa_cons (pe_cl C__law_token (hr.mono (by decide)) pass0 (pa_cons (pz 0) pa_nil)) (pa_cons (pe_cl C__law_items (hr.mono (by decide)) pass0 (pa_cons (pz 0) (pa_cons pe_int pa_nil))) pa_nil)))))))) pss_nil)
    (pss_cons (ps_if (pt_cmpZ (k_eq K hr.units) (pz 1) pe_int (nomark _)) 
      (pss_one (ps_ret (pe_tz (pa_cons pe_str (pa_cons (pz 2) (pa_cons (pe_cl C__law_number (hr.mono (by decide)) pass0 (pa_cons (pz 0) pa_nil)) (pa_cons (pe_cl C__law_take (hr.mono (by decide)) pass0 (pa_cons (pz 0) (pa_cons pe_int pa_nil))) pa_nil))))))) pss_nil)
    (pss_one (ps_ret (pe_tz (pa_cons pe_str (pa_cons (pe_ix (k_ix K) (pe_lz (pa_cons pe_int (pa_cons pe_int (pa_cons (pe_op o_sub (pe_op o_pow pe_int pe_int) pe_int) (pa_cons (pe_cl C__law_take (hr.mono (by decide)) pass0 (pa_cons (pz 0) (pa_cons pe_int pa_nil))) pa_nil))))) (pe_cl C__law_take (hr.mono (by decide)) pass0 (pa_cons (pz 0) (pa_cons pe_int pa_nil))) (fun _ _ => rfl)) pa_nil))))))))))), ?_⟩
  obtain ⟨b, n, i, rfl, rfl, i0, i6, hB, hn, q⟩ := h
  refine ⟨b, n, rfl, hB, by omega, fun k1 H1 t1 B1 nm1 => ?_⟩
  refine ⟨b, _, rfl, B1, by omega, fun k2 H2 t2 B2 nm2 => ?_⟩
  have t02 := t1.trans t2
  have N1 := name_S nm1
  have N2 := name_S nm2
  have fin : ∀ (p : Addr) (xs : List V) (ds : List PyData) (H3 H4 : Hp) (m : Nat), But b H H3 → BoxAt m H3 b → m ≤ n + 600 → Nw H3 p (.tup xs) H4 → Paired (Pt H3) xs ds → 2 ≤ xs.length → xs.length ≤ 5 → boxLike ds = false → cmdD (.tuple ds) = true → ((i = 1 ∨ i = 2 ∨ i = 4 → xs.length = 4) ∧ (i = 3 → xs.length = 5)) → Q (.ref p) H4 := fun p xs ds H3 H4 m t B hm n4 pp l2 l5 bx cd w =>
    q p xs ds H4 (t.free (B.ne n4.fresh).symm n4.fresh) (t.nw n4) ((B.same n4.same).mono hm) ⟨n4.here, paired_mono (fun _ _ z => z.mv (Mv.of n4.same)) pp, l2, l5, bx⟩ cd w
  refine ite2 (fun w0 => ?_) (fun w0 => ?_)
  · have w0' := vInt w0
    refine ⟨b, 2, _, rfl, rfl, by decide, by decide, B2, by omega, fun r H3 t3 B3 r0 r1 => ?_⟩
    refine ⟨by show 3 ≤ sizeLine; decide, fun p H4 n4 => ?_⟩
    refine fin p _ [.str "topic", .str (S k1), .bool _] H3 H4 _ (t02.trans t3) B3 (by omega) n4 (.cons (.inl ⟨gd_lit (by decide +kernel), rfl⟩) (.cons (.inl ⟨gd_nm nm1, rfl⟩) (.cons (.inl ⟨gd_bl _, rfl⟩) .nil))) (by show 2 ≤ 3; decide) (by show 3 ≤ 5; decide) rfl ?_ ⟨fun z => by omega, fun z => by omega⟩
    rw [c_topic N1]
    rfl
  refine ite2 (fun w1 => ?_) (fun w1 => ?_)
  · have w1' := vInt w1
    refine ⟨b, _, rfl, B2, by omega, fun k3 H3 t3 B3 nm3 => ?_⟩
    have N3 := name_S nm3
    have t03 := t02.trans t3
    have gone : ∀ (H4 : Hp) (m : Nat) (v : V) (d : PyData), But b H H4 → BoxAt m H4 b → m ≤ n + 600 → Gd H4 0 2000 v d → atomD d = true → (deadD d && neD d (.str (S k2))) = true →
        (([.str "group", .str (S k1), .str (S k2), v] : List V).length ≤ sizeLine ∧ ∀ p H5, Nw H4 p (.tup [.str "group", .str (S k1), .str (S k2), v]) H5 → Q (.ref p) H5) := fun H4 m v d t B hm g at' ok => by
      refine ⟨by show 4 ≤ sizeLine; decide, fun p H5 n5 => ?_⟩
      refine fin p _ [.str "group", .str (S k1), .str (S k2), d] H4 H5 m t B hm n5 (.cons (.inl ⟨gd_lit (by decide +kernel), rfl⟩) (.cons (.inl ⟨gd_nm nm1, rfl⟩) (.cons (.inl ⟨gd_nm nm2, rfl⟩) (.cons (.inl ⟨g, at'⟩) .nil)))) (by show 2 ≤ 4; decide) (by show 4 ≤ 5; decide) rfl ?_ ⟨fun _ => rfl, fun z => by omega⟩
      rw [c_group1 N1, N2, Bool.true_and]
      exact ok
    refine ite2 (fun e => ?_) (fun e => ?_)
    · exact gone H3 _ .non .none t03 B3 (by omega) gd_non rfl rfl
    · have e' : S k3 ≠ S k2 := fun z => e (by rw [z, decide_eq_true rfl]; rfl)
      refine ⟨b, 2, _, rfl, rfl, by decide, by decide, B3, by omega, fun r H4 t4 B4 r0 r1 => ?_⟩
      refine ite2 (fun e2 => ?_) (fun e2 => ?_)
      · exact gone H4 _ .non .none (t03.trans t4) B4 (by omega) gd_non rfl rfl
      · refine gone H4 _ (.str (S k3)) (.str (S k3)) (t03.trans t4) B4 (by omega) (gd_nm nm3) rfl ?_
        show (nameD (.str (S k3)) && decide (S k3 ≠ S k2)) = true
        rw [N3, decide_eq_true e']
        rfl
  refine ite2 (fun w2 => ?_) (fun w2 => ?_)
  · have w2' := vInt w2
    refine ⟨b, _, rfl, B2, by omega, fun x H3 t3 B3 x0 x1 => ?_⟩
    refine ⟨b, _, 1, rfl, rfl, by decide, by decide, B3, by omega, fun ip xs ds H4 fi t4 B4 hi pe l1 l4 ai => ?_⟩
    refine ⟨by show 4 ≤ sizeLine; decide, fun p H5 n5 => ?_⟩
    refine fin p _ [.str "send", .str (S k1), .int x, .tuple ds] H4 H5 _ ((t02.trans t3).trans t4) B4 (by omega) n5 (.cons (.inl ⟨gd_lit (by decide +kernel), rfl⟩) (.cons (.inl ⟨gd_nm nm1, rfl⟩) (.cons (.inl ⟨gd_int (by omega), rfl⟩) (.cons (.inr ⟨ip, xs, ds, rfl, rfl, hi, pe, l4, boxLike_items ai⟩) .nil)))) (by show 2 ≤ 4; decide) (by show 4 ≤ 5; decide) rfl ?_ ⟨fun _ => rfl, fun z => by omega⟩
    have le := paired_len pe
    rw [c_send1 N1 (within_i ⟨x0, x1⟩), sent_of (by omega) ai]
    exact decide_eq_true (by omega)
  refine ite2 (fun w3 => ?_) (fun w3 => ?_)
  · have w3' := vInt w3
    refine ⟨b, _, rfl, B2, by omega, fun x H3 t3 B3 x0 x1 => ?_⟩
    refine ⟨b, _, rfl, B3, by omega, fun tp u v H4 ft t4 B4 ht u0 u1 v0 v1 => ?_⟩
    refine ⟨b, _, 0, rfl, rfl, by decide, by decide, B4, by omega, fun ip xs ds H5 fi t5 B5 hi pe l1 l4 ai => ?_⟩
    refine ⟨by show 5 ≤ sizeLine; decide, fun p H6 n6 => ?_⟩
    have ht5 := B4.mv t5 _ _ ht tup_nobox
    have ptok : Pt H5 (.ref tp) (.tuple [.int u, .int v]) := .inr ⟨tp, _, _, rfl, rfl, ht5, .cons (.inl ⟨gd_int (by omega), rfl⟩) (.cons (.inl ⟨gd_int (by omega), rfl⟩) .nil), by show 2 ≤ 4; decide, rfl⟩
    refine fin p _ [.str "done", .str (S k1), .int x, .tuple [.int u, .int v], .tuple ds] H5 H6 _ (((t02.trans t3).trans t4).trans t5) B5 (by omega) n6 (.cons (.inl ⟨gd_lit (by decide +kernel), rfl⟩) (.cons (.inl ⟨gd_nm nm1, rfl⟩) (.cons (.inl ⟨gd_int (by omega), rfl⟩) (.cons ptok (.cons (.inr ⟨ip, xs, ds, rfl, rfl, hi, pe, l4, boxLike_items ai⟩) .nil))))) (by show 2 ≤ 5; decide) (by show 5 ≤ 5; decide) rfl ?_ ⟨fun z => by omega, fun _ => rfl⟩
    have le := paired_len pe
    rw [c_done1 N1 (within_i ⟨x0, x1⟩)]
    show ((within (.int u) 1 999999999999 && within (.int v) 1 999999999999) && (decide (ds.length ≤ 4) && ds.all itemD)) = true
    rw [within_i ⟨u0, u1⟩, within_i ⟨v0, v1⟩, ai, decide_eq_true (by omega)]
    rfl
  refine ite2 (fun w4 => ?_) (fun w4 => ?_)
  · have w4' := vInt w4
    refine ⟨b, _, rfl, B2, by omega, fun x H3 t3 B3 x0 x1 => ?_⟩
    refine ⟨b, 5, _, rfl, rfl, by decide, by decide, B3, by omega, fun r H4 t4 B4 r0 r1 => ?_⟩
    refine ⟨by show 4 ≤ sizeLine; decide, fun p H5 n5 => ?_⟩
    refine fin p _ [.str "failed", .str (S k1), .int x, .int r] H4 H5 _ ((t02.trans t3).trans t4) B4 (by omega) n5 (.cons (.inl ⟨gd_lit (by decide +kernel), rfl⟩) (.cons (.inl ⟨gd_nm nm1, rfl⟩) (.cons (.inl ⟨gd_int (by omega), rfl⟩) (.cons (.inl ⟨gd_int (by omega), rfl⟩) .nil)))) (by show 2 ≤ 4; decide) (by show 4 ≤ 5; decide) rfl ?_ ⟨fun _ => rfl, fun z => by omega⟩
    rw [c_failed1 N1 (within_i ⟨x0, x1⟩)]
    exact within_i ⟨r0, by omega⟩
  have i5 : i = 5 := by
    have a0 := vIntN w0
    have a1 := vIntN w1
    have a2 := vIntN w2
    have a3 := vIntN w3
    have a4 := vIntN w4
    omega
  refine ⟨⟨by decide, by decide, by decide⟩, ?_⟩
  refine ⟨b, 100000, _, rfl, rfl, by decide, by decide, B2, by omega, fun r H3 t3 B3 r0 r1 => ?_⟩
  refine ⟨by show 4 ≤ sizeLine; decide, fun ml H4 n4 => ?_⟩
  have B4 := B3.same n4.same
  have nb := B4.neq n4.here (fun _ _ _ _ z => by cases z)
  refine ⟨b, 4, _, rfl, rfl, by decide, by decide, B4, by omega, fun r5 H5 t5 B5 r50 r51 => ?_⟩
  have ten : ((10 : Int) ^ (12 : Int).toNat - 1) = 999999999999 := by decide
  obtain ⟨m, hm, hmem⟩ := menuI [0, 4, (10 : Int) ^ (12 : Int).toNat - 1, r] r50 r51
  rw [ten] at hmem
  simp only [List.mem_cons, List.not_mem_nil, or_false] at hmem
  refine ⟨_, .int m, .inl (SqL.of (t5.at nb n4.here)), hm, ?_⟩
  refine ⟨by show 2 ≤ sizeLine; decide, fun p H6 n6 => ?_⟩
  refine fin p _ [.str "now", .int m] H5 H6 _ (((t02.trans t3).nw n4).trans t5) B5 (by omega) n6 (.cons (.inl ⟨gd_lit (by decide +kernel), rfl⟩) (.cons (.inl ⟨gd_int (by omega), rfl⟩) .nil)) (Nat.le_refl 2) (by show 2 ≤ 5; decide) rfl ?_ ⟨fun z => by omega, fun z => by omega⟩
  rw [c_now]
  exact within_i ⟨by omega, by omega⟩

/-! ### _law_within(_law_value, _law_least, _law_most), level 1 -/
abbrev s__law_within : Stmt := top 63
abbrev N__law_within : List Str := ["_law_value", "_law_least", "_law_most"]
theorem sc__law_within : FnScope N__law_within ["_law_value", "_law_least", "_law_most"] (defScope s__law_within) := ⟨rfl, rfl, rfl, by decide +kernel, rfl, by decide +kernel, by decide +kernel⟩
theorem ok__law_within (T : Txt K mg) (D : Df K mg "_law_within" s__law_within ["_law_value", "_law_least", "_law_most"]) : Ct P w K mg base CX0 1 "_law_within" ["_law_value", "_law_least", "_law_most"] (sp__law_within K) := by
  refine ct3 D sc__law_within fun f cdv A outer s H a_value a_least a_most Q E hr h => ⟨_, (pss_one (ps_ret (pe_andZ (pe_callB (k_isi K) (by rfl) T.n_isinstance bt_isinstance (pa_cons (pz 0) (pa_cons (pe_bltn (v := .ty "int") (by rfl) T.n_int bt_int rfl) pa_nil))) (pe_andZ (pe_notZ (pe_callB (k_isi K) (by rfl) T.n_isinstance bt_isinstance (pa_cons (pz 0) (pa_cons (pe_bltn (v := .ty "bool") (by rfl) T.n_bool bt_bool rfl) pa_nil)))) (pe_one (pe_chZ (pe_chain (opr_mon o_le) o_le (pe_mon (pz 1)) (pe_mon (pz 0)) (pz 2)))))))), ?_⟩
  obtain ⟨d, i, j, hd, rfl, rfl, q⟩ := h
  refine ⟨by decide, kindD d, hd.kind, ?_⟩
  cases d with
  | bool b =>
    refine ⟨by decide, _, hd.kind, ?_⟩
    exact q
  | int k =>
    obtain rfl := hd.int
    refine ⟨by decide, _, hd.kind, ?_⟩
    exact within_ch (P := fun v => Q v H) q
  | _ => exact q

/-! ### _law_is_name(_law_value), level 1 -/
abbrev s__law_is_name : Stmt := top 64
abbrev N__law_is_name : List Str := ["_law_value", "_law_sign"]
theorem sc__law_is_name : FnScope N__law_is_name ["_law_value"] (defScope s__law_is_name) := ⟨rfl, rfl, rfl, by decide +kernel, rfl, by decide +kernel, by decide +kernel⟩
theorem ok__law_is_name (T : Txt K mg) (D : Df K mg "_law_is_name" s__law_is_name ["_law_value"]) : Ct P w K mg base CX0 1 "_law_is_name" ["_law_value"] (sp__law_is_name K) := by
  refine ct1 D sc__law_is_name fun f cdv A outer s H a_value Q E hr h => ⟨_, (pss_cons (ps_if (PW.pt (pw_or (pt_not (pt_trK K (pe_callB (k_isi K) (by rfl) T.n_isinstance bt_isinstance (pa_cons (pz 0) (pa_cons (pe_bltn (v := .ty "str") (by rfl) T.n_str bt_str rfl) pa_nil))))) (pw_or (pt_cmpZ o_ltS (pe_callB (k_len K) (by rfl) T.n_len bt_len (pa_cons (pz 0) pa_nil)) pe_int (nomark _)) (pw_or1 (pt_cmpZ o_gtS (pe_callB (k_len K) (by rfl) T.n_len bt_len (pa_cons (pz 0) pa_nil)) pe_int (nomark _)))))) 
      (pss_one (ps_ret pe_bl)) pss_nil)
    (pss_one (ps_ret (pe_cmpR (k_eq K hr.units) (pe_lcz (own := [("_law_sign", 1)]) (by rfl) sc__law_is_name.nd (pi_sz (pz 0)) (blkOk_by (own := [("_law_sign", 1)]) (N := N__law_is_name) (sc := defScope s__law_is_name) (by decide +kernel)) (fun _ _ _ _ _ => (pg_name (i := 1) sc__law_is_name.nd rfl (Or.inl rfl))) (fun _ _ _ _ _ => (pts_one (pt_cmpZ (k_nin K) (pz 1) pe_str (by rfl)))) (fun _ _ _ _ _ => (pz 1))) (pe_lz pa_nil) (nomark _))))), ?_⟩
  obtain ⟨d, hd, ha, q⟩ := h
  refine ⟨by decide, kindD d, hd.kind, ?_⟩
  cases d with
  | str x =>
    obtain rfl := hd.str
    have hz := (Bool.and_eq_true _ _ ▸ ha : asciiS x = true ∧ _)
    have hx : x.length ≤ 100000 := of_decide_eq_true hz.2
    have hlen : x.length = x.cps.toList.length := by rw [Array.length_toList]; rfl
    refine ⟨sz (by omega), ?_⟩
    refine ite2 (fun h1 => ?_) (fun h1 => ?_)
    · have h1' : (x.length : Int) < 1 := dT h1
      have e : nameD (.str x) = false := by
        show (decide (1 ≤ x.length) && decide (x.length ≤ 8) && lowS x) = false
        rw [decide_eq_false (p := 1 ≤ x.length) (by omega)]
        rfl
      rw [e] at q
      exact q H (Same.refl H)
    have h1' : ¬ (x.length : Int) < 1 := dF h1
    refine ⟨sz (by omega), ?_⟩
    refine ite2 (fun h8 => ?_) (fun h8 => ?_)
    · have h8' : (x.length : Int) > 8 := dT h8
      have e : nameD (.str x) = false := by
        show (decide (1 ≤ x.length) && decide (x.length ≤ 8) && lowS x) = false
        rw [decide_eq_false (p := x.length ≤ 8) (by omega), Bool.and_false]
        rfl
      rw [e] at q
      exact q H (Same.refl H)
    · have h8' : ¬ (x.length : Int) > 8 := dF h8

      refine fun D hD => lc_w (wk_str x) (by rw [signsV_len]; omega) (fun i acc H3 => Same H H3 ∧ acc = ((x.cps.toList.take i).filter fun c => !low c).map signV) (fun H3 n3 => ⟨n3.same, rfl⟩) (fun _ _ _ _ => trivial)
        (fun i acc H3 p => by rw [p.2, List.length_map]; exact Nat.le_trans (List.length_filter_le _ _) (by rw [List.length_take]; omega)) ?_ ?_
      · rintro i y acc H3 hx' hD3 ⟨s3, rfl⟩
        obtain ⟨c, hc, rfl⟩ := signsV_at hx'
        refine ⟨rfl, ?_⟩
        refine ⟨c, rfl, ?_⟩
        rw [low_in, filter_step hc]
        cases e : low c with
        | true => exact ⟨hD3, s3, by simp⟩
        | false => exact ⟨hD3, fun H5 w5 => ⟨s3.wr hD w5, by simp⟩⟩
      · rintro acc H3 _ hD3 ⟨s3, rfl⟩
        rw [signsV_len, hlen, List.take_length] at hD3
        have dg : (x.cps.toList.filter fun c => !low c).isEmpty = x.cps.toList.all low := filter_none _
        have lt : ∀ c ∈ x.cps.toList.filter (fun c => !low c), c < 128 := fun c hc => lt_of_ascii hz.1 (List.mem_filter.mp hc).1
        generalize x.cps.toList.filter (fun c => !low c) = bads at hD3 dg lt
        rw [signs_strs] at hD3
        refine ⟨Nat.zero_le _, fun p H4 n4 => ?_⟩
        refine ⟨_, _, dp_strs (SqL.of (n4.keep hD3)), dp_strs (ls := []) (SqL.of n4.here), shaped_asc lt, shaped_asc (cs := []) (fun _ z => by cases z), ?_⟩
        rw [eqv_strs_nil, dg]
        have e : nameD (.str x) = x.cps.toList.all low := by
          show (decide (1 ≤ x.length) && decide (x.length ≤ 8) && lowS x) = _
          rw [decide_eq_true (p := 1 ≤ x.length) (by omega), decide_eq_true (p := x.length ≤ 8) (by omega)]
          rfl
        rw [e] at q
        rw [← Bool.false_xor (x.cps.toList.all _)] at q
        exact q _ (s3.trans n4.same)
  | _ => exact q H (Same.refl H)

/-! ### _law_is_body(_law_value), level 1 -/
abbrev s__law_is_body : Stmt := top 65
abbrev N__law_is_body : List Str := ["_law_value", "_law_sign"]
theorem sc__law_is_body : FnScope N__law_is_body ["_law_value"] (defScope s__law_is_body) := ⟨rfl, rfl, rfl, by decide +kernel, rfl, by decide +kernel, by decide +kernel⟩
theorem ok__law_is_body (T : Txt K mg) (D : Df K mg "_law_is_body" s__law_is_body ["_law_value"]) : Ct P w K mg base CX0 1 "_law_is_body" ["_law_value"] (sp__law_is_body K) := by
  refine ct1 D sc__law_is_body fun f cdv A outer s H a_value Q E hr h => ⟨_, (pss_cons (ps_if (PW.pt (pw_or (pt_not (pt_trK K (pe_callB (k_isi K) (by rfl) T.n_isinstance bt_isinstance (pa_cons (pz 0) (pa_cons (pe_bltn (v := .ty "str") (by rfl) T.n_str bt_str rfl) pa_nil))))) (pw_or1 (pt_cmpZ o_gtS (pe_callB (k_len K) (by rfl) T.n_len bt_len (pa_cons (pz 0) pa_nil)) pe_int (nomark _))))) 
      (pss_one (ps_ret pe_bl)) pss_nil)
    (pss_one (ps_ret (pe_cmpR (k_eq K hr.units) (pe_lcz (own := [("_law_sign", 1)]) (by rfl) sc__law_is_body.nd (pi_sz (pz 0)) (blkOk_by (own := [("_law_sign", 1)]) (N := N__law_is_body) (sc := defScope s__law_is_body) (by decide +kernel)) (fun _ _ _ _ _ => (pg_name (i := 1) sc__law_is_body.nd rfl (Or.inl rfl))) (fun _ _ _ _ _ => (pts_one (PW.pt (pw_or (pt_cmpZ o_ltS (pz 1) pe_str (nomark _)) (pw_or1 (pt_cmpZ o_gtS (pz 1) pe_str (nomark _))))))) (fun _ _ _ _ _ => (pz 1))) (pe_lz pa_nil) (nomark _))))), ?_⟩
  obtain ⟨d, hd, ha, q⟩ := h
  refine ⟨by decide, kindD d, hd.kind, ?_⟩
  cases d with
  | str x =>
    obtain rfl := hd.str
    have hz := (Bool.and_eq_true _ _ ▸ ha : asciiS x = true ∧ _)
    have hx : x.length ≤ 100000 := of_decide_eq_true hz.2
    have hlen : x.length = x.cps.toList.length := by rw [Array.length_toList]; rfl
    refine ⟨sz (by omega), ?_⟩
    refine ite2 (fun h1 => ?_) (fun h1 => ?_)
    · have h1' : (x.length : Int) > 40 := dT h1
      have e : plainD 40 (.str x) = false := by
        show (prS x && decide (x.length ≤ 40)) = false
        rw [decide_eq_false (p := x.length ≤ 40) (by omega), Bool.and_false]
      rw [e] at q
      exact q H (Same.refl H)
    · have h1' : ¬ (x.length : Int) > 40 := dF h1

      refine fun D hD => lc_w (wk_str x) (by rw [signsV_len]; omega) (fun i acc H3 => Same H H3 ∧ acc = ((x.cps.toList.take i).filter fun c => !prt c).map signV) (fun H3 n3 => ⟨n3.same, rfl⟩) (fun _ _ _ _ => trivial)
        (fun i acc H3 p => by rw [p.2, List.length_map]; exact Nat.le_trans (List.length_filter_le _ _) (by rw [List.length_take]; omega)) ?_ ?_
      · rintro i y acc H3 hx' hD3 ⟨s3, rfl⟩
        obtain ⟨c, hc, rfl⟩ := signsV_at hx'
        refine ⟨rfl, ?_⟩
        rw [filter_step hc]
        refine ite2 (fun h => ?_) (fun h => ?_)
        · have h' : c < 32 := lt_sp.mp (dT h)
          have e : prt c = false := by
            unfold prt
            rw [decide_eq_false (by omega)]
            rfl
          rw [e]
          exact ⟨hD3, fun H5 w5 => ⟨s3.wr hD w5, by simp⟩⟩
        · have h' : ¬ c < 32 := fun z => dF h (lt_sp.mpr z)
          refine ite2 (fun h => ?_) (fun h => ?_)
          · have h2 : 126 < c := gt_tl.mp (dT h)
            have e : prt c = false := by
              unfold prt
              rw [decide_eq_false (p := c ≤ 126) (by omega), Bool.and_false]
            rw [e]
            exact ⟨hD3, fun H5 w5 => ⟨s3.wr hD w5, by simp⟩⟩
          · have h2 : ¬ 126 < c := fun z => dF h (gt_tl.mpr z)
            have e : prt c = true := by
              unfold prt
              rw [decide_eq_true (p := 32 ≤ c) (by omega), decide_eq_true (p := c ≤ 126) (by omega)]
              rfl
            rw [e]
            exact ⟨hD3, s3, by simp⟩
      · rintro acc H3 _ hD3 ⟨s3, rfl⟩
        rw [signsV_len, hlen, List.take_length] at hD3
        have dg : (x.cps.toList.filter fun c => !prt c).isEmpty = x.cps.toList.all prt := filter_none _
        have lt : ∀ c ∈ x.cps.toList.filter (fun c => !prt c), c < 128 := fun c hc => lt_of_ascii hz.1 (List.mem_filter.mp hc).1
        generalize x.cps.toList.filter (fun c => !prt c) = bads at hD3 dg lt
        rw [signs_strs] at hD3
        refine ⟨Nat.zero_le _, fun p H4 n4 => ?_⟩
        refine ⟨_, _, dp_strs (SqL.of (n4.keep hD3)), dp_strs (ls := []) (SqL.of n4.here), shaped_asc lt, shaped_asc (cs := []) (fun _ z => by cases z), ?_⟩
        rw [eqv_strs_nil, dg]
        have e : plainD 40 (.str x) = x.cps.toList.all prt := by
          show (prS x && decide (x.length ≤ 40)) = _
          rw [decide_eq_true (p := x.length ≤ 40) (by omega), Bool.and_true]
          rfl
        rw [e] at q
        rw [← Bool.false_xor (x.cps.toList.all _)] at q
        exact q _ (s3.trans n4.same)
  | _ => exact q H (Same.refl H)

/-! ### _law_is_item(_law_value), level 2 -/
abbrev s__law_is_item : Stmt := top 67
abbrev N__law_is_item : List Str := ["_law_value"]
theorem sc__law_is_item : FnScope N__law_is_item ["_law_value"] (defScope s__law_is_item) := ⟨rfl, rfl, rfl, by decide +kernel, rfl, by decide +kernel, by decide +kernel⟩
theorem ok__law_is_item (T : Txt K mg) (C__law_is_body : Ct P w K mg base CX0 1 "_law_is_body" ["_law_value"] (sp__law_is_body K)) (C__law_is_name : Ct P w K mg base CX0 1 "_law_is_name" ["_law_value"] (sp__law_is_name K)) (C__law_within : Ct P w K mg base CX0 1 "_law_within" ["_law_value", "_law_least", "_law_most"] (sp__law_within K)) (D : Df K mg "_law_is_item" s__law_is_item ["_law_value"]) : Ct P w K mg base CX0 2 "_law_is_item" ["_law_value"] (sp__law_is_item K) := by
  refine ct1 D sc__law_is_item fun f cdv A outer s H a_value Q E hr h => ⟨_, (pss_cons (ps_if (PW.pt (pw_or (pt_not (pt_trK K (pe_callB (k_isi K) (by rfl) T.n_isinstance bt_isinstance (pa_cons (pz 0) (pa_cons (pe_bltn (v := .ty "tuple") (by rfl) T.n_tuple bt_tuple rfl) pa_nil))))) (pw_or1 (pt_cmpZ (k_ne K hr.units) (pe_callB (k_len K) (by rfl) T.n_len bt_len (pa_cons (pz 0) pa_nil)) pe_int (nomark _))))) 
      (pss_one (ps_ret pe_bl)) pss_nil)
    (pss_cons (ps_if (PW.pt (pw_or (pt_not (pt_trK K (pe_cl C__law_is_name (hr.mono (by decide)) pass0 (pa_cons (pe_ix (k_ix K) (pz 0) pe_int (fun _ _ => rfl)) pa_nil)))) (pw_or (pt_not (pt_trK K (pe_cl C__law_is_name (hr.mono (by decide)) pass0 (pa_cons (pe_ix (k_ix K) (pz 0) pe_int (fun _ _ => rfl)) pa_nil)))) (pw_or1 (pt_not (pt_trK K (pe_cl C__law_is_body (hr.mono (by decide)) pass0 (pa_cons (pe_ix (k_ix K) (pz 0) pe_int (fun _ _ => rfl)) pa_nil)))))))) 
      (pss_one (ps_ret pe_bl)) pss_nil)
    (pss_one (ps_ret (pe_andZ (pe_cl C__law_within (hr.mono (by decide)) pass0 (pa_cons (pe_ix (k_ix K) (pz 0) pe_int (fun _ _ => rfl)) (pa_cons pe_int (pa_cons pe_int pa_nil)))) (pe_andZ (pe_cl C__law_within (hr.mono (by decide)) pass0 (pa_cons (pe_ix (k_ix K) (pz 0) pe_int (fun _ _ => rfl)) (pa_cons pe_int (pa_cons pe_int pa_nil)))) (pe_one (pe_cl C__law_within (hr.mono (by decide)) pass0 (pa_cons (pe_ix (k_ix K) (pz 0) pe_int (fun _ _ => rfl)) (pa_cons pe_int (pa_cons pe_int pa_nil))))))))))), ?_⟩
  obtain ⟨d, hd, ha, q⟩ := h
  refine ⟨by decide, kindD d, hd.kind, ?_⟩
  cases d with
  | tuple ds =>
    obtain ⟨g, hd⟩ := hd
    cases hd with
    | @tup a xs _ h hx =>
      have ll := DzAll.len hx
      refine .inl ⟨_, .inr (SqT.of h), ?_⟩
      rcases Nat.decEq xs.length 6 with e | e
      · rw [item_len (by omega)] at q
        exact iteY (int_ne (k := 6) e) (q H (Same.refl H))
      · obtain ⟨x0, x1, x2, x3, x4, x5, rfl⟩ := six_of e
        cases hx with
        | @cons _ _ d0 _ h0 hx =>
        cases hx with
        | @cons _ _ d1 _ h1 hx =>
        cases hx with
        | @cons _ _ d2 _ h2 hx =>
        cases hx with
        | @cons _ _ d3 _ h3 hx =>
        cases hx with
        | @cons _ _ d4 _ h4 hx =>
        cases hx with
        | @cons _ _ d5 _ h5 hx =>
        cases hx
        have ha : (asc1 d0 && (asc1 d1 && (asc1 d2 && (asc1 d3 && (asc1 d4 && (asc1 d5 && true)))))) = true := ha
        simp only [Bool.and_eq_true] at ha
        obtain ⟨a0, a1, a2, _⟩ := ha
        have q : ∀ H2, Same H H2 → Q (.bl (nameD d0 && nameD d1 && plainD 40 d2 && within d3 0 3 && within d4 0 50 && within d5 0 50)) H2 := q
        refine ⟨_, x0, .inr (SqT.of h), rfl, ?_⟩
        refine ⟨d0, ⟨g, h0⟩, a0, fun H2 s2 => ?_⟩
        cases e0 : nameD d0 with
        | false =>
          rw [e0] at q
          exact q _ s2
        | true =>
        refine ⟨_, x1, .inr (SqT.of (s2 _ _ h)), rfl, ?_⟩
        refine ⟨d1, ⟨g, Dz.same s2 h1⟩, a1, fun H3 s3 => ?_⟩
        have s13 := s2.trans s3
        cases e1 : nameD d1 with
        | false =>
          rw [e0, e1] at q
          exact q _ s13
        | true =>
        refine ⟨_, x2, .inr (SqT.of (s13 _ _ h)), rfl, ?_⟩
        refine ⟨d2, ⟨g, Dz.same s13 h2⟩, a2, fun H4 s4 => ?_⟩
        have s14 := s13.trans s4
        have h14 := s14 _ _ h
        cases e2 : plainD 40 d2 with
        | false =>
          rw [e0, e1, e2] at q
          exact q _ s14
        | true =>
        rw [e0, e1, e2] at q
        refine ⟨_, x3, .inr (SqT.of h14), rfl, ?_⟩
        refine ⟨d3, 0, 3, ⟨g, Dz.same s14 h3⟩, rfl, rfl, ?_⟩
        cases e3 : within d3 0 3 with
        | false =>
          rw [e3] at q
          exact q _ s14
        | true =>
        rw [e3] at q
        refine ⟨_, x4, .inr (SqT.of h14), rfl, ?_⟩
        refine ⟨d4, 0, 50, ⟨g, Dz.same s14 h4⟩, rfl, rfl, ?_⟩
        cases e4 : within d4 0 50 with
        | false =>
          rw [e4] at q
          exact q _ s14
        | true =>
        rw [e4] at q
        refine ⟨_, x5, .inr (SqT.of h14), rfl, ?_⟩
        exact ⟨d5, 0, 50, ⟨g, Dz.same s14 h5⟩, rfl, rfl, q _ s14⟩
  | _ => exact q H (Same.refl H)

/-! ### _law_are_items(_law_value, _law_least), level 3 -/
abbrev s__law_are_items : Stmt := top 72
abbrev N__law_are_items : List Str := ["_law_value", "_law_least", "_law_item_here"]
theorem sc__law_are_items : FnScope N__law_are_items ["_law_value", "_law_least"] (defScope s__law_are_items) := ⟨rfl, rfl, rfl, by decide +kernel, rfl, by decide +kernel, by decide +kernel⟩
theorem ok__law_are_items (T : Txt K mg) (C__law_is_item : Ct P w K mg base CX0 2 "_law_is_item" ["_law_value"] (sp__law_is_item K)) (D : Df K mg "_law_are_items" s__law_are_items ["_law_value", "_law_least"]) : Ct P w K mg base CX0 3 "_law_are_items" ["_law_value", "_law_least"] (sp__law_are_items K) := by
  refine ct2 D sc__law_are_items fun f cdv A outer s H a_value a_least Q E hr h => ⟨_, (pss_cons (ps_if (PW.pt (pw_or (pt_not (pt_trK K (pe_callB (k_isi K) (by rfl) T.n_isinstance bt_isinstance (pa_cons (pz 0) (pa_cons (pe_bltn (v := .ty "tuple") (by rfl) T.n_tuple bt_tuple rfl) pa_nil))))) (pw_or (pt_cmpZ o_ltS (pe_callB (k_len K) (by rfl) T.n_len bt_len (pa_cons (pz 0) pa_nil)) (pz 1) (nomark _)) (pw_or1 (pt_cmpZ o_gtS (pe_callB (k_len K) (by rfl) T.n_len bt_len (pa_cons (pz 0) pa_nil)) pe_int (nomark _)))))) 
      (pss_one (ps_ret pe_bl)) pss_nil)
    (pss_one (ps_ret (pe_cmpR (k_eqE K hr.units) (pe_lcz (own := [("_law_item_here", 2)]) (by rfl) sc__law_are_items.nd (pi_tzK K (pz 0)) (blkOk_by (own := [("_law_item_here", 2)]) (N := N__law_are_items) (sc := defScope s__law_are_items) (by decide +kernel)) (fun _ _ _ _ _ => (pg_name (i := 2) sc__law_are_items.nd rfl (Or.inl rfl))) (fun _ _ _ _ _ => (pts_one (pt_not (pt_trK K (pe_cl C__law_is_item (hr.mono (by decide)) pass0 (pa_cons (pz 2) pa_nil)))))) (fun _ _ _ _ _ => (pz 2))) (pe_lz pa_nil) (nomark _))))), ?_⟩
  obtain ⟨d, hd, ha, q⟩ := h
  refine ⟨by decide, kindD d, hd.kind, ?_⟩
  have no : madeD d = false → ∀ H2, Same H H2 → Q (.bl false) H2 := fun e H2 s2 => by
    rcases q with ⟨_, q⟩ | ⟨_, q⟩
    · rw [e] at q
      exact q _ s2
    · rw [made_sent e] at q
      exact q _ s2
  cases d with
  | tuple ds =>
    obtain ⟨g, hd⟩ := hd
    cases hd with
    | @tup a xs _ h hx =>
    have ll := DzAll.len hx
    refine .inl ⟨_, .inr (SqT.of h), ?_⟩
    obtain ⟨m, hm, least⟩ : ∃ m : Int, a_least = .int m ∧ ((m ≤ xs.length → ds.length ≤ 4 → ∀ H2, Same H H2 → Q (.bl (ds.all itemD)) H2) ∧ (¬ m ≤ xs.length → Q (.bl false) H)) := by
      rcases q with ⟨rfl, q⟩ | ⟨rfl, q⟩
      · refine ⟨0, rfl, fun _ l4 H2 s2 => ?_, fun z => absurd (by omega) z⟩
        have e : madeD (.tuple ds) = ds.all itemD := by
          show (decide (ds.length ≤ 4) && ds.all itemD) = _
          rw [decide_eq_true l4]
          rfl
        rw [e] at q
        exact q _ s2
      · refine ⟨1, rfl, fun z l4 H2 s2 => ?_, fun z => ?_⟩
        · have e : sentD (.tuple ds) = ds.all itemD := by
            show (decide (1 ≤ ds.length) && (decide (ds.length ≤ 4) && ds.all itemD)) = _
            rw [decide_eq_true l4, decide_eq_true (by omega)]
            rfl
          rw [e] at q
          exact q _ s2
        · have e : sentD (.tuple ds) = false := by
            show (decide (1 ≤ ds.length) && (decide (ds.length ≤ 4) && ds.all itemD)) = false
            rw [decide_eq_false (p := 1 ≤ ds.length) (by omega)]
            rfl
          rw [e] at q
          exact q _ (Same.refl H)
    subst hm
    refine ite2 (fun hc => ?_) (fun hc => ?_)
    · have hc' := dT hc
      exact least.2 (by omega)
    have hc' := dF hc
    refine .inl ⟨_, .inr (SqT.of h), ?_⟩
    refine ite2 (fun hc2 => ?_) (fun hc2 => ?_)
    · have hc3 := dT hc2
      refine no ?_ _ (Same.refl H)
      show (decide (ds.length ≤ 4) && ds.all itemD) = false
      rw [decide_eq_false (by omega)]
      rfl
    have hc3 := dF hc2
    refine ⟨⟨_, SqT.of h⟩, ?_⟩
    refine fun D hD => lc_w (wk_tup xs) (by omega) (fun i acc H3 => Same H H3 ∧ acc.length ≤ i ∧ acc.isEmpty = (ds.take i).all itemD) (fun H3 n3 => ⟨n3.same, Nat.le_refl _, rfl⟩) (fun i acc H3 z => SqT.of (z.1 _ _ h))
      (fun i acc H3 z => z.2.1) ?_ ?_
    · rintro i x acc H3 hx' hD3 ⟨s3, la, ea⟩
      obtain ⟨di, hdi, vi⟩ := dz_at hx hx'
      refine ⟨rfl, ?_⟩
      refine ⟨di, ⟨g, Dz.same s3 vi⟩, asc_of (ascAll_mem ha di (List.mem_of_getElem? hdi)), fun H4 s4 => ?_⟩
      have hD4 := s4 _ _ hD3
      have e5 : (ds.take (i + 1)).all itemD = ((ds.take i).all itemD && itemD di) := by
        rw [List.take_add_one, hdi, List.all_append]
        simp
      cases e : itemD di with
      | true =>
        refine ⟨hD4, s3.trans s4, by omega, ?_⟩
        rw [e5, e, Bool.and_true]
        exact ea
      | false =>
        refine ⟨hD4, fun H5 w5 => ⟨(s3.trans s4).wr hD w5, by rw [List.length_append]; show _ + 1 ≤ _; omega, ?_⟩⟩
        rw [e5, e, Bool.and_false]
        cases acc <;> rfl
    · rintro acc H3 _ hD3 ⟨s3, la, ea⟩
      refine ⟨Nat.zero_le _, fun p H4 n4 => ?_⟩
      refine .inl ⟨acc, n4.keep hD3, n4.here, ?_⟩
      rw [ea, ll, List.take_length]
      exact least.1 (by omega) (by omega) _ (s3.trans n4.same)
  | _ => exact no rfl _ (Same.refl H)

/-! ### _law_is_token(_law_value), level 2 -/
abbrev s__law_is_token : Stmt := top 66
abbrev N__law_is_token : List Str := ["_law_value"]
theorem sc__law_is_token : FnScope N__law_is_token ["_law_value"] (defScope s__law_is_token) := ⟨rfl, rfl, rfl, by decide +kernel, rfl, by decide +kernel, by decide +kernel⟩
theorem ok__law_is_token (T : Txt K mg) (C__law_within : Ct P w K mg base CX0 1 "_law_within" ["_law_value", "_law_least", "_law_most"] (sp__law_within K)) (D : Df K mg "_law_is_token" s__law_is_token ["_law_value"]) : Ct P w K mg base CX0 2 "_law_is_token" ["_law_value"] (sp__law_is_token K) := by
  refine ct1 D sc__law_is_token fun f cdv A outer s H a_value Q E hr h => ⟨_, (pss_cons (ps_if (PW.pt (pw_or (pt_not (pt_trK K (pe_callB (k_isi K) (by rfl) T.n_isinstance bt_isinstance (pa_cons (pz 0) (pa_cons (pe_bltn (v := .ty "tuple") (by rfl) T.n_tuple bt_tuple rfl) pa_nil))))) (pw_or1 (pt_cmpZ (k_ne K hr.units) (pe_callB (k_len K) (by rfl) T.n_len bt_len (pa_cons (pz 0) pa_nil)) pe_int (nomark _))))) 
      (pss_one (ps_ret pe_bl)) pss_nil)
    (pss_one (ps_ret (pe_andZ (pe_cl C__law_within (hr.mono (by decide)) pass0 (pa_cons (pe_ix (k_ix K) (pz 0) pe_int (fun _ _ => rfl)) (pa_cons pe_int (pa_cons (pe_op o_sub (pe_op o_pow pe_int pe_int) pe_int) pa_nil)))) (pe_one (pe_cl C__law_within (hr.mono (by decide)) pass0 (pa_cons (pe_ix (k_ix K) (pz 0) pe_int (fun _ _ => rfl)) (pa_cons pe_int (pa_cons (pe_op o_sub (pe_op o_pow pe_int pe_int) pe_int) pa_nil))))))))), ?_⟩
  obtain ⟨d, hd, q⟩ := h
  refine ⟨by decide, kindD d, hd.kind, ?_⟩
  cases d with
  | tuple ds =>
    obtain ⟨g, hd⟩ := hd
    cases hd with
    | @tup a xs _ h hx =>
      have ll := DzAll.len hx
      refine .inl ⟨_, .inr (SqT.of h), ?_⟩
      rcases Nat.decEq xs.length 2 with e | e
      · rw [token_len (by omega)] at q
        exact iteY (int_ne (k := 2) e) q
      · obtain ⟨x0, x1, rfl⟩ := two_of e
        cases hx with
        | @cons _ _ d0 _ h0 hx =>
        cases hx with
        | @cons _ _ d1 _ h1 hx =>
        cases hx
        have q : Q (.bl (within d0 1 999999999999 && within d1 1 999999999999)) H := q
        refine ⟨_, x0, .inr (SqT.of h), rfl, ?_⟩
        refine ⟨⟨by decide, by decide, by decide⟩, ?_⟩
        refine ⟨d0, 1, _, ⟨g, h0⟩, rfl, rfl, ?_⟩
        rw [show ((10 : Int) ^ (12 : Int).toNat - 1) = 999999999999 by decide]
        cases e0 : within d0 1 999999999999 with
        | false =>
          rw [e0] at q
          exact q
        | true =>
          rw [e0] at q
          refine ⟨_, x1, .inr (SqT.of h), rfl, ?_⟩
          refine ⟨⟨by decide, by decide, by decide⟩, ?_⟩
          exact ⟨d1, 1, _, ⟨g, h1⟩, rfl, rfl, q⟩
  | _ => exact q

/-! ### _law_is_command(_law_value), level 4 -/
abbrev s__law_is_command : Stmt := top 73
abbrev N__law_is_command : List Str := ["_law_value", "_law_word", "_law_many", "_law_most"]
theorem sc__law_is_command : FnScope N__law_is_command ["_law_value"] (defScope s__law_is_command) := ⟨rfl, rfl, rfl, by decide +kernel, rfl, by decide +kernel, by decide +kernel⟩
theorem ok__law_is_command (T : Txt K mg) (C__law_within : Ct P w K mg base CX0 1 "_law_within" ["_law_value", "_law_least", "_law_most"] (sp__law_within K)) (C__law_is_name : Ct P w K mg base CX0 1 "_law_is_name" ["_law_value"] (sp__law_is_name K)) (C__law_are_items : Ct P w K mg base CX0 3 "_law_are_items" ["_law_value", "_law_least"] (sp__law_are_items K)) (C__law_is_token : Ct P w K mg base CX0 2 "_law_is_token" ["_law_value"] (sp__law_is_token K)) (D : Df K mg "_law_is_command" s__law_is_command ["_law_value"]) : Ct P w K mg base CX0 4 "_law_is_command" ["_law_value"] (sp__law_is_command K) := by
  refine ct1 D sc__law_is_command fun f cdv A outer s H a_value Q E hr h => ⟨_, (pss_cons (ps_if (PW.pt (pw_or (pt_not (pt_trK K (pe_callB (k_isi K) (by rfl) T.n_isinstance bt_isinstance (pa_cons (pz 0) (pa_cons (pe_bltn (v := .ty "tuple") (by rfl) T.n_tuple bt_tuple rfl) pa_nil))))) (pw_or1 (pt_cmpZ o_ltS (pe_callB (k_len K) (by rfl) T.n_len bt_len (pa_cons (pz 0) pa_nil)) pe_int (nomark _))))) 
      (pss_one (ps_ret pe_bl)) pss_nil)
    (pss_cons (ps_par3 (i := 1) (j := 2) (l := 3) (by rfl) sc__law_is_command.nd rfl rfl rfl (by decide) (by decide) (by decide) rfl rfl rfl (pa_cons (pe_ix (k_ix K) (pz 0) pe_int (fun _ _ => rfl)) (pa_cons (pe_callB (k_len K) (by rfl) T.n_len bt_len (pa_cons (pz 0) pa_nil)) (pa_cons (pe_op o_sub (pe_op o_pow pe_int pe_int) pe_int) pa_nil))) (by rfl))
    (pss_cons (ps_if (pt_cmpZ (k_eqT K hr.units) (pz 1) pe_str (nomark _)) 
      (pss_one (ps_ret (pe_andZ (pe_cmpR (k_eqT K hr.units) (pz 2) pe_int (nomark _)) (pe_one (pe_cl C__law_within (hr.mono (by decide)) pass0 (pa_cons (pe_ix (k_ix K) (pz 0) pe_int (fun _ _ => rfl)) (pa_cons pe_int (pa_cons (pz 3) pa_nil)))))))) pss_nil)
    (pss_cons (ps_if (PW.pt (pw_or (pt_not (pt_trK K (pe_cl C__law_is_name (hr.mono (by decide)) pass0 (pa_cons (pe_ix (k_ix K) (pz 0) pe_int (fun _ _ => rfl)) pa_nil)))) (pw_or1 (pt_cmpZ o_ltS (pz 2) pe_int (nomark _))))) 
      (pss_one (ps_ret pe_bl)) pss_nil)
    (pss_cons (ps_if (pt_cmpZ (k_eqT K hr.units) (pz 1) pe_str (nomark _)) 
      (pss_one (ps_ret (pe_andZ (pe_cmpR (k_eqT K hr.units) (pz 2) pe_int (nomark _)) (pe_one (pe_callB (k_isi K) (by rfl) T.n_isinstance bt_isinstance (pa_cons (pe_ix (k_ix K) (pz 0) pe_int (fun _ _ => rfl)) (pa_cons (pe_bltn (v := .ty "bool") (by rfl) T.n_bool bt_bool rfl) pa_nil))))))) pss_nil)
    (pss_cons (ps_if (pt_cmpZ (k_eqT K hr.units) (pz 1) pe_str (nomark _)) 
      (pss_cons (ps_if (PW.pt (pw_or (pt_cmpZ (k_ne K hr.units) (pz 2) pe_int (nomark _)) (pw_or1 (pt_not (pt_trK K (pe_cl C__law_is_name (hr.mono (by decide)) pass0 (pa_cons (pe_ix (k_ix K) (pz 0) pe_int (fun _ _ => rfl)) pa_nil))))))) 
        (pss_one (ps_ret pe_bl)) pss_nil)
      (pss_one (ps_ret (pe_orZ (pe_cmpR o_is (pe_ix (k_ix K) (pz 0) pe_int (fun _ _ => rfl)) pe_non (nomark _)) (pe_one (pe_andZ (pe_cl C__law_is_name (hr.mono (by decide)) pass0 (pa_cons (pe_ix (k_ix K) (pz 0) pe_int (fun _ _ => rfl)) pa_nil)) (pe_one (pe_cmpR (k_ne K hr.units) (pe_ix (k_ix K) (pz 0) pe_int (fun _ _ => rfl)) (pe_ix (k_ix K) (pz 0) pe_int (fun _ _ => rfl)) (nomark _))))))))) pss_nil)
    (pss_cons (ps_if (pt_not (pt_trK K (pe_cl C__law_within (hr.mono (by decide)) pass0 (pa_cons (pe_ix (k_ix K) (pz 0) pe_int (fun _ _ => rfl)) (pa_cons pe_int (pa_cons (pz 3) pa_nil)))))) 
      (pss_one (ps_ret pe_bl)) pss_nil)
    (pss_cons (ps_if (pt_cmpZ (k_eqT K hr.units) (pz 1) pe_str (nomark _)) 
      (pss_one (ps_ret (pe_andZ (pe_cmpR (k_eqT K hr.units) (pz 2) pe_int (nomark _)) (pe_one (pe_cl C__law_are_items (hr.mono (by decide)) pass0 (pa_cons (pe_ix (k_ix K) (pz 0) pe_int (fun _ _ => rfl)) (pa_cons pe_int pa_nil))))))) pss_nil)
    (pss_cons (ps_if (pt_cmpZ (k_eqT K hr.units) (pz 1) pe_str (nomark _)) 
      (pss_one (ps_ret (pe_andZ (pe_cmpR (k_eqT K hr.units) (pz 2) pe_int (nomark _)) (pe_andZ (pe_cl C__law_is_token (hr.mono (by decide)) pass0 (pa_cons (pe_ix (k_ix K) (pz 0) pe_int (fun _ _ => rfl)) pa_nil)) (pe_one (pe_cl C__law_are_items (hr.mono (by decide)) pass0 (pa_cons (pe_ix (k_ix K) (pz 0) pe_int (fun _ _ => rfl)) (pa_cons pe_int pa_nil)))))))) pss_nil)
    (pss_one (ps_ret (pe_andZ (pe_cmpR (k_eqT K hr.units) (pz 1) pe_str (nomark _)) (pe_andZ (pe_cmpR (k_eqT K hr.units) (pz 2) pe_int (nomark _)) (pe_one (pe_cl C__law_within (hr.mono (by decide)) pass0 (pa_cons (pe_ix (k_ix K) (pz 0) pe_int (fun _ _ => rfl)) (pa_cons pe_int (pa_cons pe_int pa_nil)))))))))))))))))), ?_⟩
  obtain ⟨d, hd, ha, q⟩ := h
  refine ⟨by decide, kindD d, hd.kind, ?_⟩
  cases d with
  | tuple ds =>
    obtain ⟨g, hd⟩ := hd
    cases hd with
    | @tup a xs _ h hx =>
    have ll := DzAll.len hx
    refine .inl ⟨_, .inr (SqT.of h), ?_⟩
    refine ite2 (fun hc => ?_) (fun hc => ?_)
    · have hc' := dT hc
      rw [c_short (by omega)] at q
      exact q H (Same.refl H)
    have hc' := dF hc
    clear hc
    cases hx with
    | nil => simp at hc'
    | @cons v0 xs d0 ds h0 hx =>
    cases hx with
    | nil => simp at hc'
    | @cons v1 vs d1 r h1 hx =>
    have lr : vs.length = r.length := DzAll.len hx
    have ten : ((10 : Int) ^ (12 : Int).toNat - 1) = 999999999999 := by decide
    have ha : (ascA d0 && (ascA d1 && ascAll r)) = true := ha
    simp only [Bool.and_eq_true] at ha
    obtain ⟨_, a1, ar⟩ := ha
    refine ⟨_, v0, .inr (SqT.of h), at0 .., ?_⟩
    refine .inl ⟨_, .inr (SqT.of h), ?_⟩
    refine ⟨⟨by decide, by decide, by decide⟩, ?_⟩
    refine ⟨_, _, _, rfl, ?_⟩
    dsimp only
    refine seq_eqT 1 ?_ h0 ?_
    · rfl
    refine ite2 (fun w1 => ?_) (fun w1 => ?_)
    · obtain rfl := word_of w1
      rw [c_now] at q
      refine ite2 (fun hm => ?_) (fun hm => ?_)
      · have hm' := vInt hm
        have : r = [] := List.eq_nil_of_length_eq_zero (by simp at hm'; omega)
        subst this
        refine ⟨_, v1, .inr (SqT.of h), atI_nat (j := 1) rfl, ?_⟩
        refine ⟨d1, 0, _, ⟨g, h1⟩, rfl, rfl, ?_⟩
        rw [ten]
        exact q H (Same.refl H)
      · have hm' := vIntN hm
        have : r.isEmpty = false := by
          cases r with
          | nil => exact absurd (by simp at lr; simp [lr]) hm'
          | cons _ _ => rfl
        rw [this] at q
        exact q H (Same.refl H)
    have w1 : wordIs d0 "now" = false := by simpa using w1
    refine ⟨_, v1, .inr (SqT.of h), atI_nat (j := 1) rfl, ?_⟩
    refine ⟨d1, ⟨g, h1⟩, asc_one a1, fun H2 s2 => ?_⟩
    cases n1 : nameD d1 with
    | false =>
      rw [c_first w1 (by rw [n1]; rfl)] at q
      exact q _ s2
    | true =>
    refine ite2 (fun hm => ?_) (fun hm => ?_)
    · have hm' := dT hm
      have : r = [] := List.eq_nil_of_length_eq_zero (by simp at hm'; omega)
      subst this
      rw [c_first w1 (by rw [n1]; rfl)] at q
      exact q _ s2
    have hm' := dF hm
    clear hm
    cases hx with
    | nil => simp at hm'
    | @cons v2 vs d2 r h2 hx =>
    have lr : vs.length = r.length := DzAll.len hx
    have ar : (ascA d2 && ascAll r) = true := ar
    simp only [Bool.and_eq_true] at ar
    obtain ⟨a2, ar⟩ := ar
    dsimp only [tNext]
    refine seq_eqT 1 ?_ (Dz.same s2 h0) ?_
    · rfl
    refine ite2 (fun w2 => ?_) (fun w2 => ?_)
    · obtain rfl := word_of w2
      rw [c_topic n1] at q
      refine ite2 (fun hm => ?_) (fun hm => ?_)
      · have hm' := vInt hm
        have : r = [] := List.eq_nil_of_length_eq_zero (by simp at hm'; omega)
        subst this
        refine ⟨_, v2, .inr (SqT.of (s2 _ _ h)), atI_nat (j := 2) rfl, ?_⟩
        refine ⟨by decide, kindD d2, Vd.kind ⟨g, Dz.same s2 h2⟩, ?_⟩
        have e : isK (kindD d2) "bool" = boolD d2 := by cases d2 <;> rfl
        rw [e]
        exact q _ s2
      · have hm' := vIntN hm
        have : r.isEmpty = false := by
          cases r with
          | nil => exact absurd (by simp at lr; simp [lr]) hm'
          | cons _ _ => rfl
        rw [this] at q
        exact q _ s2
    have w2 : wordIs d0 "topic" = false := by simpa using w2
    dsimp only [tNext]
    refine seq_eqT 1 ?_ (Dz.same s2 h0) ?_
    · rfl
    refine ite2 (fun w3 => ?_) (fun w3 => ?_)
    · obtain rfl := word_of w3
      refine ite2 (fun hm => ?_) (fun hm => ?_)
      · have hm' := vNe hm
        rw [c_groupN (fun z => hm' (by simp; omega))] at q
        exact q _ s2
      have hm' := vNeN hm
      obtain ⟨d3, rfl⟩ : ∃ d3, r = [d3] := List.length_eq_one_iff.mp (by simp at hm'; omega)
      cases hx with
      | @cons v3 _ _ _ h3 hx =>
      cases hx
      have a3 : ascA d3 = true := by simpa [ascAll] using ar
      rw [c_group1 n1] at q
      refine ⟨_, v2, .inr (SqT.of (s2 _ _ h)), atI_nat (j := 2) rfl, ?_⟩
      refine ⟨d2, ⟨g, Dz.same s2 h2⟩, asc_one a2, fun H3 s3 => ?_⟩
      have s23 := s2.trans s3
      cases n2 : nameD d2 with
      | false =>
        rw [n2] at q
        exact q _ s23
      | true =>
      rw [n2] at q
      refine ⟨_, v3, .inr (SqT.of (s23 _ _ h)), atI_nat (j := 3) rfl, ?_⟩
      obtain ⟨sb, rfl⟩ := name_str n2
      have notnon : ∀ {dx : PyData} {vx : V}, Dz g H3 vx dx → dx ≠ .none → vx ≠ .non := fun hz ne z => by subst z; cases hz; exact ne rfl
      by_cases en : d3 = .none
      · subst en
        cases h3
        exact q _ s23
      have e3 : (false ^^ decide (v3 = V.non)) = false := by
        rw [decide_eq_false (notnon (Dz.same s23 h3) en)]
        rfl
      refine iteN e3 ?_
      refine ⟨_, v3, .inr (SqT.of (s23 _ _ h)), atI_nat (j := 3) rfl, ?_⟩
      refine ⟨d3, ⟨g, Dz.same s23 h3⟩, asc_one a3, fun H4 s4 => ?_⟩
      have s24 := s23.trans s4
      have ed : deadD d3 = nameD d3 := by cases d3 <;> first | rfl | exact absurd rfl en
      rw [ed] at q
      cases n3 : nameD d3 with
      | false =>
        rw [n3] at q
        exact q _ s24
      | true =>
      rw [n3] at q
      obtain ⟨sc, rfl⟩ := name_str n3
      cases h3
      cases h2
      refine ⟨_, _, .inr (SqT.of (s24 _ _ h)), atI_nat (j := 3) rfl, ?_⟩
      refine ⟨_, _, .inr (SqT.of (s24 _ _ h)), atI_nat (j := 2) rfl, ?_⟩
      have e4 : neD (.str sc) (.str sb) = (true ^^ decide (V.str sc = V.str sb)) := by
        show decide (sc ≠ sb) = _
        by_cases z : sc = sb
        · subst z; simp
        · simp [z]
      rw [e4] at q
      exact q _ s24
    have w3 : wordIs d0 "group" = false := by simpa using w3
    refine ⟨_, v2, .inr (SqT.of (s2 _ _ h)), atI_nat (j := 2) rfl, ?_⟩
    refine ⟨d2, 1, _, ⟨g, Dz.same s2 h2⟩, rfl, rfl, ?_⟩
    rw [ten]
    cases n2 : within d2 1 999999999999 with
    | false =>
      rw [c_number w1 w2 w3 n2] at q
      exact q _ s2
    | true =>
    refine zTr_bl ?_
    dsimp only
    rw [if_neg (show ¬ (!true) = true by decide)]
    dsimp only [tNext]
    refine seq_eqT 1 ?_ (Dz.same s2 h0) ?_
    · rfl
    refine ite2 (fun w4 => ?_) (fun w4 => ?_)
    · obtain rfl := word_of w4
      refine ite2 (fun hm => ?_) (fun hm => ?_)
      · have hm' := vInt hm
        obtain ⟨d3, rfl⟩ : ∃ d3, r = [d3] := List.length_eq_one_iff.mp (by simp at hm'; omega)
        cases hx with
        | @cons v3 _ _ _ h3 hx =>
        cases hx
        have a3 : ascA d3 = true := by simpa [ascAll] using ar
        rw [c_send1 n1 n2] at q
        refine ⟨_, v3, .inr (SqT.of (s2 _ _ h)), atI_nat (j := 3) rfl, ?_⟩
        exact ⟨d3, ⟨g, Dz.same s2 h3⟩, a3, .inr ⟨rfl, fun H3 s3 => q _ (s2.trans s3)⟩⟩
      · have hm' := vIntN hm
        rw [c_lenN (ks := [.name, .number, .sent]) (by decide +kernel) (fun z => hm' (by simp at z; simp; omega))] at q
        exact q _ s2
    have w4 : wordIs d0 "send" = false := by simpa using w4
    dsimp only [tNext]
    refine seq_eqT 1 ?_ (Dz.same s2 h0) ?_
    · rfl
    refine ite2 (fun w5 => ?_) (fun w5 => ?_)
    · obtain rfl := word_of w5
      refine ite2 (fun hm => ?_) (fun hm => ?_)
      · have hm' := vInt hm
        obtain ⟨d3, d4, rfl⟩ : ∃ d3 d4, r = [d3, d4] := two_of (by simp at hm'; omega)
        cases hx with
        | @cons v3 _ _ _ h3 hx =>
        cases hx with
        | @cons v4 _ _ _ h4 hx =>
        cases hx
        have a4 : ascA d3 = true ∧ ascA d4 = true := by simpa [ascAll] using ar
        rw [c_done1 n1 n2] at q
        refine ⟨_, v3, .inr (SqT.of (s2 _ _ h)), atI_nat (j := 3) rfl, ?_⟩
        refine ⟨d3, ⟨g, Dz.same s2 h3⟩, ?_⟩
        cases n3 : tokenD d3 with
        | false =>
          rw [n3] at q
          exact q _ s2
        | true =>
        rw [n3] at q
        refine ⟨_, v4, .inr (SqT.of (s2 _ _ h)), atI_nat (j := 4) rfl, ?_⟩
        exact ⟨d4, ⟨g, Dz.same s2 h4⟩, a4.2, .inl ⟨rfl, fun H3 s3 => q _ (s2.trans s3)⟩⟩
      · have hm' := vIntN hm
        rw [c_lenN (ks := [.name, .number, .token, .made]) (by decide +kernel) (fun z => hm' (by simp at z; simp; omega))] at q
        exact q _ s2
    have w5 : wordIs d0 "done" = false := by simpa using w5
    dsimp only [tNext]
    refine ret_eqT 1 ?_ (Dz.same s2 h0) ?_
    · rfl
    refine ite2 (fun w6 => ?_) (fun w6 => ?_)
    · obtain rfl := word_of w6
      refine ite2 (fun hm => ?_) (fun hm => ?_)
      · have hm' := vInt hm
        obtain ⟨d3, rfl⟩ : ∃ d3, r = [d3] := List.length_eq_one_iff.mp (by simp at hm'; omega)
        cases hx with
        | @cons v3 _ _ _ h3 hx =>
        cases hx
        rw [c_failed1 n1 n2] at q
        refine ⟨_, v3, .inr (SqT.of (s2 _ _ h)), atI_nat (j := 3) rfl, ?_⟩
        exact ⟨d3, 0, 4, ⟨g, Dz.same s2 h3⟩, rfl, rfl, q _ s2⟩
      · have hm' := vIntN hm
        rw [c_lenN (ks := [.name, .number, .try_]) (by decide +kernel) (fun z => hm' (by simp at z; simp; omega))] at q
        exact q _ s2
    have w6 : wordIs d0 "failed" = false := by simpa using w6
    rw [c_other w1 w2 w3 w4 w5 w6] at q
    exact q _ s2
  | _ => exact q H (Same.refl H)

/-! ### _law_odd(_law_box_here), level 2 -/
abbrev s__law_odd : Stmt := top 62
abbrev N__law_odd : List Str := ["_law_box_here", "_law_menu"]
theorem sc__law_odd : FnScope N__law_odd ["_law_box_here"] (defScope s__law_odd) := ⟨rfl, rfl, rfl, by decide +kernel, rfl, by decide +kernel, by decide +kernel⟩
theorem ok__law_odd (C__law_take : Ct P w K mg base CX0 1 "_law_take" ["_law_box_here", "_law_many"] (sp__law_take K)) (D : Df K mg "_law_odd" s__law_odd ["_law_box_here"]) : Ct P w K mg base CX0 2 "_law_odd" ["_law_box_here"] (sp__law_odd K) := by
  refine ct1 D sc__law_odd fun f cdv A outer s H a_box_here Q E hr h => ⟨_, (pss_cons (ps_set (i := 1) sc__law_odd.nd rfl (Or.inl rfl) (pe_lzS (pa_cons pe_non (pa_cons pe_bl (pa_cons pe_bl (pa_cons pe_int (pa_cons pe_int (pa_cons (pe_un un_negZ pe_int) (pa_cons pe_int (pa_cons pe_int (pa_cons pe_int (pa_cons pe_int (pa_cons pe_int (pa_cons pe_int (pa_cons (pe_op o_sub (pe_op o_pow pe_int pe_int) pe_int) (pa_cons (pe_op o_pow pe_int pe_int) (pa_cons (pe_un un_negZ (pe_op o_pow pe_int pe_int)) (pa_cons pe_str (pa_cons pe_str (pa_cons pe_str pa_nil))))))))))))))))))))
    (pss_cons (ps_set (i := 1) sc__law_odd.nd rfl (Or.inl rfl) (pe_op (k_add K) (pz 1) (pe_lzS (pa_cons pe_str (pa_cons pe_str (pa_cons pe_str (pa_cons pe_str (pa_cons pe_str (pa_cons (pe_op o_mul pe_str pe_int) (pa_cons (pe_op o_mul pe_str pe_int) (pa_cons (pe_op o_mul pe_str pe_int) (pa_cons pe_str (pa_cons (pe_tz pa_nil) (pa_cons (pe_lzS pa_nil) (pa_cons (pe_tz (pa_cons pe_int (pa_cons pe_int pa_nil))) (pa_cons (pe_lzS (pa_cons pe_int (pa_cons pe_int pa_nil))) pa_nil))))))))))))))))
    (pss_one (ps_ret (pe_ix (k_ix K) (pe_op (k_add K) (pz 1) (pe_lzS (pa_cons (pe_tz (pa_cons pe_str pa_nil)) (pa_cons pe_dnewK (pa_cons (pe_tz (pa_cons pe_int (pa_cons pe_int pa_nil))) (pa_cons (pe_tz (pa_cons pe_int (pa_cons pe_int pa_nil))) (pa_cons (pe_tz (pa_cons pe_int (pa_cons pe_bl pa_nil))) (pa_cons (pe_tz (pa_cons pe_int (pa_cons pe_int (pa_cons pe_int pa_nil)))) pa_nil)))))))) (pe_cl C__law_take (hr.mono (by decide)) pass0 (pa_cons (pz 0) (pa_cons pe_int pa_nil))) (fun _ _ => rfl)))))), ?_⟩
  obtain ⟨b, n, rfl, hB, hn, q⟩ := h
  refine ⟨⟨by decide, by decide, by decide⟩, ?_⟩
  refine ⟨⟨by decide, by decide, by decide⟩, ?_⟩
  refine ⟨⟨by decide, by decide, by decide⟩, ?_⟩
  refine ⟨by show 18 ≤ sizeLine; decide, fun p1 H1 n1 _ => ?_⟩
  refine ⟨by decide, by decide, by decide, ?_⟩
  refine ⟨by decide, by decide, by decide, ?_⟩
  refine ⟨by decide, by decide, by decide, ?_⟩
  refine ⟨Nat.zero_le _, fun a1 H2 n2 => ?_⟩
  refine ⟨Nat.zero_le _, fun a2 H3 n3 f3 => ?_⟩
  refine ⟨by show 2 ≤ sizeLine; decide, fun a3 H4 n4 => ?_⟩
  refine ⟨by show 2 ≤ sizeLine; decide, fun a4 H5 n5 f5 => ?_⟩
  refine ⟨by show 13 ≤ sizeLine; decide, fun p2 H6 n6 _ => ?_⟩
  have s16 := (((n2.same.trans n3.same).trans n4.same).trans n5.same).trans n6.same
  refine .inl ⟨_, _, s16 _ _ n1.here, n6.here, by show 31 ≤ sizeLine; decide, fun p3 H7 n7 => ?_⟩
  refine ⟨by show 1 ≤ sizeLine; decide, fun a5 H8 n8 => ?_⟩
  refine fun a6 f9 => ?_
  have n9 := nw (o := .dK []) f9
  refine ⟨by show 2 ≤ sizeLine; decide, fun a7 H10 n10 => ?_⟩
  refine ⟨by show 2 ≤ sizeLine; decide, fun a8 H11 n11 => ?_⟩
  refine ⟨by show 2 ≤ sizeLine; decide, fun a9 H12 n12 => ?_⟩
  refine ⟨by show 3 ≤ sizeLine; decide, fun a10 H13 n13 => ?_⟩
  refine ⟨by show 6 ≤ sizeLine; decide, fun p4 H14 n14 _ => ?_⟩
  have s1314 := n14.same
  have s1214 := n13.same.trans s1314
  have s1114 := n12.same.trans s1214
  have s1014 := n11.same.trans s1114
  have s914 := n10.same.trans s1014
  have s814 := n9.same.trans s914
  have s714 := n8.same.trans s814
  refine .inl ⟨_, _, s714 _ _ n7.here, n14.here, by show 37 ≤ sizeLine; decide, fun p5 H15 n15 => ?_⟩
  have s614 := n7.same.trans s714
  have s514 := n6.same.trans s614
  have s414 := n5.same.trans s514
  have s314 := n4.same.trans s414
  have s214 := n3.same.trans s314
  have B15 := hB.same (((n1.same.trans n2.same).trans s214).trans n15.same)
  refine ⟨b, 37, n, rfl, rfl, by decide, by decide, B15, by omega, fun r H16 t16 B16 r0 r1 => ?_⟩
  have nb5 := B15.neq n15.here (fun g f s c z => by cases z)
  have at_of : ∀ L : List V, H15 p5 = some (.lst L) → L.length = 37 → ∃ v, atI L r = some v ∧ v ∈ L := fun L _ hl => by
    obtain ⟨v, e, hv, _⟩ := atI_some (xs := L) r0 (by rw [hl]; exact r1)
    exact ⟨v, e, hv⟩
  obtain ⟨v, e, hv⟩ := at_of _ n15.here rfl
  refine ⟨_, v, .inl (SqL.of (t16.at nb5 n15.here)), e, ?_⟩
  have k_a1 := n15.keep (s214 _ _ n2.here)
  have h_a1 := t16.at (B15.neq k_a1 (fun g f s c z => by cases z)) k_a1
  have k_a2 := n15.keep (s314 _ _ n3.here)
  have h_a2 := t16.at (B15.neq k_a2 (fun g f s c z => by cases z)) k_a2
  have k_a3 := n15.keep (s414 _ _ n4.here)
  have h_a3 := t16.at (B15.neq k_a3 (fun g f s c z => by cases z)) k_a3
  have k_a4 := n15.keep (s514 _ _ n5.here)
  have h_a4 := t16.at (B15.neq k_a4 (fun g f s c z => by cases z)) k_a4
  have k_a5 := n15.keep (s814 _ _ n8.here)
  have h_a5 := t16.at (B15.neq k_a5 (fun g f s c z => by cases z)) k_a5
  have k_a6 := n15.keep (s914 _ _ n9.here)
  have h_a6 := t16.at (B15.neq k_a6 (fun g f s c z => by cases z)) k_a6
  have k_a7 := n15.keep (s1014 _ _ n10.here)
  have h_a7 := t16.at (B15.neq k_a7 (fun g f s c z => by cases z)) k_a7
  have k_a8 := n15.keep (s1114 _ _ n11.here)
  have h_a8 := t16.at (B15.neq k_a8 (fun g f s c z => by cases z)) k_a8
  have k_a9 := n15.keep (s1214 _ _ n12.here)
  have h_a9 := t16.at (B15.neq k_a9 (fun g f s c z => by cases z)) k_a9
  have k_a10 := n15.keep (s1314 _ _ n13.here)
  have h_a10 := t16.at (B15.neq k_a10 (fun g f s c z => by cases z)) k_a10
  have tt : But b H H16 := (But.of (((n1.same.trans n2.same).trans s214).trans n15.same)).trans t16
  simp only [List.mem_append, List.mem_cons, List.not_mem_nil, or_false] at hv
  rcases hv with ((rfl | rfl | rfl | rfl | rfl | rfl | rfl | rfl | rfl | rfl | rfl | rfl | rfl | rfl | rfl | rfl | rfl | rfl) | (rfl | rfl | rfl | rfl | rfl | rfl | rfl | rfl | rfl | rfl | rfl | rfl | rfl)) | rfl | rfl | rfl | rfl | rfl | rfl
  · exact q _ _ _ tt B16 (gd_dec .non (by decide +kernel))
  · exact q _ _ _ tt B16 (gd_dec (.bl _) (by decide +kernel))
  · exact q _ _ _ tt B16 (gd_dec (.bl _) (by decide +kernel))
  · exact q _ _ _ tt B16 (gd_dec (.int _) (by decide +kernel))
  · exact q _ _ _ tt B16 (gd_dec (.int _) (by decide +kernel))
  · exact q _ _ _ tt B16 (gd_dec (.int _) (by decide +kernel))
  · exact q _ _ _ tt B16 (gd_dec (.int _) (by decide +kernel))
  · exact q _ _ _ tt B16 (gd_dec (.int _) (by decide +kernel))
  · exact q _ _ _ tt B16 (gd_dec (.int _) (by decide +kernel))
  · exact q _ _ _ tt B16 (gd_dec (.int _) (by decide +kernel))
  · exact q _ _ _ tt B16 (gd_dec (.int _) (by decide +kernel))
  · exact q _ _ _ tt B16 (gd_dec (.int _) (by decide +kernel))
  · exact q _ _ _ tt B16 (gd_dec (.int _) (by decide +kernel))
  · exact q _ _ _ tt B16 (gd_dec (.int _) (by decide +kernel))
  · exact q _ _ _ tt B16 (gd_dec (.int _) (by decide +kernel))
  · exact q _ _ _ tt B16 (gd_dec (.str _) (by decide +kernel))
  · exact q _ _ _ tt B16 (gd_dec (.str _) (by decide +kernel))
  · exact q _ _ _ tt B16 (gd_dec (.str _) (by decide +kernel))
  · exact q _ _ _ tt B16 (gd_dec (.str _) (by decide +kernel))
  · exact q _ _ _ tt B16 (gd_dec (.str _) (by decide +kernel))
  · exact q _ _ _ tt B16 (gd_dec (.str _) (by decide +kernel))
  · exact q _ _ _ tt B16 (gd_dec (.str _) (by decide +kernel))
  · exact q _ _ _ tt B16 (gd_dec (.str _) (by decide +kernel))
  · exact q _ _ _ tt B16 (gd_dec (.str _) (by decide +kernel))
  · exact q _ _ _ tt B16 (gd_dec (.str _) (by decide +kernel))
  · exact q _ _ _ tt B16 (gd_dec (.str _) (by decide +kernel))
  · exact q _ _ _ tt B16 (gd_dec (.str _) (by decide +kernel))
  · exact q _ _ _ tt B16 (gd_dec (.tup h_a1 .nil) (by decide +kernel))
  · exact q _ _ _ tt B16 (gd_dec (.lst h_a2 (fun _ => f3) .nil) (by decide +kernel))
  · exact q _ _ _ tt B16 (gd_dec (.tup h_a3 (.cons (.int _) (.cons (.int _) .nil))) (by decide +kernel))
  · exact q _ _ _ tt B16 (gd_dec (.lst h_a4 (fun _ => f5) (.cons (.int _) (.cons (.int _) .nil))) (by decide +kernel))
  · exact q _ _ _ tt B16 (gd_dec (.tup h_a5 (.cons (.str _) .nil)) (by decide +kernel))
  · exact q _ _ _ tt B16 (gd_dec (.dic h_a6 .nil) (by decide +kernel))
  · exact q _ _ _ tt B16 (gd_dec (.tup h_a7 (.cons (.int _) (.cons (.int _) .nil))) (by decide +kernel))
  · exact q _ _ _ tt B16 (gd_dec (.tup h_a8 (.cons (.int _) (.cons (.int _) .nil))) (by decide +kernel))
  · exact q _ _ _ tt B16 (gd_dec (.tup h_a9 (.cons (.int _) (.cons (.bl _) .nil))) (by decide +kernel))
  · exact q _ _ _ tt B16 (gd_dec (.tup h_a10 (.cons (.int _) (.cons (.int _) (.cons (.int _) .nil)))) (by decide +kernel))

/-! ### _law_spoiled(_law_box_here, _law_value), level 3 -/
abbrev s__law_spoiled : Stmt := top 75
abbrev N__law_spoiled : List Str := ["_law_box_here", "_law_value", "_law_place"]
theorem sc__law_spoiled : FnScope N__law_spoiled ["_law_box_here", "_law_value"] (defScope s__law_spoiled) := ⟨rfl, rfl, rfl, by decide +kernel, rfl, by decide +kernel, by decide +kernel⟩
theorem ok__law_spoiled (T : Txt K mg) (C__law_take : Ct P w K mg base CX0 1 "_law_take" ["_law_box_here", "_law_many"] (sp__law_take K)) (C__law_odd : Ct P w K mg base CX0 2 "_law_odd" ["_law_box_here"] (sp__law_odd K)) (D : Df K mg "_law_spoiled" s__law_spoiled ["_law_box_here", "_law_value"]) : Ct P w K mg base CX0 3 "_law_spoiled" ["_law_box_here", "_law_value"] (sp__law_spoiled K) := by
  refine ct2 D sc__law_spoiled fun f cdv A outer s H a_box_here a_value Q E hr h => ⟨_, (pss_cons (ps_set (i := 2) sc__law_spoiled.nd rfl (Or.inl rfl) (pe_cl C__law_take (hr.mono (by decide)) pass0 (pa_cons (pz 0) (pa_cons (pe_callB (k_len K) (by rfl) T.n_len bt_len (pa_cons (pz 1) pa_nil)) pa_nil))))
    (pss_one (ps_ret (pe_op (k_add K) (pe_op (k_add K) (pe_slice (k_sl K) (pz 1) po_none (po_z (pz 2))) (pe_tz (pa_cons (pe_cl C__law_odd (hr.mono (by decide)) pass0 (pa_cons (pz 0) pa_nil)) pa_nil))) (pe_slice (k_sl K) (pz 1) (po_z (pe_op (k_add K) (pz 2) pe_int)) po_none))))), ?_⟩
  obtain ⟨b, n, p, k, B, xs, ds, rfl, rfl, hB, hn, hp, ga, k3, B2, l1, l8, q⟩ := h
  have ll := ga.len
  refine .inl ⟨_, .inr (SqT.of hp), ?_⟩
  refine ⟨b, _, n, rfl, rfl, by omega, by omega, hB, by omega, fun r H1 t1 B1 r0 r1 => ?_⟩
  obtain ⟨j, rfl⟩ : ∃ j : Nat, r = (j : Int) := ⟨r.toNat, by omega⟩
  have hp1 := hB.mv t1 _ _ hp tup_nobox
  refine .inr ⟨xs, SqT.of hp1, (fun z => by have := z.2; rw [sIx_pos (by omega), Int.toNat_natCast] at this; omega), fun _ a H2 n2 => ?_⟩
  have h2 := n2.here
  rw [cutV_to] at h2
  have B2' := B1.same n2.same
  refine ⟨b, _, rfl, B2', by omega, fun v d H3 t3 B3 gd => ?_⟩
  have m3 := B2'.mv t3
  have hp3 := m3 _ _ (n2.keep hp1) tup_nobox
  have h3 := m3 _ _ h2 tup_nobox
  refine ⟨by show 1 ≤ sizeLine; decide, fun c H4 n4 => ?_⟩
  refine addT (n4.keep h3) n4.here (sz (by rw [List.length_take]; show _ + 1 ≤ _; omega)) fun r5 H5 s5 h5 => ?_
  have s35 := n4.same.trans s5
  have hp5 := s35 _ _ hp3
  refine .inr ⟨xs, SqT.of hp5, (fun z => by have := z.1; rw [sIx_pos (by omega)] at this; omega), fun _ e H6 n6 => ?_⟩
  have h6 := n6.here
  rw [show ((j : Nat) : Int) + 1 = ((j + 1 : Nat) : Int) by omega, cutV_fr] at h6
  refine addT (n6.keep h5) h6 (sz (by rw [List.length_append, List.length_take, List.length_drop]; show _ + 1 + _ ≤ _; omega)) fun r7 H7 s7 h7 => ?_
  have s37 := (s35.trans n6.same).trans s7
  have mv : Mv H H7 := ((hB.mv t1).trans ((Mv.of n2.same).trans m3)).trans (Mv.of s37)
  have ga7 := ga.mv mv
  refine q r7 _ (ds.take j ++ [d] ++ ds.drop (j + 1)) H7 (((t1.nw n2).trans t3).trans (But.of s37)) ((B3.same s37).mono (by omega)) h7 (((ga7.take j).app (.cons ((gd.mv (Mv.of s37)).mono k3 B2) .nil)).app (ga7.drop (j + 1))) ?_
  rw [List.length_append, List.length_append, List.length_take, List.length_drop]
  show _ + 1 + _ = _
  omega

/-! ### _law_shape(_law_box_here, _law_value), level 2 -/
abbrev s__law_shape : Stmt := top 74
abbrev N__law_shape : List Str := ["_law_box_here", "_law_value", "_law_menu"]
theorem sc__law_shape : FnScope N__law_shape ["_law_box_here", "_law_value"] (defScope s__law_shape) := ⟨rfl, rfl, rfl, by decide +kernel, rfl, by decide +kernel, by decide +kernel⟩
theorem ok__law_shape (T : Txt K mg) (C__law_take : Ct P w K mg base CX0 1 "_law_take" ["_law_box_here", "_law_many"] (sp__law_take K)) (D : Df K mg "_law_shape" s__law_shape ["_law_box_here", "_law_value"]) : Ct P w K mg base CX0 2 "_law_shape" ["_law_box_here", "_law_value"] (sp__law_shape K) := by
  refine ct2 D sc__law_shape fun f cdv A outer s H a_box_here a_value Q E hr h => ⟨_, (pss_cons (ps_set (i := 2) sc__law_shape.nd rfl (Or.inl rfl) (pe_lzS (pa_cons (pe_callTy (k_listS K) (by rfl) T.n_list bt_list (pa_cons (pz 1) pa_nil)) (pa_cons (pe_op (k_add K) (pz 1) (pe_tz (pa_cons pe_int pa_nil))) (pa_cons (pe_slice (k_sl K) (pz 1) po_none (po_z (pe_un un_negZ pe_int))) (pa_cons (pe_tz (pa_cons (pz 1) pa_nil)) (pa_cons pe_non (pa_cons pe_str (pa_cons (pe_callTy (k_dict K rfl) (by rfl) T.n_dict bt_dict (pa_cons (pe_lzS (pa_cons (pe_tz (pa_cons pe_str (pa_cons (pz 1) pa_nil))) pa_nil)) pa_nil)) (pa_cons (pe_tz pa_nil) (pa_cons (pe_op (k_add K) (pz 1) (pe_slice (k_sl K) (pz 1) (po_z (pe_un un_negZ pe_int)) po_none)) pa_nil)))))))))))
    (pss_one (ps_ret (pe_ix (k_ix K) (pz 2) (pe_cl C__law_take (hr.mono (by decide)) pass0 (pa_cons (pz 0) (pa_cons pe_int pa_nil))) (fun _ _ => rfl))))), ?_⟩
  obtain ⟨b, n, p, k, B, xs, ds, rfl, rfl, hB, hn, hp, ga, B2, l1, l8, bx, q⟩ := h
  have ll := ga.len
  refine ⟨xs, .inr (SqT.of hp), fun a1 H1 n1 far => ?_⟩
  refine ⟨by show 1 ≤ sizeLine; decide, fun c2 H2 n2 => ?_⟩
  have s02 := n1.same.trans n2.same
  refine addT (s02 _ _ hp) n2.here (sz (by show _ + 1 ≤ _; omega)) fun a2 H3 s3 h3 => ?_
  have s03 := s02.trans s3
  refine .inr ⟨xs, SqT.of (s03 _ _ hp), (fun z => by have := z.2; rw [sIx_neg] at this; omega), fun _ a3 H4 n4 => ?_⟩
  have h4 := n4.here
  rw [cutV_toneg] at h4
  refine ⟨by show 1 ≤ sizeLine; decide, fun a4 H5 n5 => ?_⟩
  refine ⟨by show 2 ≤ sizeLine; decide, fun c6 H6 n6 => ?_⟩
  refine ⟨by show 1 ≤ sizeLine; decide, fun c7 H7 n7 f7 => ?_⟩
  refine .inl ⟨[c6], [(.inr "a", .ref p)], SqL.of n7.here, .cons (SqT.of (n7.keep n6.here)) .nil, fun a7 H8 n8 => ?_⟩
  refine ⟨Nat.zero_le _, fun a8 H9 n9 => ?_⟩
  have s39 := (((((n4.same.trans n5.same).trans n6.same).trans n7.same).trans n8.same).trans n9.same)
  have hp9 := (s03.trans s39) _ _ hp
  refine .inr ⟨xs, SqT.of hp9, (fun z => by have := z.1; rw [sIx_neg] at this; omega), fun _ c9 H10 n10 => ?_⟩
  have h10 := n10.here
  rw [cutV_frneg] at h10
  refine addT (n10.keep hp9) h10 (sz (by rw [List.length_drop]; omega)) fun a9 H11 s11 h11 => ?_
  refine ⟨by show 9 ≤ sizeLine; decide, fun m H12 n12 f12 => ?_⟩
  have s912 := (n10.same.trans s11).trans n12.same
  have s012 := (s03.trans s39).trans s912
  have B12 := hB.same s012
  refine ⟨b, 9, n, rfl, rfl, by decide, by decide, B12, by omega, fun r H13 t13 B13 r0 r1 => ?_⟩
  have nmb := B12.neq n12.here (fun _ _ _ _ z => by cases z)
  obtain ⟨w, e, hw, _⟩ := atI_some (xs := [V.ref a1, .ref a2, .ref a3, .ref a4, .non, .str "send", .ref a7, .ref a8, .ref a9]) r0 r1
  refine ⟨_, w, .inl (SqL.of (t13.at nmb n12.here)), e, ?_⟩
  have tt : But b H H13 := (But.of s012).trans t13
  have go : ∀ {d : PyData} {k2 Bd : Nat}, Gd H12 k2 Bd w d → k2 ≤ k + 2 → Bd ≤ SB B → Q w H13 := fun g hk hb => q w _ H13 tt B13 ((g.mv (B12.mv t13)).mono hk hb)
  have ga12 := ga.mv (Mv.of s012)
  have hp12 := s012 _ _ hp
  simp only [List.mem_cons, List.not_mem_nil, or_false] at hw
  have s812 := n9.same.trans s912
  have s512 := ((n6.same.trans n7.same).trans n8.same).trans s812
  have s412 := n5.same.trans s512
  have s312 := n4.same.trans s412
  have whole : Gd H12 (k + 1) (4 + 8 * (B + 2)) (.ref p) (.tuple ds) := Gd.tup hp12 ga12 l8
  have one : Gd H12 k B (.int 0) (.int 0) := (gd_int (by decide)).mono (Nat.zero_le _) B2
  have bnd : ∀ c, c ≤ 10 → 4 + c * (B + 2) ≤ SB B := fun c hc => by
    have := Nat.mul_le_mul_right (B + 2) hc
    unfold SB
    omega
  rcases hw with rfl | rfl | rfl | rfl | rfl | rfl | rfl | rfl | rfl
  · exact go (Gd.lst (n := 8) (((n2.same.trans s3).trans s312) _ _ n1.here) far ga12 l8 bx) (by omega) (bnd 8 (by omega))
  · exact go (Gd.tup (n := 9) (s312 _ _ h3) (ga12.app (.cons one .nil)) (by rw [List.length_append]; show _ + 1 ≤ _; omega)) (by omega) (bnd 9 (by omega))
  · exact go (Gd.tup (n := 8) (s412 _ _ h4) (ga12.take _) (by rw [List.length_take]; omega)) (by omega) (bnd 8 (by omega))
  · exact go (Gd.tup (n := 1) (s512 _ _ n5.here) (.cons whole .nil) (Nat.le_refl 1)) (by omega) (by unfold SB; omega)
  · exact go gd_non (by omega) (by unfold SB; omega)
  · exact go (gd_lit (x := "send") (by decide +kernel)) (by omega) (by unfold SB; omega)
  · exact go (Gd.dic (s812 _ _ n8.here) whole) (by omega) (by unfold SB; omega)
  · exact go (Gd.tup (n := 0) (k := 0) (B := 0) (s912 _ _ n9.here) .nil (Nat.le_refl 0)) (by omega) (by unfold SB; omega)
  · exact go (Gd.tup (n := 9) (n12.keep h11) (ga12.app (ga12.drop _)) (by rw [List.length_append, List.length_drop]; omega)) (by omega) (bnd 9 (by omega))

/-! ### _law_within_last(_law_box_here, _law_value), level 4 -/
abbrev s__law_within_last : Stmt := top 76
abbrev N__law_within_last : List Str := ["_law_box_here", "_law_value", "_law_last", "_law_place", "_law_way", "_law_part"]
theorem sc__law_within_last : FnScope N__law_within_last ["_law_box_here", "_law_value"] (defScope s__law_within_last) := ⟨rfl, rfl, rfl, by decide +kernel, rfl, by decide +kernel, by decide +kernel⟩
theorem ok__law_within_last (T : Txt K mg) (C__law_odd : Ct P w K mg base CX0 2 "_law_odd" ["_law_box_here"] (sp__law_odd K)) (C__law_take : Ct P w K mg base CX0 1 "_law_take" ["_law_box_here", "_law_many"] (sp__law_take K)) (C__law_spoiled : Ct P w K mg base CX0 3 "_law_spoiled" ["_law_box_here", "_law_value"] (sp__law_spoiled K)) (C__law_shape : Ct P w K mg base CX0 2 "_law_shape" ["_law_box_here", "_law_value"] (sp__law_shape K)) (D : Df K mg "_law_within_last" s__law_within_last ["_law_box_here", "_law_value"]) : Ct P w K mg base CX0 4 "_law_within_last" ["_law_box_here", "_law_value"] (sp__law_within_last K) := by
  refine ct2 D sc__law_within_last fun f cdv A outer s H a_box_here a_value Q E hr h => ⟨_, (pss_cons (ps_set (i := 2) sc__law_within_last.nd rfl (Or.inl rfl) (pe_ix (k_ix K) (pz 1) (pe_un un_negZ pe_int) (fun _ _ => rfl)))
    (pss_cons (ps_if (PW.pt (pw_or (pt_not (pt_trK K (pe_callB (k_isi K) (by rfl) T.n_isinstance bt_isinstance (pa_cons (pz 2) (pa_cons (pe_bltn (v := .ty "tuple") (by rfl) T.n_tuple bt_tuple rfl) pa_nil))))) (pw_or1 (pt_cmpZ (k_eq K hr.units) (pe_callB (k_len K) (by rfl) T.n_len bt_len (pa_cons (pz 2) pa_nil)) pe_int (nomark _))))) 
      (pss_one (ps_ret (pe_op (k_add K) (pe_slice (k_sl K) (pz 1) po_none (po_z (pe_un un_negZ pe_int))) (pe_tz (pa_cons (pe_cl C__law_odd (hr.mono (by decide)) pass0 (pa_cons (pz 0) pa_nil)) pa_nil))))) pss_nil)
    (pss_cons (ps_parZ (i := 3) (j := 4) (by rfl) sc__law_within_last.nd rfl rfl (by decide) rfl rfl (pa_cons (pe_cl C__law_take (hr.mono (by decide)) pass0 (pa_cons (pz 0) (pa_cons (pe_callB (k_len K) (by rfl) T.n_len bt_len (pa_cons (pz 2) pa_nil)) pa_nil))) (pa_cons (pe_cl C__law_take (hr.mono (by decide)) pass0 (pa_cons (pz 0) (pa_cons pe_int pa_nil))) pa_nil)) (by rfl))
    (pss_cons (ps_set (i := 5) sc__law_within_last.nd rfl (Or.inl rfl) (pe_ix (k_ix K) (pz 2) (pz 3) (fun _ _ => rfl)))
    (pss_cons (ps_if (pt_cmpZ (k_eq K hr.units) (pz 4) pe_int (nomark _)) 
      (pss_one (ps_ret (pe_op (k_add K) (pe_slice (k_sl K) (pz 1) po_none (po_z (pe_un un_negZ pe_int))) (pe_tz (pa_cons (pe_callTy (k_listS K) (by rfl) T.n_list bt_list (pa_cons (pz 2) pa_nil)) pa_nil))))) pss_nil)
    (pss_cons (ps_if (pt_cmpZ (k_eq K hr.units) (pz 4) pe_int (nomark _)) 
      (pss_one (ps_ret (pe_op (k_add K) (pe_slice (k_sl K) (pz 1) po_none (po_z (pe_un un_negZ pe_int))) (pe_tz (pa_cons (pe_op (k_add K) (pz 2) (pz 2)) pa_nil))))) pss_nil)
    (pss_cons (ps_if (PW.pt (pw_and (pt_trK K (pe_callB (k_isi K) (by rfl) T.n_isinstance bt_isinstance (pa_cons (pz 5) (pa_cons (pe_bltn (v := .ty "tuple") (by rfl) T.n_tuple bt_tuple rfl) pa_nil)))) (pw_and (pt_cmpZ o_gtS (pe_callB (k_len K) (by rfl) T.n_len bt_len (pa_cons (pz 5) pa_nil)) pe_int (nomark _)) (pw_and1 (pt_cmpZ (k_eq K hr.units) (pz 4) pe_int (nomark _)))))) 
      (pss_one (ps_set (i := 5) sc__law_within_last.nd rfl (Or.inl rfl) (pe_cl C__law_spoiled (hr.mono (by decide)) pass0 (pa_cons (pz 0) (pa_cons (pz 5) pa_nil))))) 
      (pss_one (ps_if (pt_trK K (pe_callB (k_isi K) (by rfl) T.n_isinstance bt_isinstance (pa_cons (pz 5) (pa_cons (pe_bltn (v := .ty "tuple") (by rfl) T.n_tuple bt_tuple rfl) pa_nil)))) 
        (pss_one (ps_set (i := 5) sc__law_within_last.nd rfl (Or.inl rfl) (pe_cl C__law_shape (hr.mono (by decide)) pass0 (pa_cons (pz 0) (pa_cons (pz 5) pa_nil))))) 
        (pss_one (ps_set (i := 5) sc__law_within_last.nd rfl (Or.inl rfl) (pe_cl C__law_odd (hr.mono (by decide)) pass0 (pa_cons (pz 0) pa_nil)))))))
    (pss_one (ps_ret (pe_op (k_add K) (pe_slice (k_sl K) (pz 1) po_none (po_z (pe_un un_negZ pe_int))) (pe_tz (pa_cons (pe_op (k_add K) (pe_op (k_add K) (pe_slice (k_sl K) (pz 2) po_none (po_z (pz 3))) (pe_tz (pa_cons (pz 5) pa_nil))) (pe_slice (k_sl K) (pz 2) (po_z (pe_op (k_add K) (pz 3) pe_int)) po_none)) pa_nil)))))))))))), ?_⟩
  obtain ⟨b, n, p, xs, ds, rfl, rfl, hB, hn, C, q⟩ := h
  have ll := C.all.len
  have x2 := C.two
  have x5 := C.five
  have fin : ∀ (c : Addr) (Hd : Hp) (vN : V) (dN : PyData), Hd c = some (.tup (xs.take (xs.length - 1))) → But b H Hd → BoxAt (n + 10) Hd b → Mv H Hd → Gd Hd 8 200000 vN dN →
      (([vN] : List V).length ≤ sizeLine ∧ ∀ (t : Addr) (H2 : Hp), Nw Hd t (.tup [vN]) H2 → zAdd K (.ref c) (.ref t) H2 Q) := fun c Hd vN dN hc t B m g => by
    refine ⟨by show 1 ≤ sizeLine; decide, fun t1 H2 n2 => addT (n2.keep hc) n2.here (sz (by rw [List.length_take]; show _ + 1 ≤ _; omega)) fun r H3 s3 h3 => ?_⟩
    have s23 := n2.same.trans s3
    refine q r _ (ds.take (xs.length - 1) ++ [dN]) H3 ((t.nw n2).trans (But.of s3)) (B.same s23) h3 ?_ (by rw [List.length_append, List.length_take]; show _ + 1 ≤ _; omega)
    exact ((((C.all).mv (m.trans (Mv.of s23))).take _).mono (by decide) (by decide)).app (.cons (g.mv (Mv.of s23)) .nil)
  obtain ⟨v, hv⟩ : ∃ v, xs[xs.length - 1]? = some v := ⟨xs[xs.length - 1]'(by omega), List.getElem?_eq_getElem (by omega)⟩
  obtain ⟨d, hd, pt⟩ := paired_at C.parts hv
  have gd := pt.gd
  refine ⟨_, v, .inr (SqT.of C.here), atI_neg1 hv, ?_⟩
  refine ⟨by decide, kindD d, Vd.kind ⟨_, gd.dz⟩, ?_⟩
  have odd : ∀ {Hx : Hp} {kx : Nat}, But b H Hx → BoxAt kx Hx b → kx ≤ n + 9 → Mv H Hx → True := fun _ _ _ _ => trivial
  rcases pt with ⟨_, at'⟩ | ⟨lp, ps, es, rfl, rfl, hlp, pe, l4, bx⟩
  · have e : isK (kindD d) "tuple" = false := by cases d <;> first | rfl | cases at'
    rw [e]
    refine .inr ⟨xs, SqT.of C.here, (fun z => by have := z.2; rw [sIx_neg] at this; omega), fun _ c H1 n1 => ?_⟩
    have h1 := n1.here
    rw [cutV_toneg] at h1
    have B1 := hB.same n1.same
    refine ⟨b, _, rfl, B1, by omega, fun vo do' H2 t2 B2 go => ?_⟩
    have m2 := B1.mv t2
    exact fin c H2 vo do' (m2 _ _ h1 tup_nobox) (n1.but.trans t2) (B2.mono (by omega)) ((Mv.of n1.same).trans m2) (go.mono (by decide) (by decide))
  have lpe := (el_all pe).len
  refine .inl ⟨_, .inr (SqT.of hlp), ?_⟩
  refine ite2 (fun hz => ?_) (fun hz => ?_)
  · refine .inr ⟨xs, SqT.of C.here, (fun z => by have := z.2; rw [sIx_neg] at this; omega), fun _ c H1 n1 => ?_⟩
    have h1 := n1.here
    rw [cutV_toneg] at h1
    have B1 := hB.same n1.same
    refine ⟨b, _, rfl, B1, by omega, fun vo do' H2 t2 B2 go => ?_⟩
    have m2 := B1.mv t2
    exact fin c H2 vo do' (m2 _ _ h1 tup_nobox) (n1.but.trans t2) (B2.mono (by omega)) ((Mv.of n1.same).trans m2) (go.mono (by decide) (by decide))
  have hz' : ps.length ≠ 0 := by have := vIntN hz; omega
  refine .inl ⟨_, .inr (SqT.of hlp), ?_⟩
  refine ⟨b, _, n, rfl, rfl, by omega, by omega, hB, by omega, fun pl H1 t1 B1 p0 p1 => ?_⟩
  refine ⟨b, 4, _, rfl, rfl, by decide, by decide, B1, by omega, fun wy H2 t2 B2 w0 w1 => ?_⟩
  obtain ⟨j, rfl⟩ : ∃ j : Nat, pl = (j : Int) := ⟨pl.toNat, by omega⟩
  have m02 := (hB.mv t1).trans (B1.mv t2)
  have t02 := t1.trans t2
  have hlp2 := m02 _ _ hlp tup_nobox
  have C2 := C.mv m02
  obtain ⟨vp, hvp⟩ : ∃ vp, ps[j]? = some vp := ⟨ps[j]'(by omega), List.getElem?_eq_getElem (by omega)⟩
  obtain ⟨dp, hdp, el⟩ := paired_at pe hvp
  refine ⟨_, vp, .inr (SqT.of hlp2), atI_nat hvp, ?_⟩
  have ge2 : GAll H2 1 12100 ps es := (el_all pe).mv m02
  refine ite2 (fun hw => ?_) (fun hw => ?_)
  · refine .inr ⟨xs, SqT.of C2.here, (fun z => by have := z.2; rw [sIx_neg] at this; omega), fun _ c H3 n3 => ?_⟩
    have h3 := n3.here
    rw [cutV_toneg] at h3
    refine ⟨ps, .inr (SqT.of (n3.keep hlp2)), fun l4' H4 n4 far => ?_⟩
    exact fin c H4 _ _ (n4.keep h3) ((t02.nw n3).nw n4) (((B2.same n3.same).same n4.same).mono (by omega)) (m02.trans (Mv.of (n3.same.trans n4.same)))
      ((Gd.lst (n := 4) n4.here far (ge2.mv (Mv.of (n3.same.trans n4.same))) l4 bx).mono (by decide) (by decide))
  refine ite2 (fun hw1 => ?_) (fun hw1 => ?_)
  · refine .inr ⟨xs, SqT.of C2.here, (fun z => by have := z.2; rw [sIx_neg] at this; omega), fun _ c H3 n3 => ?_⟩
    have h3 := n3.here
    rw [cutV_toneg] at h3
    have hlp3 := n3.keep hlp2
    have pne : ps ≠ [] := fun z => hz' (by rw [z]; rfl)
    refine .inr ⟨ps, ps, SqT.of hlp3, SqT.of hlp3, sz (by omega), (fun e => absurd e pne), (fun _ e => absurd e pne), fun _ _ r4 H4 n4 => ?_⟩
    have g4 := ge2.mv (Mv.of (n3.same.trans n4.same))
    exact fin c H4 _ _ (n4.keep h3) ((t02.nw n3).nw n4) (((B2.same n3.same).same n4.same).mono (by omega)) (m02.trans (Mv.of (n3.same.trans n4.same)))
      ((Gd.tup (n := 8) n4.here (g4.app g4) (by rw [List.length_append]; omega)).mono (by decide) (by decide))
  have el2 := el.mv m02
  have gp := el2.gd
  have tail : ∀ (Hn : Hp) (vN : V) (dN : PyData), But b H Hn → BoxAt (n + 8) Hn b → Mv H Hn → Gd Hn 4 21000 vN dN →
      tRet (tOp (zAdd K) (tSl (zSl K) (tV 1) tNoPart (tPz (tUn zNeg (tC (V.int 1))))) (tTz (tCons (tOp (zAdd K) (tOp (zAdd K) (tSl (zSl K) (tV 2) tNoPart (tPz (tV 3))) (tTz (tCons (tV 5) tNil))) (tSl (zSl K) (tV 2) (tPz (tOp (zAdd K) (tV 3) (tC (V.int 1)))) tNoPart)) tNil))) { nx := fun x H' => Q V.non H', rt := Q } [some (.ref b), some (.ref p), some (.ref lp), some (.int (j : Int)), some (.int wy), some vN] Hn := fun Hn vN dN t B m g => by
    have hlpn := m _ _ hlp tup_nobox
    refine .inr ⟨xs, SqT.of (m _ _ C.here tup_nobox), (fun z => by have := z.2; rw [sIx_neg] at this; omega), fun _ c H3 n3 => ?_⟩
    have h3 := n3.here
    rw [cutV_toneg] at h3
    refine .inr ⟨ps, SqT.of (n3.keep hlpn), (fun z => by have := z.2; rw [sIx_pos (by omega), Int.toNat_natCast] at this; omega), fun _ c4 H4 n4 => ?_⟩
    have h4 := n4.here
    rw [cutV_to] at h4
    refine ⟨by show 1 ≤ sizeLine; decide, fun c5 H5 n5 => ?_⟩
    refine addT (n5.keep h4) n5.here (sz (by rw [List.length_take]; show _ + 1 ≤ _; omega)) fun r6 H6 s6 h6 => ?_
    have s36 := (n4.same.trans n5.same).trans s6
    refine .inr ⟨ps, SqT.of (s36 _ _ (n3.keep hlpn)), (fun z => by have := z.1; rw [sIx_pos (by omega)] at this; omega), fun _ c7 H7 n7 => ?_⟩
    have h7 := n7.here
    rw [show ((j : Nat) : Int) + 1 = ((j + 1 : Nat) : Int) by omega, cutV_fr] at h7
    refine addT (n7.keep h6) h7 (sz (by rw [List.length_append, List.length_take, List.length_drop]; show _ + 1 + _ ≤ _; omega)) fun r8 H8 s8 h8 => ?_
    have s38 := (s36.trans n7.same).trans s8
    have sn8 := n3.same.trans s38
    have ge8 : GAll H8 4 21000 ps es := (((el_all pe).mv m).mv (Mv.of sn8)).mono (by decide) (by decide)
    exact fin c H8 _ _ (s38 _ _ h3) (t.trans (But.of sn8)) ((B.same sn8).mono (by omega)) (m.trans (Mv.of sn8))
      ((Gd.tup (n := 5) h8 (((ge8.take j).app (.cons (g.mv (Mv.of sn8)) .nil)).app (ge8.drop (j + 1))) (by rw [List.length_append, List.length_append, List.length_take, List.length_drop]; show _ + 1 + _ ≤ _; omega)).mono (by decide) (by decide))
  refine ⟨by decide, kindD dp, Vd.kind ⟨_, gp.dz⟩, ?_⟩
  rcases el2 with ⟨_, at'⟩ | ⟨ip, us, is', rfl, rfl, hip, gi, l6, bx6⟩
  · have e : isK (kindD dp) "tuple" = false := by cases dp <;> first | rfl | cases at'
    rw [e]
    refine ⟨by decide, kindD dp, Vd.kind ⟨_, gp.dz⟩, ?_⟩
    rw [e]
    refine ⟨b, _, rfl, B2, by omega, fun vN dN H3 t3 B3 g3 => ?_⟩
    exact tail H3 vN dN (t02.trans t3) (B3.mono (by omega)) (m02.trans (B2.mv t3)) (g3.mono (by decide) (by decide))
  · refine .inl ⟨_, .inr (SqT.of hip), ?_⟩
    refine ite2 (fun hl => ?_) (fun hl => ?_)
    · refine ite2 (fun hw2 => ?_) (fun hw2 => ?_)
      · refine ⟨b, _, ip, 3, 2000, us, is', rfl, rfl, B2, by omega, hip, gi.mono (by decide) (by decide), by decide, by decide, by omega, by omega, fun q3 ys3 es3 H3 t3 B3 h3 g3 l3 => ?_⟩
        exact tail H3 _ _ (t02.trans t3) (B3.mono (by omega)) (m02.trans (B2.mv t3)) ((Gd.tup (n := 6) h3 g3 (by omega)).mono (by decide) (by decide))
      · refine ⟨by decide, _, Vd.kind ⟨_, gp.dz⟩, ?_⟩
        refine ⟨b, _, ip, 0, 2000, us, is', rfl, rfl, B2, by omega, hip, gi, by decide, by omega, by omega, bx6, fun vN dN H3 t3 B3 g3 => ?_⟩
        exact tail H3 vN dN (t02.trans t3) (B3.mono (by omega)) (m02.trans (B2.mv t3)) (g3.mono (by decide) (by decide))
    · exact absurd (dF hl) (by omega)

/-! ### _law_renamed(_law_box_here, _law_value), level 2 -/
abbrev s__law_renamed : Stmt := top 78
abbrev N__law_renamed : List Str := ["_law_box_here", "_law_value", "_law_words"]
theorem sc__law_renamed : FnScope N__law_renamed ["_law_box_here", "_law_value"] (defScope s__law_renamed) := ⟨rfl, rfl, rfl, by decide +kernel, rfl, by decide +kernel, by decide +kernel⟩
theorem ok__law_renamed (C__law_take : Ct P w K mg base CX0 1 "_law_take" ["_law_box_here", "_law_many"] (sp__law_take K)) (D : Df K mg "_law_renamed" s__law_renamed ["_law_box_here", "_law_value"]) : Ct P w K mg base CX0 2 "_law_renamed" ["_law_box_here", "_law_value"] (sp__law_renamed K) := by
  refine ct2 D sc__law_renamed fun f cdv A outer s H a_box_here a_value Q E hr h => ⟨_, (pss_cons (ps_set (i := 2) sc__law_renamed.nd rfl (Or.inl rfl) (pe_lz (pa_cons pe_str (pa_cons pe_str (pa_cons pe_str (pa_cons pe_str (pa_cons pe_str (pa_cons pe_str (pa_cons pe_str (pa_cons pe_str (pa_cons pe_str (pa_cons pe_str (pa_cons pe_non (pa_cons pe_int (pa_cons (pe_tz (pa_cons pe_str pa_nil)) pa_nil)))))))))))))))
    (pss_one (ps_ret (pe_op (k_add K) (pe_tz (pa_cons (pe_ix (k_ix K) (pz 2) (pe_cl C__law_take (hr.mono (by decide)) pass0 (pa_cons (pz 0) (pa_cons pe_int pa_nil))) (fun _ _ => rfl)) pa_nil)) (pe_slice (k_sl K) (pz 1) (po_z pe_int) po_none))))), ?_⟩
  obtain ⟨b, n, p, xs, ds, rfl, rfl, hB, hn, C, q⟩ := h
  have ll := C.all.len
  have h2 := C.two
  have h5 := C.five
  refine ⟨by show 1 ≤ sizeLine; decide, fun w1 H1 n1 => ?_⟩
  refine ⟨by show 13 ≤ sizeLine; decide, fun m H2 n2 => ?_⟩
  have s02 := n1.same.trans n2.same
  have B2 := hB.same s02
  refine ⟨b, 13, n, rfl, rfl, by decide, by decide, B2, by omega, fun r H3 t3 B3 r0 r1 => ?_⟩
  have nmb := B2.neq n2.here (fun _ _ _ _ z => by cases z)
  obtain ⟨w, e, hw, _⟩ := atI_some (xs := [V.str "topic", .str "group", .str "send", .str "done", .str "failed", .str "now", .str "fail", .str "Send", .str "", .str "want", .non, .int 0, .ref w1]) r0 r1
  refine ⟨_, w, .inl (SqL.of (t3.at nmb n2.here)), e, ?_⟩
  have m3 := B2.mv t3
  have gw : ∃ d, Gd H3 1 3000 w d := by
    have gn : Gd H3 1 (4 + 1 * 2002) (.ref w1) (.tuple [.str "now"]) := Gd.tup (m3 _ _ (n2.keep n1.here) tup_nobox) (.cons (gd_lit (by decide +kernel)) .nil) (Nat.le_refl 1)
    simp only [List.mem_cons, List.not_mem_nil, or_false] at hw
    rcases hw with rfl | rfl | rfl | rfl | rfl | rfl | rfl | rfl | rfl | rfl | rfl | rfl | rfl
    · exact ⟨_, (gd_lit (by decide +kernel)).mono (by decide) (by decide)⟩
    · exact ⟨_, (gd_lit (by decide +kernel)).mono (by decide) (by decide)⟩
    · exact ⟨_, (gd_lit (by decide +kernel)).mono (by decide) (by decide)⟩
    · exact ⟨_, (gd_lit (by decide +kernel)).mono (by decide) (by decide)⟩
    · exact ⟨_, (gd_lit (by decide +kernel)).mono (by decide) (by decide)⟩
    · exact ⟨_, (gd_lit (by decide +kernel)).mono (by decide) (by decide)⟩
    · exact ⟨_, (gd_lit (by decide +kernel)).mono (by decide) (by decide)⟩
    · exact ⟨_, (gd_lit (by decide +kernel)).mono (by decide) (by decide)⟩
    · exact ⟨_, (gd_lit (by decide +kernel)).mono (by decide) (by decide)⟩
    · exact ⟨_, (gd_lit (by decide +kernel)).mono (by decide) (by decide)⟩
    · exact ⟨_, gd_non.mono (by decide) (by decide)⟩
    · exact ⟨_, (gd_int (by decide)).mono (by decide) (by decide)⟩
    · exact ⟨_, gn.mono (by decide) (by decide)⟩
  obtain ⟨dw, gw⟩ := gw
  refine ⟨by show 1 ≤ sizeLine; decide, fun p1 H4 n4 => ?_⟩
  have m4 := ((Mv.of s02).trans m3).trans (Mv.of n4.same)
  have C4 := C.mv m4
  refine .inr ⟨xs, SqT.of C4.here, (fun z => by have := z.1; rw [sIx_pos (by omega)] at this; omega), fun _ c H5 n5 => ?_⟩
  have h5' : H5 c = some (.tup (xs.drop 1)) := by rw [← cutV_fr]; exact n5.here
  refine addT (n5.keep n4.here) h5' (sz (by rw [List.length_drop]; show 1 + _ ≤ _; omega)) fun r6 H6 s6 h6 => ?_
  have s46 := n5.same.trans s6
  refine q r6 _ ([dw] ++ ds.drop 1) H6 ((((But.of s02).trans t3).nw n4).trans (But.of s46)) ((B3.same n4.same).same s46) h6 ?_ (by rw [List.length_append, List.length_drop]; show 1 + _ ≤ _; omega)
  exact GAll.app (.cons ((gw.mv (Mv.of (n4.same.trans s46))).mono (by decide) (by decide)) .nil) ((((C.all).mv (m4.trans (Mv.of s46))).drop 1).mono (by decide) (by decide))

/-! ### _law_told(_law_answer, _law_due), level 1 -/
abbrev s__law_told : Stmt := top 77
abbrev N__law_told : List Str := ["_law_answer", "_law_due"]
theorem sc__law_told : FnScope N__law_told ["_law_answer", "_law_due"] (defScope s__law_told) := ⟨rfl, rfl, rfl, by decide +kernel, rfl, by decide +kernel, by decide +kernel⟩
theorem ok__law_told (D : Df K mg "_law_told" s__law_told ["_law_answer", "_law_due"]) : Ct P w K mg base CX0 1 "_law_told" ["_law_answer", "_law_due"] (sp__law_told K) := by
  refine ct2 D sc__law_told fun f cdv A outer s H a_answer a_due Q E hr h => ⟨_, (pss_one (ps_ret (pe_ifExp (pt_trK K (pz 1)) (pe_cmpR o_is (pz 0) pe_bl (nomark _)) (pe_cmpR o_is (pz 0) pe_bl (nomark _))))), ?_⟩
  obtain ⟨a, b, rfl, rfl, q⟩ := h
  cases b with
  | true =>
    show Q (.bl (false ^^ decide (a = true))) H
    cases a <;> exact q
  | false =>
    show Q (.bl (false ^^ decide (a = false))) H
    cases a <;> exact q

/-! ### is_signs(value), level 1 -/
abbrev s_is_signs : Stmt := top 4
abbrev N_is_signs : List Str := ["value"]
theorem sc_is_signs : FnScope N_is_signs ["value"] (defScope s_is_signs) := ⟨rfl, rfl, rfl, by decide +kernel, rfl, by decide +kernel, by decide +kernel⟩
theorem ok_is_signs (T : Txt K mg) (D : Df K mg "is_signs" s_is_signs ["value"]) : Ct P w K mg base CX0 1 "is_signs" ["value"] (sp_is_signs K) := by
  refine ct1 D sc_is_signs fun f cdv A outer s H a_value Q E hr h => ⟨_, (pss_one (ps_ret (pe_andZ (pe_callB (k_isi K) (by rfl) T.n_isinstance bt_isinstance (pa_cons (pz 0) (pa_cons (pe_bltn (v := .ty "str") (by rfl) T.n_str bt_str rfl) pa_nil))) (pe_andZ (pe_ms0 PySem.F.slot_str_isascii PySem.F.type_str_isascii m_isascii (pz 0)) (pe_one (pe_ms0 PySem.F.slot_str_isprintable PySem.F.type_str_isprintable m_isprintable (pz 0))))))), ?_⟩
  obtain ⟨d, hd, ha, q⟩ := h
  refine ⟨by decide, kindD d, hd.kind, ?_⟩
  cases d with
  | str x =>
    obtain rfl := hd.str
    have hx := (Bool.and_eq_true _ _ ▸ ha : asciiS x = true ∧ _).1
    refine iteY (isascii_D hx) ?_
    show Q (.bl (Txt.isprintable x)) H
    rw [isprintable_D hx]
    exact q
  | _ => exact q

/-! ### is_name(value), level 2 -/
abbrev s_is_name : Stmt := top 14
abbrev N_is_name : List Str := ["value"]
theorem sc_is_name : FnScope N_is_name ["value"] (defScope s_is_name) := ⟨rfl, rfl, rfl, by decide +kernel, rfl, by decide +kernel, by decide +kernel⟩
theorem ok_is_name (T : Txt K mg) (C_is_signs : Ct P w K mg base CX0 1 "is_signs" ["value"] (sp_is_signs K)) (D : Df K mg "is_name" s_is_name ["value"]) : Ct P w K mg base CX0 2 "is_name" ["value"] (sp_is_name K) := by
  refine ct1 D sc_is_name fun f cdv A outer s H a_value Q E hr h => ⟨_, (pss_one (ps_ret (pe_andZ (pe_cl C_is_signs (hr.mono (by decide)) pass0 (pa_cons (pz 0) pa_nil)) (pe_andZ (pe_cmpR o_le (pe_callB (k_len K) (by rfl) T.n_len bt_len (pa_cons (pz 0) pa_nil)) (pe_gk T.c_MOST_NAME) (nomark _)) (pe_andZ (pe_ms0 PySem.F.slot_str_isalpha PySem.F.type_str_isalpha m_isalpha (pz 0)) (pe_one (pe_ms0 PySem.F.slot_str_islower PySem.F.type_str_islower m_islower (pz 0)))))))), ?_⟩
  obtain ⟨d, hd, ha, q⟩ := h
  refine ⟨d, hd, ha, ?_⟩
  cases d with
  | str x =>
    obtain rfl := hd.str
    have hz := (Bool.and_eq_true _ _ ▸ ha : asciiS x = true ∧ _)
    have hx : x.length ≤ 100000 := of_decide_eq_true hz.2
    rw [← name_law hz.1] at q
    cases hp : prS x with
    | false =>
      rw [hp] at q
      exact iteN hp q
    | true =>
      rw [hp] at q
      refine iteY hp ?_
      refine ⟨sz (by omega), ?_⟩
      refine ite2 (fun h8 => ?_) (fun h8 => ?_)
      · have h8' : (x.length : Int) ≤ 8 := dT h8
        rw [show decide (x.length ≤ 8) = true from decide_eq_true (by omega)] at q
        cases hi : Txt.isalpha x with
        | false =>
          rw [hi] at q
          exact iteN hi q
        | true =>
          rw [hi] at q
          exact iteY hi q
      · have h8' : ¬ (x.length : Int) ≤ 8 := dF h8
        rw [show decide (x.length ≤ 8) = false from decide_eq_false (by omega)] at q
        exact q
  | _ => exact q

/-! ### is_flag(value), level 1 -/
abbrev s_is_flag : Stmt := top 36
abbrev N_is_flag : List Str := ["value"]
theorem sc_is_flag : FnScope N_is_flag ["value"] (defScope s_is_flag) := ⟨rfl, rfl, rfl, by decide +kernel, rfl, by decide +kernel, by decide +kernel⟩
theorem ok_is_flag (T : Txt K mg) (D : Df K mg "is_flag" s_is_flag ["value"]) : Ct P w K mg base CX0 1 "is_flag" ["value"] (sp_is_flag K) := by
  refine ct1 D sc_is_flag fun f cdv A outer s H a_value Q E hr h => ⟨_, (pss_one (ps_ret (pe_callB (k_isi K) (by rfl) T.n_isinstance bt_isinstance (pa_cons (pz 0) (pa_cons (pe_bltn (v := .ty "bool") (by rfl) T.n_bool bt_bool rfl) pa_nil))))), ?_⟩
  obtain ⟨d, hd, q⟩ := h
  refine ⟨by decide, kindD d, hd.kind, ?_⟩
  cases d <;> exact q

/-! ### is_dead_topic(value), level 3 -/
abbrev s_is_dead_topic : Stmt := top 43
abbrev N_is_dead_topic : List Str := ["value"]
theorem sc_is_dead_topic : FnScope N_is_dead_topic ["value"] (defScope s_is_dead_topic) := ⟨rfl, rfl, rfl, by decide +kernel, rfl, by decide +kernel, by decide +kernel⟩
theorem ok_is_dead_topic (C_is_name : Ct P w K mg base CX0 2 "is_name" ["value"] (sp_is_name K)) (D : Df K mg "is_dead_topic" s_is_dead_topic ["value"]) : Ct P w K mg base CX0 3 "is_dead_topic" ["value"] (sp_is_dead_topic K) := by
  refine ct1 D sc_is_dead_topic fun f cdv A outer s H a_value Q E hr h => ⟨_, (pss_one (ps_ret (pe_orZ (pe_cmpR o_is (pz 0) pe_non (nomark _)) (pe_one (pe_cl C_is_name (hr.mono (by decide)) pass0 (pa_cons (pz 0) pa_nil)))))), ?_⟩
  obtain ⟨d, hd, ha, q⟩ := h
  cases d with
  | none =>
    obtain ⟨g, hd⟩ := hd
    cases hd
    exact q
  | _ =>
    obtain ⟨g, hd'⟩ := id hd
    cases hd'
    exact ⟨_, hd, ha, q⟩

/-! ### is_integer(value), level 1 -/
abbrev s_is_integer : Stmt := top 2
abbrev N_is_integer : List Str := ["value"]
theorem sc_is_integer : FnScope N_is_integer ["value"] (defScope s_is_integer) := ⟨rfl, rfl, rfl, by decide +kernel, rfl, by decide +kernel, by decide +kernel⟩
theorem ok_is_integer (T : Txt K mg) (D : Df K mg "is_integer" s_is_integer ["value"]) : Ct P w K mg base CX0 1 "is_integer" ["value"] (sp_is_integer K) := by
  refine ct1 D sc_is_integer fun f cdv A outer s H a_value Q E hr h => ⟨_, (pss_one (ps_ret (pe_andZ (pe_callB (k_isi K) (by rfl) T.n_isinstance bt_isinstance (pa_cons (pz 0) (pa_cons (pe_bltn (v := .ty "int") (by rfl) T.n_int bt_int rfl) pa_nil))) (pe_one (pe_notZ (pe_callB (k_isi K) (by rfl) T.n_isinstance bt_isinstance (pa_cons (pz 0) (pa_cons (pe_bltn (v := .ty "bool") (by rfl) T.n_bool bt_bool rfl) pa_nil)))))))), ?_⟩
  obtain ⟨d, hd, q⟩ := h
  refine ⟨by decide, kindD d, hd.kind, ?_⟩
  cases d with
  | bool b =>
    refine ⟨by decide, _, hd.kind, ?_⟩
    exact q
  | int i =>
    refine ⟨by decide, _, hd.kind, ?_⟩
    exact q
  | _ => exact q

/-! ### is_within(value, least, most), level 2 -/
abbrev s_is_within : Stmt := top 3
abbrev N_is_within : List Str := ["value", "least", "most"]
theorem sc_is_within : FnScope N_is_within ["value", "least", "most"] (defScope s_is_within) := ⟨rfl, rfl, rfl, by decide +kernel, rfl, by decide +kernel, by decide +kernel⟩
theorem ok_is_within (C_is_integer : Ct P w K mg base CX0 1 "is_integer" ["value"] (sp_is_integer K)) (D : Df K mg "is_within" s_is_within ["value", "least", "most"]) : Ct P w K mg base CX0 2 "is_within" ["value", "least", "most"] (sp_is_within K) := by
  refine ct3 D sc_is_within fun f cdv A outer s H a_value a_least a_most Q E hr h => ⟨_, (pss_one (ps_ret (pe_andZ (pe_cl C_is_integer (hr.mono (by decide)) pass0 (pa_cons (pz 0) pa_nil)) (pe_one (pe_chZ (pe_chain (opr_mon o_le) o_le (pe_mon (pz 1)) (pe_mon (pz 0)) (pz 2))))))), ?_⟩
  obtain ⟨d, i, j, hd, rfl, rfl, q⟩ := h
  refine ⟨d, hd, ?_⟩
  cases d with
  | int k =>
    obtain rfl := hd.int
    exact within_ch (P := fun v => Q v H) q
  | _ => exact q

/-! ### is_number(value), level 3 -/
abbrev s_is_number : Stmt := top 38
abbrev N_is_number : List Str := ["value"]
theorem sc_is_number : FnScope N_is_number ["value"] (defScope s_is_number) := ⟨rfl, rfl, rfl, by decide +kernel, rfl, by decide +kernel, by decide +kernel⟩
theorem ok_is_number (T : Txt K mg) (C_is_within : Ct P w K mg base CX0 2 "is_within" ["value", "least", "most"] (sp_is_within K)) (D : Df K mg "is_number" s_is_number ["value"]) : Ct P w K mg base CX0 3 "is_number" ["value"] (sp_is_number K) := by
  refine ct1 D sc_is_number fun f cdv A outer s H a_value Q E hr h => ⟨_, (pss_one (ps_ret (pe_cl C_is_within (hr.mono (by decide)) pass0 (pa_cons (pz 0) (pa_cons pe_int (pa_cons (pe_gk T.c_MOST_NUMBER_letters) pa_nil)))))), ?_⟩
  obtain ⟨d, hd, q⟩ := h
  exact ⟨d, 1, 999999999999, hd, rfl, rfl, q⟩

/-! ### is_plain(value), level 2 -/
abbrev s_is_plain : Stmt := top 15
abbrev N_is_plain : List Str := ["value"]
theorem sc_is_plain : FnScope N_is_plain ["value"] (defScope s_is_plain) := ⟨rfl, rfl, rfl, by decide +kernel, rfl, by decide +kernel, by decide +kernel⟩
theorem ok_is_plain (T : Txt K mg) (C_is_signs : Ct P w K mg base CX0 1 "is_signs" ["value"] (sp_is_signs K)) (D : Df K mg "is_plain" s_is_plain ["value"]) : Ct P w K mg base CX0 2 "is_plain" ["value"] (sp_is_plain K) := by
  refine ct1 D sc_is_plain fun f cdv A outer s H a_value Q E hr h => ⟨_, (pss_one (ps_ret (pe_andZ (pe_cl C_is_signs (hr.mono (by decide)) pass0 (pa_cons (pz 0) pa_nil)) (pe_one (pe_cmpR o_le (pe_callB (k_len K) (by rfl) T.n_len bt_len (pa_cons (pz 0) pa_nil)) (pe_gk T.c_MOST_PLAIN) (nomark _)))))), ?_⟩
  obtain ⟨d, hd, ha, q⟩ := h
  refine ⟨d, hd, ha, ?_⟩
  cases d with
  | str x =>
    obtain rfl := hd.str
    have hx : x.length ≤ 100000 := of_decide_eq_true (Bool.and_eq_true _ _ ▸ ha : asciiS x = true ∧ _).2
    have q : Q (.bl (prS x && decide (x.length ≤ 60))) H := q
    cases hp : prS x with
    | false =>
      rw [hp] at q
      exact iteN hp q
    | true =>
      rw [hp] at q
      refine iteY hp ?_
      refine ⟨sz (by omega), ?_⟩
      show Q (.bl (decide ((x.length : Int) ≤ 60))) H
      rw [show decide ((x.length : Int) ≤ 60) = (true && decide (x.length ≤ 60)) by simp; omega]
      exact q
  | _ => exact q

/-! ### is_body(value), level 3 -/
abbrev s_is_body : Stmt := top 37
abbrev N_is_body : List Str := ["value"]
theorem sc_is_body : FnScope N_is_body ["value"] (defScope s_is_body) := ⟨rfl, rfl, rfl, by decide +kernel, rfl, by decide +kernel, by decide +kernel⟩
theorem ok_is_body (T : Txt K mg) (C_is_plain : Ct P w K mg base CX0 2 "is_plain" ["value"] (sp_is_plain K)) (D : Df K mg "is_body" s_is_body ["value"]) : Ct P w K mg base CX0 3 "is_body" ["value"] (sp_is_body K) := by
  refine ct1 D sc_is_body fun f cdv A outer s H a_value Q E hr h => ⟨_, (pss_one (ps_ret (pe_andZ (pe_cl C_is_plain (hr.mono (by decide)) pass0 (pa_cons (pz 0) pa_nil)) (pe_one (pe_cmpR o_le (pe_callB (k_len K) (by rfl) T.n_len bt_len (pa_cons (pz 0) pa_nil)) (pe_gk T.c_MOST_BODY) (nomark _)))))), ?_⟩
  obtain ⟨d, hd, ha, q⟩ := h
  refine ⟨d, hd, ha, ?_⟩
  cases d with
  | str x =>
    obtain rfl := hd.str
    have hx : x.length ≤ 100000 := of_decide_eq_true (Bool.and_eq_true _ _ ▸ ha : asciiS x = true ∧ _).2
    have q : Q (.bl (prS x && decide (x.length ≤ 40))) H := q
    cases hp : (prS x && decide (x.length ≤ 60)) with
    | false =>
      refine iteN hp ?_
      rw [show (prS x && decide (x.length ≤ 40)) = false by
        rw [Bool.and_eq_false_iff] at hp ⊢
        rcases hp with h | h
        · exact .inl h
        · exact .inr (by simp at h ⊢; omega)] at q
      exact q
    | true =>
      refine iteY hp ?_
      rw [Bool.and_eq_true] at hp
      rw [hp.1] at q
      refine ⟨sz (by omega), ?_⟩
      show Q (.bl (decide ((x.length : Int) ≤ 40))) H
      rw [show decide ((x.length : Int) ≤ 40) = (true && decide (x.length ≤ 40)) by simp; omega]
      exact q
  | _ => exact q

/-! ### is_item(value), level 4 -/
abbrev s_is_item : Stmt := top 45
abbrev N_is_item : List Str := ["value", "topic", "key", "body", "priority", "delay", "span"]
theorem sc_is_item : FnScope N_is_item ["value"] (defScope s_is_item) := ⟨rfl, rfl, rfl, by decide +kernel, rfl, by decide +kernel, by decide +kernel⟩
theorem ok_is_item (T : Txt K mg) (C_is_body : Ct P w K mg base CX0 3 "is_body" ["value"] (sp_is_body K)) (C_is_name : Ct P w K mg base CX0 2 "is_name" ["value"] (sp_is_name K)) (C_is_within : Ct P w K mg base CX0 2 "is_within" ["value", "least", "most"] (sp_is_within K)) (D : Df K mg "is_item" s_is_item ["value"]) : Ct P w K mg base CX0 4 "is_item" ["value"] (sp_is_item K) := by
  refine ct1 D sc_is_item fun f cdv A outer s H a_value Q E hr h => ⟨_, (pss_cons (ps_if (PW.pt (pw_or (pt_not (pt_trK K (pe_callB (k_isi K) (by rfl) T.n_isinstance bt_isinstance (pa_cons (pz 0) (pa_cons (pe_bltn (v := .ty "tuple") (by rfl) T.n_tuple bt_tuple rfl) pa_nil))))) (pw_or1 (pt_cmpZ (k_ne K hr.units) (pe_callB (k_len K) (by rfl) T.n_len bt_len (pa_cons (pz 0) pa_nil)) pe_int (nomark _))))) 
      (pss_one (ps_ret pe_bl)) pss_nil)
    (pss_cons (ps_asg (pz 0) (pg_tzK (n := 6) K (by rfl) (pgs_cz (pg_name (i := 1) sc_is_item.nd rfl (Or.inl rfl)) (pgs_cz (pg_name (i := 2) sc_is_item.nd rfl (Or.inl rfl)) (pgs_cz (pg_name (i := 3) sc_is_item.nd rfl (Or.inl rfl)) (pgs_cz (pg_name (i := 4) sc_is_item.nd rfl (Or.inl rfl)) (pgs_cz (pg_name (i := 5) sc_is_item.nd rfl (Or.inl rfl)) (pgs_cz (pg_name (i := 6) sc_is_item.nd rfl (Or.inl rfl)) pgs_nz))))))))
    (pss_cons (ps_if (PW.pt (pw_or (pt_not (pt_trK K (pe_cl C_is_name (hr.mono (by decide)) pass0 (pa_cons (pz 1) pa_nil)))) (pw_or (pt_not (pt_trK K (pe_cl C_is_name (hr.mono (by decide)) pass0 (pa_cons (pz 2) pa_nil)))) (pw_or1 (pt_not (pt_trK K (pe_cl C_is_body (hr.mono (by decide)) pass0 (pa_cons (pz 3) pa_nil)))))))) 
      (pss_one (ps_ret pe_bl)) pss_nil)
    (pss_one (ps_ret (pe_andZ (pe_cl C_is_within (hr.mono (by decide)) pass0 (pa_cons (pz 4) (pa_cons pe_int (pa_cons (pe_gk T.c_MOST_PRIORITY) pa_nil)))) (pe_andZ (pe_cl C_is_within (hr.mono (by decide)) pass0 (pa_cons (pz 5) (pa_cons pe_int (pa_cons (pe_gk T.c_MOST_TICKS) pa_nil)))) (pe_one (pe_cl C_is_within (hr.mono (by decide)) pass0 (pa_cons (pz 6) (pa_cons pe_int (pa_cons (pe_gk T.c_MOST_TICKS) pa_nil)))))))))))), ?_⟩
  obtain ⟨d, hd, ha, q⟩ := h
  refine ⟨by decide, kindD d, hd.kind, ?_⟩
  cases d with
  | tuple ds =>
    obtain ⟨g, hd⟩ := hd
    cases hd with
    | @tup a xs _ h hx =>
      have ll := DzAll.len hx
      refine .inl ⟨_, .inr (SqT.of h), ?_⟩
      rcases Nat.decEq xs.length 6 with e | e
      · rw [item_len (by omega)] at q
        exact iteY (int_ne (k := 6) e) q
      · obtain ⟨x0, x1, x2, x3, x4, x5, rfl⟩ := six_of e
        cases hx with
        | @cons _ _ d0 _ h0 hx =>
        cases hx with
        | @cons _ _ d1 _ h1 hx =>
        cases hx with
        | @cons _ _ d2 _ h2 hx =>
        cases hx with
        | @cons _ _ d3 _ h3 hx =>
        cases hx with
        | @cons _ _ d4 _ h4 hx =>
        cases hx with
        | @cons _ _ d5 _ h5 hx =>
        cases hx
        have ha : (asc1 d0 && (asc1 d1 && (asc1 d2 && (asc1 d3 && (asc1 d4 && (asc1 d5 && true)))))) = true := ha
        simp only [Bool.and_eq_true] at ha
        obtain ⟨a0, a1, a2, _⟩ := ha
        have q : Q (.bl (nameD d0 && nameD d1 && plainD 40 d2 && within d3 0 3 && within d4 0 50 && within d5 0 50)) H := q
        refine ⟨_, SqT.of h, rfl, ?_⟩
        refine ⟨d0, ⟨g, h0⟩, a0, ?_⟩
        cases e0 : nameD d0 with
        | false =>
          rw [e0] at q
          exact q
        | true =>
        refine ⟨d1, ⟨g, h1⟩, a1, ?_⟩
        cases e1 : nameD d1 with
        | false =>
          rw [e0, e1] at q
          exact q
        | true =>
        refine ⟨d2, ⟨g, h2⟩, a2, ?_⟩
        cases e2 : plainD 40 d2 with
        | false =>
          rw [e0, e1, e2] at q
          exact q
        | true =>
        rw [e0, e1, e2] at q
        refine ⟨d3, 0, 3, ⟨g, h3⟩, rfl, rfl, ?_⟩
        cases e3 : within d3 0 3 with
        | false =>
          rw [e3] at q
          exact q
        | true =>
        rw [e3] at q
        refine ⟨d4, 0, 50, ⟨g, h4⟩, rfl, rfl, ?_⟩
        cases e4 : within d4 0 50 with
        | false =>
          rw [e4] at q
          exact q
        | true =>
        rw [e4] at q
        exact ⟨d5, 0, 50, ⟨g, h5⟩, rfl, rfl, q⟩
  | _ => exact q

/-! ### are_made(value), level 5 -/
abbrev s_are_made : Stmt := top 46
abbrev N_are_made : List Str := ["value", "item"]
theorem sc_are_made : FnScope N_are_made ["value"] (defScope s_are_made) := ⟨rfl, rfl, rfl, by decide +kernel, rfl, by decide +kernel, by decide +kernel⟩
theorem ok_are_made (T : Txt K mg) (C_is_item : Ct P w K mg base CX0 4 "is_item" ["value"] (sp_is_item K)) (D : Df K mg "are_made" s_are_made ["value"]) : Ct P w K mg base CX0 5 "are_made" ["value"] (sp_are_made K) := by
  refine ct1 D sc_are_made fun f cdv A outer s H a_value Q E hr h => ⟨_, (pss_one (ps_ret (pe_andZ (pe_callB (k_isi K) (by rfl) T.n_isinstance bt_isinstance (pa_cons (pz 0) (pa_cons (pe_bltn (v := .ty "tuple") (by rfl) T.n_tuple bt_tuple rfl) pa_nil))) (pe_andZ (pe_cmpR o_le (pe_callB (k_len K) (by rfl) T.n_len bt_len (pa_cons (pz 0) pa_nil)) (pe_gk T.c_MOST_ITEMS_letters) (nomark _)) (pe_one (pe_callB (k_all K rfl) (by rfl) T.n_all bt_all (pa_cons (pe_lcz (own := [("item", 1)]) (by rfl) sc_are_made.nd (pi_tzK K (pz 0)) (blkOk_by (own := [("item", 1)]) (N := N_are_made) (sc := defScope s_are_made) (by decide +kernel)) (fun _ _ _ _ _ => (pg_name (i := 1) sc_are_made.nd rfl (Or.inl rfl))) (fun _ _ _ _ _ => pts_nil) (fun _ _ _ _ _ => (pe_cl C_is_item (hr.mono (by decide)) pass0 (pa_cons (pz 1) pa_nil)))) pa_nil))))))), ?_⟩
  obtain ⟨d, hd, ha, q⟩ := h
  refine ⟨by decide, kindD d, hd.kind, ?_⟩
  cases d with
  | tuple ds =>
    obtain ⟨g, hd⟩ := hd
    cases hd with
    | @tup a xs _ h hx =>
    have ll := DzAll.len hx
    refine .inl ⟨_, .inr (SqT.of h), ?_⟩
    have e2 : decide ((xs.length : Int) ≤ 4) = decide (ds.length ≤ 4) := by
      rw [Bool.eq_iff_iff, decide_eq_true_iff, decide_eq_true_iff]
      omega
    show (if decide ((xs.length : Int) ≤ 4) = true then _ else _)
    rw [e2]
    have q : ∀ H2, Same H H2 → Q (.bl (decide (ds.length ≤ 4) && ds.all itemD)) H2 := q
    cases e : decide (ds.length ≤ 4) with
    | false =>
      rw [e] at q
      exact q H (Same.refl H)
    | true =>
    rw [e] at q
    have l4 : ds.length ≤ 4 := of_decide_eq_true e
    refine ⟨⟨_, SqT.of h⟩, ?_⟩
    refine fun D hD => lc_w (wk_tup xs) (by omega) (fun i acc H3 => Same H H3 ∧ acc = ((ds.take i).map fun d => V.bl (itemD d))) (fun H3 n3 => ⟨n3.same, rfl⟩) (fun i acc H3 z => SqT.of (z.1 _ _ h))
      (fun i acc H3 z => by rw [z.2, List.length_map, List.length_take]; omega) ?_ ?_
    · rintro i x acc H3 hx' hD3 ⟨s3, rfl⟩
      obtain ⟨di, hdi, vi⟩ := dz_at hx hx'
      refine ⟨rfl, ?_⟩
      refine ⟨di, ⟨g, Dz.same s3 vi⟩, asc_of (ascAll_mem ha di (List.mem_of_getElem? hdi)), ?_⟩
      refine ⟨hD3, fun H5 w5 => ⟨s3.wr hD w5, ?_⟩⟩
      rw [List.take_add_one, hdi, List.map_append]
      rfl
    · rintro acc H3 _ hD3 ⟨s3, rfl⟩
      rw [ll, List.take_length] at hD3
      refine ⟨ds.map itemD, SqL.of (by rw [List.map_map]; exact hD3), ?_⟩
      have e3 : (ds.map itemD).all id = ds.all itemD := by rw [List.all_map]; rfl
      rw [e3]
      exact q _ s3
  | _ => exact q H (Same.refl H)

/-! ### are_sent(value), level 6 -/
abbrev s_are_sent : Stmt := top 47
abbrev N_are_sent : List Str := ["value"]
theorem sc_are_sent : FnScope N_are_sent ["value"] (defScope s_are_sent) := ⟨rfl, rfl, rfl, by decide +kernel, rfl, by decide +kernel, by decide +kernel⟩
theorem ok_are_sent (T : Txt K mg) (C_are_made : Ct P w K mg base CX0 5 "are_made" ["value"] (sp_are_made K)) (D : Df K mg "are_sent" s_are_sent ["value"]) : Ct P w K mg base CX0 6 "are_sent" ["value"] (sp_are_sent K) := by
  refine ct1 D sc_are_sent fun f cdv A outer s H a_value Q E hr h => ⟨_, (pss_one (ps_ret (pe_andZ (pe_cl C_are_made (hr.mono (by decide)) pass0 (pa_cons (pz 0) pa_nil)) (pe_one (pe_cmpR o_gtS (pe_callB (k_len K) (by rfl) T.n_len bt_len (pa_cons (pz 0) pa_nil)) pe_int (nomark _)))))), ?_⟩
  obtain ⟨d, hd, ha, q⟩ := h
  refine ⟨d, hd, ha, fun H2 s2 => ?_⟩
  cases e : madeD d with
  | false =>
    rw [made_sent e] at q
    exact q _ s2
  | true =>
    obtain ⟨ds, rfl, l4, ai⟩ := made_of e
    obtain ⟨g, hd⟩ := hd
    cases hd with
    | @tup a xs _ h hx =>
    have ll := DzAll.len hx
    refine .inl ⟨_, .inr (SqT.of (s2 _ _ h)), ?_⟩
    rw [sent_of l4 ai, ← ll] at q
    have e2 : decide ((xs.length : Int) > 0) = decide (1 ≤ xs.length) := by
      rw [Bool.eq_iff_iff, decide_eq_true_iff, decide_eq_true_iff]
      omega
    show Q (.bl (decide ((xs.length : Int) > 0))) H2
    rw [e2]
    exact q _ s2

/-! ### is_token(value), level 4 -/
abbrev s_is_token : Stmt := top 44
abbrev N_is_token : List Str := ["value"]
theorem sc_is_token : FnScope N_is_token ["value"] (defScope s_is_token) := ⟨rfl, rfl, rfl, by decide +kernel, rfl, by decide +kernel, by decide +kernel⟩
theorem ok_is_token (T : Txt K mg) (C_is_number : Ct P w K mg base CX0 3 "is_number" ["value"] (sp_is_number K)) (D : Df K mg "is_token" s_is_token ["value"]) : Ct P w K mg base CX0 4 "is_token" ["value"] (sp_is_token K) := by
  refine ct1 D sc_is_token fun f cdv A outer s H a_value Q E hr h => ⟨_, (pss_one (ps_ret (pe_andZ (pe_callB (k_isi K) (by rfl) T.n_isinstance bt_isinstance (pa_cons (pz 0) (pa_cons (pe_bltn (v := .ty "tuple") (by rfl) T.n_tuple bt_tuple rfl) pa_nil))) (pe_andZ (pe_cmpR (k_eq K hr.units) (pe_callB (k_len K) (by rfl) T.n_len bt_len (pa_cons (pz 0) pa_nil)) pe_int (nomark _)) (pe_andZ (pe_cl C_is_number (hr.mono (by decide)) pass0 (pa_cons (pe_ix (k_ix K) (pz 0) pe_int (fun _ _ => rfl)) pa_nil)) (pe_one (pe_cl C_is_number (hr.mono (by decide)) pass0 (pa_cons (pe_ix (k_ix K) (pz 0) pe_int (fun _ _ => rfl)) pa_nil)))))))), ?_⟩
  obtain ⟨d, hd, q⟩ := h
  refine ⟨by decide, kindD d, hd.kind, ?_⟩
  cases d with
  | tuple ds =>
    obtain ⟨g, hd⟩ := hd
    cases hd with
    | @tup a xs _ h hx =>
      have ll := DzAll.len hx
      refine .inl ⟨_, .inr (SqT.of h), ?_⟩
      rcases Nat.decEq xs.length 2 with e | e
      · rw [token_len (by omega)] at q
        exact iteN (int_ne (k := 2) e) q
      · obtain ⟨x0, x1, rfl⟩ := two_of e
        cases hx with
        | @cons _ _ d0 _ h0 hx =>
          cases hx with
          | @cons _ _ d1 _ h1 hx =>
            cases hx
            have q : Q (.bl (within d0 1 999999999999 && within d1 1 999999999999)) H := q
            refine ⟨_, x0, .inr (SqT.of h), rfl, ?_⟩
            refine ⟨d0, ⟨g, h0⟩, ?_⟩
            cases e0 : within d0 1 999999999999 with
            | false =>
              rw [e0] at q
              exact q
            | true =>
              rw [e0] at q
              refine ⟨_, x1, .inr (SqT.of h), rfl, ?_⟩
              exact ⟨d1, ⟨g, h1⟩, q⟩
  | _ => exact q

/-! ### is_try(value), level 3 -/
abbrev s_is_try : Stmt := top 40
abbrev N_is_try : List Str := ["value"]
theorem sc_is_try : FnScope N_is_try ["value"] (defScope s_is_try) := ⟨rfl, rfl, rfl, by decide +kernel, rfl, by decide +kernel, by decide +kernel⟩
theorem ok_is_try (T : Txt K mg) (C_is_within : Ct P w K mg base CX0 2 "is_within" ["value", "least", "most"] (sp_is_within K)) (D : Df K mg "is_try" s_is_try ["value"]) : Ct P w K mg base CX0 3 "is_try" ["value"] (sp_is_try K) := by
  refine ct1 D sc_is_try fun f cdv A outer s H a_value Q E hr h => ⟨_, (pss_one (ps_ret (pe_cl C_is_within (hr.mono (by decide)) pass0 (pa_cons (pz 0) (pa_cons pe_int (pa_cons (pe_gk T.c_MOST_TRIES) pa_nil)))))), ?_⟩
  obtain ⟨d, hd, q⟩ := h
  exact ⟨d, 0, 4, hd, rfl, rfl, q⟩

/-! ### is_index(value), level 3 -/
abbrev s_is_index : Stmt := top 39
abbrev N_is_index : List Str := ["value"]
theorem sc_is_index : FnScope N_is_index ["value"] (defScope s_is_index) := ⟨rfl, rfl, rfl, by decide +kernel, rfl, by decide +kernel, by decide +kernel⟩
theorem ok_is_index (T : Txt K mg) (C_is_within : Ct P w K mg base CX0 2 "is_within" ["value", "least", "most"] (sp_is_within K)) (D : Df K mg "is_index" s_is_index ["value"]) : Ct P w K mg base CX0 3 "is_index" ["value"] (sp_is_index K) := by
  refine ct1 D sc_is_index fun f cdv A outer s H a_value Q E hr h => ⟨_, (pss_one (ps_ret (pe_cl C_is_within (hr.mono (by decide)) pass0 (pa_cons (pz 0) (pa_cons pe_int (pa_cons (pe_gk T.c_MOST_NUMBER_letters) pa_nil)))))), ?_⟩
  obtain ⟨d, hd, q⟩ := h
  exact ⟨d, 0, _, hd, rfl, rfl, q⟩

/-! ### fits(group, value), level 7 -/
abbrev s_fits : Stmt := top 54
abbrev N_fits : List Str := ["group", "value", "form", "at", "is_right"]
theorem sc_fits : FnScope N_fits ["group", "value"] (defScope s_fits) := ⟨rfl, rfl, rfl, by decide +kernel, rfl, by decide +kernel, by decide +kernel⟩
theorem ok_fits (T : Txt K mg) {dF : Addr} {kvsF : List (List L2.Key × L2.V)} (FM : FormsF P w K mg base 6 dF kvsF) (D : Df K mg "fits" s_fits ["group", "value"]) : Ct P w K mg base CX0 7 "fits" ["group", "value"] (sp_fits K) := by
  refine ct2 D sc_fits fun f cdv A outer s H a_group a_value Q E hr h => ⟨_, (pss_cons (ps_if (PW.pt (pw_or (pt_not (pt_trK K (pe_callB (k_isi K) (by rfl) T.n_isinstance bt_isinstance (pa_cons (pz 1) (pa_cons (pe_bltn (v := .ty "tuple") (by rfl) T.n_tuple bt_tuple rfl) pa_nil))))) (pw_or (pt_cmpZ (k_eq K hr.units) (pe_callB (k_len K) (by rfl) T.n_len bt_len (pa_cons (pz 1) pa_nil)) pe_int (nomark _)) (pw_or1 (pt_not (pt_trK K (pe_callB (k_isi K) (by rfl) T.n_isinstance bt_isinstance (pa_cons (pe_ix (k_ix K) (pz 1) pe_int (fun _ _ => rfl)) (pa_cons (pe_bltn (v := .ty "str") (by rfl) T.n_str bt_str rfl) pa_nil))))))))) 
      (pss_one (ps_ret pe_bl)) pss_nil)
    (pss_cons (ps_set (i := 2) sc_fits.nd rfl (Or.inl rfl) (pe_tget (hu1 hr) FM.at_ FM.tab (pe_tz (pa_cons (pz 0) (pa_cons (pe_ix (k_ix K) (pz 1) pe_int (fun _ _ => rfl)) pa_nil))) (pe_tz pa_nil) ⟨rfl, rfl, rfl, rfl⟩))
    (pss_cons (ps_if (PW.pt (pw_or (pt_cmpZ (k_eqE K hr.units) (pz 2) (pe_tz pa_nil) (nomark _)) (pw_or1 (pt_cmpZ (k_ne K hr.units) (pe_callB (k_len K) (by rfl) T.n_len bt_len (pa_cons (pz 1) pa_nil)) (pe_op (k_add K) (pe_callB (k_len K) (by rfl) T.n_len bt_len (pa_cons (pz 2) pa_nil)) pe_int) (nomark _))))) 
      (pss_one (ps_ret pe_bl)) pss_nil)
    (pss_cons (ps_for PassesOwn.never rfl (pi_enK K (by rfl) T.n_enumerate (pa_cons (pz 2) pa_nil)) (pg_tzK (n := 2) K (by rfl) (pgs_cz (pg_name (i := 3) sc_fits.nd rfl (Or.inl rfl)) (pgs_cz (pg_name (i := 4) sc_fits.nd rfl (Or.inl rfl)) pgs_nz))) 
      (pss_one (ps_if (pt_not (pt_trK K (pe_callU (k := 6) (i := 4) (Held P w K mg base 6) (fun _ _ z => z) (hr.mono (by decide)) rfl (Or.inl rfl) (pa_cons (pe_ix (k_ix K) (pz 1) (pe_op (k_add K) (pz 3) pe_int) (fun _ _ => rfl)) pa_nil)))) 
        (pss_one (ps_ret pe_bl)) pss_nil)))
    (pss_one (ps_ret pe_bl)))))), ?_⟩
  obtain ⟨d, rfl, hd, ha, q⟩ := h
  refine ⟨by decide, kindD d, hd.kind, ?_⟩
  cases d with
  | tuple ds =>
    obtain ⟨g, hd⟩ := hd
    cases hd with
    | @tup a xs _ h hx =>
    have ll := DzAll.len hx
    refine .inl ⟨_, .inr (SqT.of h), ?_⟩
    refine ite2 (fun hz => ?_) (fun hz => ?_)
    · have hz0 : xs.length = 0 := by
        have := vInt hz
        omega
      have : ds = [] := List.eq_nil_of_length_eq_zero (by omega)
      subst this
      exact q H (Same.refl H)
    have hz1 : xs.length ≠ 0 := by
      have := vIntN hz
      omega
    clear hz
    cases hx with
    | nil => exact absurd rfl hz1
    | @cons v0 vs d0 ds h0 hx =>
    refine ⟨_, v0, .inr (SqT.of h), at0 .., ?_⟩
    refine ⟨by decide, kindD d0, Vd.kind ⟨g, h0⟩, ?_⟩
    cases d0 with
    | str y =>
      cases h0
      refine ⟨_, _, .inr (SqT.of h), at0 .., ?_⟩
      refine ⟨by show 2 ≤ sizeLine; decide, fun kt H1 n1 => ?_⟩
      refine ⟨Nat.zero_le _, fun e0 H2 n2 => ?_⟩
      have s02 := n1.same.trans n2.same
      simp only [List.length_cons] at ll
      refine ⟨kt, [.inr "commands", .inr y], rfl, n2.keep n1.here, ?_⟩
      rcases FM.rows y with ⟨f0, w0⟩ | ⟨a', fs, ks, f1, w1, kt', hh⟩
      · rw [w0]
        refine ⟨Nat.zero_le _, fun e1 H3 n3 => ?_⟩
        refine .inr ⟨[], SqT.of (n3.keep n2.here), SqT.of n3.here, ?_⟩
        have e : fitsD (.tuple (.str y :: ds)) = false := by
          show (match formC y with | some ks => all2 ks ds | none => false) = false
          rw [f0]
        rw [e] at q
        exact q _ (s02.trans n3.same)
      · rw [w1]
        have e : fitsD (.tuple (.str y :: ds)) = all2 ks ds := by
          show (match formC y with | some ks => all2 ks ds | none => false) = _
          rw [f1]
        rw [e] at q
        have lk := paired_len hh
        have k1 := form_ne f1
        refine ⟨Nat.zero_le _, fun e1 H3 n3 => ?_⟩
        have s03 := s02.trans n3.same
        refine .inr ⟨_, kt'.sq _, SqT.of n3.here, ?_⟩
        have ie : (fs.map V.ref).isEmpty = false := by
          cases fs with
          | nil => simp at lk; omega
          | cons _ _ => rfl
        rw [ie]
        refine .inl ⟨_, .inr (SqT.of (s03 _ _ h)), ?_⟩
        refine .inl ⟨_, .inr (kt'.sq _), ?_⟩
        have lf : (fs.map V.ref).length = ks.length := by rw [List.length_map]; exact lk
        refine ite2 (fun hc => ?_) (fun hc => ?_)
        · have hc' := vNe hc
          rw [all2_len (fun z => hc' (by rw [lf, List.length_cons]; omega))] at q
          exact q _ s03
        have hl : ks.length = ds.length := by
          have hc' := vNeN hc
          rw [lf, List.length_cons] at hc'
          omega
        clear hc
        refine ⟨_, kt'.sq _, for_e (fun i σ H' => Same H3 H' ∧ all2 ks ds = all2 (ks.drop i) (ds.drop i) ∧ ∃ u v, σ = [some (.str "commands"), some (.ref a), some (.ref a'), u, v]) ⟨Same.refl _, rfl, _, _, rfl⟩ (fun _ _ _ _ => kt'.sq _) ?_ ?_⟩
        · rintro i x σ H4 T H5 hx' ⟨s34, ea, u, v, rfl⟩ n5
          rw [List.getElem?_map] at hx'
          obtain ⟨f, hf, rfl⟩ := Option.map_eq_some_iff.mp hx'
          obtain ⟨pk, hpk, hheld⟩ := paired_at hh hf
          have ik : i < ks.length := (List.getElem?_eq_some_iff.mp hpk).1
          obtain ⟨vi, hvi⟩ : ∃ vi, vs[i]? = some vi := ⟨vs[i]'(by omega), List.getElem?_eq_getElem (by omega)⟩
          obtain ⟨di, hdi, zi⟩ := dz_at hx hvi
          have s05 := (s03.trans s34).trans n5.same
          have es : all2 (ks.drop i) (ds.drop i) = (pkD pk di && all2 (ks.drop (i + 1)) (ds.drop (i + 1))) := by
            rw [drop_at hpk, drop_at hdi]
            rfl
          refine ⟨_, SqT.of n5.here, rfl, ?_⟩
          refine ⟨f, spP pk, rfl, hheld, ?_⟩
          refine ⟨_, vi, .inr (SqT.of (s05 _ _ h)), atI_nat (j := i + 1) (by simpa using hvi), ?_⟩
          refine ⟨di, ⟨g, Dz.same s05 zi⟩, ascAll_mem (ascAll_tail ha) di (List.mem_of_getElem? hdi), fun H6 s6 => ?_⟩
          cases ed : pkD pk di with
          | false =>
            rw [ed, Bool.false_and] at es
            rw [ea, es] at q
            exact q _ (s05.trans s6)
          | true =>
            rw [ed, Bool.true_and] at es
            exact ⟨(s34.trans n5.same).trans s6, ea.trans es, _, _, rfl⟩
        · rintro σ H4 ⟨s34, ea, u, v, rfl⟩
          have e0 : all2 ks ds = true := by
            rw [ea, List.drop_eq_nil_of_le (by omega), List.drop_eq_nil_of_le (by omega)]
            rfl
          rw [e0] at q
          exact q _ (s03.trans s34)
    | _ => exact q H (Same.refl H)
  | _ => exact q H (Same.refl H)

/-! ### is_command(value), level 8 -/
abbrev s_is_command : Stmt := top 48
abbrev N_is_command : List Str := ["value"]
theorem sc_is_command : FnScope N_is_command ["value"] (defScope s_is_command) := ⟨rfl, rfl, rfl, by decide +kernel, rfl, by decide +kernel, by decide +kernel⟩
theorem ok_is_command (C_fits : Ct P w K mg base CX0 7 "fits" ["group", "value"] (sp_fits K)) (D : Df K mg "is_command" s_is_command ["value"]) : Ct P w K mg base CX0 8 "is_command" ["value"] (sp_is_command K) := by
  refine ct1 D sc_is_command fun f cdv A outer s H a_value Q E hr h => ⟨_, (pss_one (ps_ret (pe_andZ (pe_cl C_fits (hr.mono (by decide)) pass0 (pa_cons pe_str (pa_cons (pz 0) pa_nil))) (pe_one (pe_orZ (pe_cmpR (k_ne K hr.units) (pe_ix (k_ix K) (pz 0) pe_int (fun _ _ => rfl)) pe_str (nomark _)) (pe_one (pe_cmpR (k_ne K hr.units) (pe_ix (k_ix K) (pz 0) pe_int (fun _ _ => rfl)) (pe_ix (k_ix K) (pz 0) pe_int (fun _ _ => rfl)) (nomark _)))))))), ?_⟩
  obtain ⟨d, hd, ha, q⟩ := h
  refine ⟨d, rfl, hd, ha, fun H2 s2 => ?_⟩
  cases ef : fitsD d with
  | false =>
    have e : cmdD d = false := by unfold cmdD; rw [ef]; rfl
    rw [e] at q
    exact q _ s2
  | true =>
  obtain ⟨w', ds, ks, rfl, hf, hA⟩ := fits_of ef
  obtain ⟨g, hd⟩ := hd
  cases hd with
  | @tup a xs _ h hx =>
  cases hx with
  | @cons v0 vs d0 ds h0 hx =>
  cases h0
  have h2 := s2 _ _ h
  refine ⟨_, _, .inr (SqT.of h2), at0 .., ?_⟩
  refine ite2 (fun hc => ?_) (fun hc => ?_)
  · have hc' : w' ≠ "group" := sNe hc
    have e : cmdD (.tuple (.str w' :: ds)) = true := by unfold cmdD; rw [ef, apartD_ne hc']; rfl
    rw [e] at q
    exact q _ s2
  · have hc' : w' = "group" := sNeN hc
    subst hc'
    have hf : some [PK.name, .name, .dead] = some ks := hf
    obtain rfl := Option.some.inj hf
    obtain ⟨a', b', c', rfl, na, nb, nc⟩ := all2_three hA
    cases hx with
    | cons ha1 hx =>
    cases hx with
    | cons hb1 hx =>
    cases hx with
    | cons hc1 hx =>
    cases hx
    obtain ⟨sb, rfl⟩ := name_str nb
    cases hb1
    refine ⟨_, .str sb, .inr (SqT.of h2), atI_nat (j := 2) rfl, ?_⟩
    refine ⟨_, _, .inr (SqT.of h2), atI_nat (j := 3) rfl, ?_⟩
    rcases dead_str nc with rfl | ⟨sc, rfl⟩
    · cases hc1
      have e : cmdD (.tuple [.str "group", a', .str sb, .none]) = true := by unfold cmdD; rw [ef]; rfl
      rw [e] at q
      exact q _ s2
    · cases hc1
      have e : cmdD (.tuple [.str "group", a', .str sb, .str sc]) = (true ^^ decide (V.str sb = V.str sc)) := by
        unfold cmdD
        rw [ef]
        show (true && (decide ((("group" : Str)) ≠ "group") || decide (sc ≠ sb))) = _
        by_cases z : sc = sb
        · subst z; simp
        · have z2 : ¬ V.str sb = V.str sc := fun e => z (V.str.inj e).symm
          simp [z, z2]
      rw [e] at q
      exact q _ s2

/-! ### _law_right(_law_value), level 9 -/
abbrev s__law_right : Stmt := top 79
abbrev N__law_right : List Str := ["_law_value", "_law_ahead", "_law_due"]
theorem sc__law_right : FnScope N__law_right ["_law_value"] (defScope s__law_right) := ⟨rfl, rfl, rfl, by decide +kernel, rfl, by decide +kernel, by decide +kernel⟩
theorem ok__law_right (T : Txt K mg) (C__law_is_command : Ct P w K mg base CX0 4 "_law_is_command" ["_law_value"] (sp__law_is_command K)) (C__law_told : Ct P w K mg base CX0 1 "_law_told" ["_law_answer", "_law_due"] (sp__law_told K)) (C_is_command : Ct P w K mg base CX0 8 "is_command" ["value"] (sp_is_command K)) (K_is_command : CtK P w K mg base CX0 8 "is_command" ["value"] ["value"] perm_0 (sp_is_command K)) (D : Df K mg "_law_right" s__law_right ["_law_value"]) : Cg P w K mg base CX0 9 "_law_right" ["_law_value"] (sp__law_right K) := by
  refine cg1 D sc__law_right fun f cdv A outer s H a_value Q E hr h => ⟨_, (pss_cons (ps_parZ (i := 1) (j := 2) (by rfl) sc__law_right.nd rfl rfl (by decide) rfl rfl (pa_cons (pe_callB (c_repr hr) (by rfl) T.n_repr bt_repr (pa_cons (pz 0) pa_nil)) (pa_cons (pe_cl C__law_is_command (hr.room.mono (by decide)) pass0 (pa_cons (pz 0) pa_nil)) pa_nil)) (by rfl))
    (pss_cons (ps_if (PW.pt (pw_or (pt_not (pt_trK K (pe_cl C__law_told (hr.room.mono (by decide)) pass0 (pa_cons (pe_cl C_is_command (hr.room.mono (by decide)) pass0 (pa_cons (pz 0) pa_nil)) (pa_cons (pz 2) pa_nil))))) (pw_or1 (pt_not (pt_trK K (pe_cl C__law_told (hr.room.mono (by decide)) pass0 (pa_cons (pe_clK K_is_command (hr.room.mono (by decide)) pass0 (pk_cons (pz 0) pk_nil)) (pa_cons (pz 2) pa_nil)))))))) 
      (pss_one (ps_ret pe_bl)) pss_nil)
    (pss_one (ps_ret (pe_cmpR (k_eq K hr.room.units) (pe_callB (c_repr hr) (by rfl) T.n_repr bt_repr (pa_cons (pz 0) pa_nil)) (pz 1) (nomark _)))))), ?_⟩
  obtain ⟨⟨d, g⟩, q⟩ := h
  have hz : d.shown.length ≤ sizeLine := by
    have := g.len
    have big : 8000000 ≤ sizeLine := by decide
    omega
  have hp : d.depth ≤ 60 := by have := g.dep; omega
  refine ⟨true, d, g.dz, fun _ => rfl, g.sh, hp, hz, ?_⟩
  refine ⟨d, ⟨_, g.dz⟩, g.asc, fun H2 s2 => ?_⟩
  have g2 := g.mv (Mv.of s2)
  have no : (!(cmdD d == cmdD d)) = false := by simp
  refine ⟨d, ⟨_, g2.dz⟩, g2.asc, fun H3 s3 => ?_⟩
  have g3 := g2.mv (Mv.of s3)
  refine ⟨_, _, rfl, rfl, ?_⟩
  refine iteN no ?_
  refine ⟨d, ⟨_, g3.dz⟩, g3.asc, fun H4 s4 => ?_⟩
  have g4 := g3.mv (Mv.of s4)
  refine ⟨_, _, rfl, rfl, ?_⟩
  refine iteN no ?_
  refine ⟨true, d, g4.dz, fun _ => rfl, g4.sh, hp, hz, ?_⟩
  show Q (.bl (false ^^ decide (V.str d.shown = V.str d.shown))) H4
  rw [decide_eq_true rfl]
  exact q H4 ((s2.trans s3).trans s4)

/-! ### law(_law_script), level 10 -/
abbrev s_law : Stmt := top 80
abbrev N_law : List Str := ["_law_script", "_law_k", "_law_box_here", "_law_way", "_law_near", "_law_value", "_law_others", "_law_one"]
theorem sc_law : FnScope N_law ["_law_script"] (defScope s_law) := ⟨rfl, rfl, rfl, by decide +kernel, rfl, by decide +kernel, by decide +kernel⟩
theorem ok_law (T : Txt K mg) (C__law_box : Ct P w K mg base CX0 1 "_law_box" ["_law_great"] (sp__law_box K)) (C__law_cell : Ct P w K mg base CX0 1 "_law_cell" ["_law_script", "_law_k"] (sp__law_cell K)) (C__law_take : Ct P w K mg base CX0 1 "_law_take" ["_law_box_here", "_law_many"] (sp__law_take K)) (C__law_command : Ct P w K mg base CX0 5 "_law_command" ["_law_box_here", "_law_way"] (sp__law_command K)) (C__law_is_command : Ct P w K mg base CX0 4 "_law_is_command" ["_law_value"] (sp__law_is_command K)) (C__law_within_last : Ct P w K mg base CX0 4 "_law_within_last" ["_law_box_here", "_law_value"] (sp__law_within_last K)) (C__law_shape : Ct P w K mg base CX0 2 "_law_shape" ["_law_box_here", "_law_value"] (sp__law_shape K)) (C__law_spoiled : Ct P w K mg base CX0 3 "_law_spoiled" ["_law_box_here", "_law_value"] (sp__law_spoiled K)) (C__law_renamed : Ct P w K mg base CX0 2 "_law_renamed" ["_law_box_here", "_law_value"] (sp__law_renamed K)) (C__law_item : Ct P w K mg base CX0 3 "_law_item" ["_law_box_here"] (sp__law_item K)) (C__law_right : Cg P w K mg base CX0 9 "_law_right" ["_law_value"] (sp__law_right K)) (D : Df K mg "law" s_law ["_law_script"]) : Cg P w K mg base CX0 10 "law" ["_law_script"] (sp_law K) := by
  refine cg1 D sc_law fun f cdv A outer s H a_script Q E hr h => ⟨_, (pss_cons (ps_for PassesOwn.never rfl (pi_rngZ (by rfl) T.n_range (pa_cons (pe_callB (c_max rfl) (by rfl) T.n_max bt_max (pa_cons pe_int (pa_cons (pe_callB (c_min rfl) (by rfl) T.n_min bt_min (pa_cons pe_int (pa_cons (pe_callB (k_len K) (by rfl) T.n_len bt_len (pa_cons (pz 0) pa_nil)) pa_nil))) pa_nil))) pa_nil)) (pg_name (i := 1) sc_law.nd rfl (Or.inl rfl)) 
      (pss_cons (ps_set (i := 2) sc_law.nd rfl (Or.inl rfl) (pe_cl C__law_box (hr.room.mono (by decide)) pass0 (pa_cons (pe_cl C__law_cell (hr.room.mono (by decide)) pass0 (pa_cons (pz 0) (pa_cons (pz 1) pa_nil))) pa_nil)))
      (pss_cons (ps_parZ (i := 3) (j := 4) (by rfl) sc_law.nd rfl rfl (by decide) rfl rfl (pa_cons (pe_cl C__law_take (hr.room.mono (by decide)) pass0 (pa_cons (pz 2) (pa_cons pe_int pa_nil))) (pa_cons (pe_cl C__law_take (hr.room.mono (by decide)) pass0 (pa_cons (pz 2) (pa_cons pe_int pa_nil))) pa_nil)) (by rfl))
      (pss_cons (ps_set (i := 5) sc_law.nd rfl (Or.inl rfl) (pe_cl C__law_command (hr.room.mono (by decide)) pass0 (pa_cons (pz 2) (pa_cons (pz 3) pa_nil))))
      (pss_cons (ps_if (pt_not (pt_trK K (pe_cl C__law_is_command (hr.room.mono (by decide)) pass0 (pa_cons (pz 5) pa_nil)))) 
        (pss_one (ps_ret pe_bl)) pss_nil)
      (pss_cons (ps_set (i := 6) sc_law.nd rfl (Or.inl rfl) (pe_lz (pa_cons (pe_cl C__law_spoiled (hr.room.mono (by decide)) pass0 (pa_cons (pz 2) (pa_cons (pz 5) pa_nil))) (pa_cons (pe_cl C__law_shape (hr.room.mono (by decide)) pass0 (pa_cons (pz 2) (pa_cons (pz 5) pa_nil))) (pa_cons (pe_cl C__law_within_last (hr.room.mono (by decide)) pass0 (pa_cons (pz 2) (pa_cons (pz 5) pa_nil))) pa_nil)))))
      (pss_cons (ps_set (i := 6) sc_law.nd rfl (Or.inl rfl) (pe_op (k_add K) (pz 6) (pe_lz (pa_cons (pe_cl C__law_renamed (hr.room.mono (by decide)) pass0 (pa_cons (pz 2) (pa_cons (pz 5) pa_nil))) pa_nil))))
      (pss_cons (ps_if (pt_cmpZ (k_eq K hr.room.units) (pz 3) pe_int (nomark _)) 
        (pss_one (ps_set (i := 6) sc_law.nd rfl (Or.inl rfl) (pe_op (k_add K) (pz 6) (pe_lz (pa_cons (pe_op (k_add K) (pe_slice (k_sl K) (pz 5) po_none (po_z pe_int)) (pe_tz (pa_cons (pe_ix (k_ix K) (pz 5) pe_int (fun _ _ => rfl)) pa_nil))) (pa_cons (pe_op (k_add K) (pe_slice (k_sl K) (pz 5) po_none (po_z pe_int)) (pe_tz (pa_cons (pe_ix (k_ix K) (pz 5) pe_int (fun _ _ => rfl)) pa_nil))) pa_nil)))))) pss_nil)
      (pss_cons (ps_if (PW.pt (pw_and (pt_cmpZ (k_eq K hr.room.units) (pz 3) pe_int (nomark _)) (pw_and1 (pt_cmpZ (k_eq K hr.room.units) (pz 4) pe_int (nomark _))))) 
        (pss_one (ps_set (i := 6) sc_law.nd rfl (Or.inl rfl) (pe_op (k_add K) (pz 6) (pe_lz (pa_cons (pe_op (k_add K) (pe_slice (k_sl K) (pz 5) po_none (po_z pe_int)) (pe_tz (pa_cons (pe_tz pa_nil) pa_nil))) (pa_cons (pe_op (k_add K) (pe_op (k_add K) (pe_slice (k_sl K) (pz 5) po_none (po_z pe_int)) (pe_tz (pa_cons pe_int pa_nil))) (pe_slice (k_sl K) (pz 5) (po_z pe_int) po_none)) pa_nil)))))) pss_nil)
      (pss_cons (ps_if (PW.pt (pw_and (pt_cmpZ (k_eq K hr.room.units) (pz 3) pe_int (nomark _)) (pw_and1 (pt_cmpZ (k_eq K hr.room.units) (pz 4) pe_int (nomark _))))) 
        (pss_one (ps_set (i := 6) sc_law.nd rfl (Or.inl rfl) (pe_op (k_add K) (pz 6) (pe_lz (pa_cons (pe_op (k_add K) (pe_slice (k_sl K) (pz 5) po_none (po_z pe_int)) (pe_tz (pa_cons (pe_tz pa_nil) pa_nil))) (pa_cons (pe_op (k_add K) (pe_op (k_add K) (pe_slice (k_sl K) (pz 5) po_none (po_z pe_int)) (pe_tz (pa_cons (pe_tz (pa_cons pe_int (pa_cons pe_int pa_nil))) pa_nil))) (pe_slice (k_sl K) (pz 5) (po_z pe_int) po_none)) pa_nil)))))) pss_nil)
      (pss_cons (ps_if (pt_cmpZ (k_eq K hr.room.units) (pz 3) pe_int (nomark _)) 
        (pss_one (ps_set (i := 6) sc_law.nd rfl (Or.inl rfl) (pe_op (k_add K) (pz 6) (pe_lz (pa_cons (pe_op (k_add K) (pe_slice (k_sl K) (pz 5) po_none (po_z pe_int)) (pe_tz (pa_cons (pe_op (k_repT K) (pe_tz (pa_cons (pe_cl C__law_item (hr.room.mono (by decide)) pass0 (pa_cons (pz 2) pa_nil)) pa_nil)) pe_int) pa_nil))) pa_nil))))) pss_nil)
      (pss_cons (ps_if (pt_cmpZ (k_eq K hr.room.units) (pz 3) pe_int (nomark _)) 
        (pss_one (ps_set (i := 6) sc_law.nd rfl (Or.inl rfl) (pe_op (k_add K) (pz 6) (pe_lz (pa_cons (pe_op (k_add K) (pe_slice (k_sl K) (pz 5) po_none (po_z pe_int)) (pe_tz (pa_cons pe_int pa_nil))) (pa_cons (pe_op (k_add K) (pe_slice (k_sl K) (pz 5) po_none (po_z pe_int)) (pe_tz (pa_cons (pe_un un_negZ pe_int) pa_nil))) (pa_cons (pe_op (k_add K) (pe_slice (k_sl K) (pz 5) po_none (po_z pe_int)) (pe_tz (pa_cons pe_int pa_nil))) pa_nil))))))) pss_nil)
      (pss_one (ps_for PassesOwn.never rfl (pi_lzK K (pe_op (k_add K) (pe_lz (pa_cons (pz 5) pa_nil)) (pz 6))) (pg_name (i := 7) sc_law.nd rfl (Or.inl rfl)) 
        (pss_one (ps_if (pt_not (pt_trK K (pe_cg C__law_right (hr.mono (by decide)) pass0 (pa_cons (pz 7) pa_nil)))) 
          (pss_one (ps_ret pe_bl)) pss_nil))))))))))))))))
    (pss_one (ps_ret pe_bl))), ?_⟩
  obtain ⟨a, ns, rfl, hS, hl, k⟩ := h
  refine .inl ⟨_, .inl hS, ?_⟩
  rw [List.length_map]
  have rb : ∀ z : Int, (if (if (ns.length : Int) < 12 then (ns.length : Int) else 12) > 4 then (if (ns.length : Int) < 12 then (ns.length : Int) else 12) else 4) = z → 4 ≤ z ∧ z ≤ 12 := fun z e => by
    subst e
    split <;> split <;> omega
  generalize hz : (if (if (ns.length : Int) < 12 then (ns.length : Int) else 12) > 4 then (if (ns.length : Int) < 12 then (ns.length : Int) else 12) else 4) = z
  obtain ⟨z2, z4⟩ := rb z hz
  refine ⟨by omega, by omega, for_w (wk_rng 0 _) (fun i σ H' => Same H H' ∧ ∃ v1 v2 v3 v4 v5 v6 v7 : Option V, σ = [some (.ref a), v1, v2, v3, v4, v5, v6, v7]) ⟨Same.refl H, _, _, _, _, _, _, _, rfl⟩ (fun _ _ _ _ => trivial) ?_ (fun σ H' _ => k H')⟩
  rintro i x σ H0 hx ⟨s0, v1, v2, v3, v4, v5, v6, v7, rfl⟩
  obtain ⟨hi, rfl⟩ := rngV_at hx
  refine ⟨a, _, ns, rfl, rfl, by omega, by omega, sqL_same s0 hS, hl, fun g H1 s1 => ?_⟩
  refine ⟨g, rfl, fun b H2 fb s2 B2 => ?_⟩
  refine ⟨b, 6, 0, rfl, rfl, by decide, by decide, B2, by decide, fun way H3 t3 B3 w0 w1 => ?_⟩
  refine ⟨b, 2, _, rfl, rfl, by decide, by decide, B3, by decide, fun near H4 t4 B4 e0 e1 => ?_⟩
  refine ⟨b, _, way, rfl, rfl, w0, w1, B4, by omega, fun p xs ds H5 fp t5 B5 C5 cd len => ?_⟩
  have t25 := (t3.trans t4).trans t5
  have c2 := C5.two
  have c5 := C5.five
  have gv : ∀ {Hx : Hp}, Cmd Hx p xs ds → Gd Hx 3 (4 + 5 * 50002) (.ref p) (.tuple ds) := fun C => Gd.tup C.here C.all C.five
  refine ⟨_, ⟨_, (gv C5).dz⟩, (gv C5).asc, fun H6 s6 => ?_⟩
  rw [cd]
  refine zTr_bl ?_
  dsimp only
  rw [if_neg (show ¬ (!true) = true by decide)]
  have B6 := B5.same s6
  have C6 := C5.mv (Mv.of s6)
  have L6 := C6.two
  refine ⟨b, _, p, 3, 50000, xs, ds, rfl, rfl, B6, by omega, C6.here, C6.all.mono (by decide) (Nat.le_refl _), by decide, by decide, by omega, by omega, fun q1 ys1 es1 H7 t7 B7 h7 g7 l7 => ?_⟩
  have m7 := B6.mv t7
  have C7 := C6.mv m7
  refine ⟨b, _, p, 2, 50000, xs, ds, rfl, rfl, B7, by omega, C7.here, C7.all, by decide, by omega, by omega, C7.nobox, fun v2' d2' H8 t8 B8 g8 => ?_⟩
  have m8 := B7.mv t8
  have C8 := C7.mv m8
  refine ⟨b, _, p, xs, ds, rfl, rfl, B8, by omega, C8, fun q3 ys3 es3 H9 t9 B9 h9 g9 l9 => ?_⟩
  have m9 := B8.mv t9
  refine ⟨by show 3 ≤ sizeLine; decide, fun l1 H10 n10 => ?_⟩
  have B10 := B9.same n10.same
  have m10 : Mv H9 H10 := Mv.of n10.same
  have C10 := (C8.mv m9).mv m10
  refine ⟨b, _, p, xs, ds, rfl, rfl, B10, by omega, C10, fun q4 ys4 es4 H11 t11 B11 h11 g11 l11 => ?_⟩
  have m11 := B10.mv t11
  have hl1 := t11.at (B10.neq n10.here (fun _ _ _ _ z => by cases z)) n10.here
  refine ⟨by show 1 ≤ sizeLine; decide, fun l2 H12 n12 => ?_⟩
  refine .inl ⟨_, _, n12.keep hl1, n12.here, by show 4 ≤ sizeLine; decide, fun al H13 n13 => ?_⟩
  have s13 := n12.same.trans n13.same
  have m9b := (m10.trans m11).trans (Mv.of s13)
  have LSa : LS H2 H13 b p 2000 xs ds al ([.ref q1, v2', .ref q3] ++ [.ref q4]) 4 := ⟨(B11.same s13).mono (by omega), (((((((t25.trans (But.of s6)).trans t7).trans t8).trans t9).nw n10).trans t11).trans (But.of s13)), (C10.mv m11).mv (Mv.of s13), n13.here, fun x hx => by
    have hx : x ∈ [.ref q1, v2', .ref q3, .ref q4] := hx
    simp only [List.mem_cons, List.not_mem_nil, or_false] at hx
    rcases hx with rfl | rfl | rfl | rfl
    · exact (good2_tup h7 (g7.mono (by decide) (by decide)) (by omega)).mv ((m8.trans m9).trans m9b)
    · exact Good2.mv ⟨_, g8.mono (by decide) (by decide)⟩ (m9.trans m9b)
    · exact (good2_tup h9 g9 (by omega)).mv m9b
    · exact (good2_tup h11 g11 (by omega)).mv (Mv.of s13), Nat.le_refl _, _, _, rfl⟩
  generalize [V.ref q1, v2', .ref q3] ++ [.ref q4] = L0 at LSa
  have len4 := len.1
  have len5 := len.2
  have gI : ∀ {Hx : Hp} (i : Int), -10000000000000 ≤ i ∧ i ≤ 10000000000000 → Gd Hx 8 200000 (.int i) (.int i) := fun i hi => (gd_int hi).mono (by decide) (by decide)
  have gE : ∀ {Hx : Hp} {e : Addr}, Hx e = some (.tup []) → Gd Hx 8 200000 (.ref e) (.tuple []) := fun he => (Gd.tup (n := 0) (k := 0) (B := 0) he .nil (Nat.le_refl 0)).mono (by decide) (by decide)
  have gP : ∀ {Hx : Hp} {i : Nat} {v : V} {d : PyData}, Cmd Hx p xs ds → xs[i]? = some v → ds[i]? = some d → Gd Hx 8 200000 v d := fun {Hx i v d} C e1 e2 => by
    obtain ⟨d', e3, pt⟩ := paired_at C.parts e1
    rw [e2] at e3
    cases e3
    exact pt.gd.mono (by decide) (by decide)
  clear C5 gv c5 cd s6 B6 C6 c2
  dsimp only [tNext]
  refine seq_cut (fun σ H' => ∃ al L, σ = [some (.ref a), some (.int (0 + (i : Nat))), some (.ref b), some (.int way), some (.int near), some (.ref p), some (.ref al), v7] ∧ LS H2 H' b p 2000 xs ds al L 6) (fun Nx kx => ?_) ?_
  · refine ite2 (fun w => ?_) (fun w => kx _ _ ⟨_, _, rfl, LSa.mono (Nat.le_refl _) (by decide)⟩)
    have w' := vInt w
    have l4 : xs.length = 4 := len4 (by omega)
    obtain ⟨x1, hx1⟩ : ∃ v, xs[1]? = some v := ⟨xs[1]'(by omega), List.getElem?_eq_getElem (by omega)⟩
    obtain ⟨x2, hx2⟩ : ∃ v, xs[2]? = some v := ⟨xs[2]'(by omega), List.getElem?_eq_getElem (by omega)⟩
    obtain ⟨y1, hy1, -⟩ := paired_at LSa.C.parts hx1
    obtain ⟨y2, hy2, -⟩ := paired_at LSa.C.parts hx2
    have CA := LSa.C
    refine .inr ⟨xs, SqT.of CA.here, (fun z => cut_no (j := 3) (by omega) z), fun _ c1 HA wnA => ?_⟩
    have nA := cut_to 3 wnA
    refine ⟨_, x2, .inr (SqT.of (nA.keep CA.here)), atI_nat (j := 2) hx2, ?_⟩
    refine ⟨by show 1 ≤ sizeLine; decide, fun c2 HB nB => ?_⟩
    refine addT (nB.keep nA.here) nB.here (sz (by rw [List.length_take]; show _ + 1 ≤ _; omega)) fun r1 HC sC hC => ?_
    have CC := CA.mv (Mv.of ((nA.same.trans nB.same).trans sC))
    refine .inr ⟨xs, SqT.of CC.here, (fun z => cut_no (j := 3) (by omega) z), fun _ c4 HD wnD => ?_⟩
    have nD := cut_to 3 wnD
    refine ⟨_, x1, .inr (SqT.of (nD.keep CC.here)), atI_nat (j := 1) hx1, ?_⟩
    refine ⟨by show 1 ≤ sizeLine; decide, fun c5 HE nE => ?_⟩
    refine addT (nE.keep nD.here) nE.here (sz (by rw [List.length_take]; show _ + 1 ≤ _; omega)) fun r2 HF sF hF => ?_
    have sCF := (nD.same.trans nE.same).trans sF
    have CF := CC.mv (Mv.of sCF)
    have sAF := ((nA.same.trans nB.same).trans sC).trans sCF
    refine ⟨by show 2 ≤ sizeLine; decide, fun la HG nG => ?_⟩
    refine LSa.add (But.of sAF) (LSa.B.same sAF) nG (fun x hx => ?_) (Nat.le_refl 6) (by decide) fun a2 H' hL => kx _ _ ⟨_, _, rfl, hL⟩
    simp only [List.mem_cons, List.not_mem_nil, or_false] at hx
    rcases hx with rfl | rfl
    · exact alt_good CF (sCF _ _ hC) (gP CF hx2 hy2)
    · exact alt_good CF hF (gP CF hx1 hy1)
  clear LSa
  rintro σ1 H14 ⟨al1, L1, rfl, LSb⟩
  refine seq_cut (fun σ H' => ∃ al L, σ = [some (.ref a), some (.int (0 + (i : Nat))), some (.ref b), some (.int way), some (.int near), some (.ref p), some (.ref al), v7] ∧ LS H2 H' b p 2000 xs ds al L 8) (fun Nx kx => ?_) ?_
  · refine ite2 (fun w => ?_) (fun w => kx _ _ ⟨_, _, rfl, LSb.mono (Nat.le_refl _) (by decide)⟩)
    refine ite2 (fun w2 => ?_) (fun w2 => kx _ _ ⟨_, _, rfl, LSb.mono (Nat.le_refl _) (by decide)⟩)
    have w' := vInt w
    have l4 : xs.length = 4 := len4 (by omega)
    have CA := LSb.C
    refine .inr ⟨xs, SqT.of CA.here, (fun z => cut_no (j := 3) (by omega) z), fun _ c1 HA wnA => ?_⟩
    have nA := cut_to 3 wnA
    refine ⟨by show 0 ≤ sizeLine; decide, fun e1 HA2 nA2 => ?_⟩
    refine ⟨by show 1 ≤ sizeLine; decide, fun c2 HB nB => ?_⟩
    refine addT (nB.keep (nA2.keep nA.here)) nB.here (sz (by rw [List.length_take]; show _ + 1 ≤ _; omega)) fun r1 HC sC hC => ?_
    have he1 := sC _ _ (nB.keep nA2.here)
    have sAC := ((nA.same.trans nA2.same).trans nB.same).trans sC
    have CC := CA.mv (Mv.of sAC)
    refine .inr ⟨xs, SqT.of CC.here, (fun z => cut_no (j := 2) (by omega) z), fun _ c4 HD wnD => ?_⟩
    have nD := cut_to 2 wnD
    refine ⟨by show 1 ≤ sizeLine; decide, fun c5 HE nE => ?_⟩
    refine addT (nE.keep nD.here) nE.here (sz (by rw [List.length_take]; show _ + 1 ≤ _; omega)) fun r2 HF sF hF => ?_
    have sCF := (nD.same.trans nE.same).trans sF
    refine .inr ⟨xs, SqT.of (sCF _ _ CC.here), (fun z => cut_nf (j := 3) (by decide) (by omega) z), fun _ c6 HG wnG => ?_⟩
    have nG := cut_fr 3 wnG
    refine addT (nG.keep hF) nG.here (sz (by rw [List.length_append, List.length_take, List.length_drop]; show _ + 1 + _ ≤ _; omega)) fun r3 HH sH hH => ?_
    have sCH := (sCF.trans nG.same).trans sH
    have CH := CC.mv (Mv.of sCH)
    have sAH := sAC.trans sCH
    refine ⟨by show 2 ≤ sizeLine; decide, fun la HG nG => ?_⟩
    refine LSb.add (But.of sAH) (LSb.B.same sAH) nG (fun x hx => ?_) (Nat.le_refl 8) (by decide) fun a2 H' hL => kx _ _ ⟨_, _, rfl, hL⟩
    simp only [List.mem_cons, List.not_mem_nil, or_false] at hx
    rcases hx with rfl | rfl
    · exact alt_good CH (sCH _ _ hC) (gE (sCH _ _ he1))
    · exact alt_mid CH hH (gI 0 (by decide))
  clear LSb
  rintro σ1 H15 ⟨al2, L2, rfl, LSb⟩
  refine seq_cut (fun σ H' => ∃ al L, σ = [some (.ref a), some (.int (0 + (i : Nat))), some (.ref b), some (.int way), some (.int near), some (.ref p), some (.ref al), v7] ∧ LS H2 H' b p 2000 xs ds al L 10) (fun Nx kx => ?_) ?_
  · refine ite2 (fun w => ?_) (fun w => kx _ _ ⟨_, _, rfl, LSb.mono (Nat.le_refl _) (by decide)⟩)
    refine ite2 (fun w2 => ?_) (fun w2 => kx _ _ ⟨_, _, rfl, LSb.mono (Nat.le_refl _) (by decide)⟩)
    have w' := vInt w
    have l5 : xs.length = 5 := len5 (by omega)
    have CA := LSb.C
    refine .inr ⟨xs, SqT.of CA.here, (fun z => cut_no (j := 4) (by omega) z), fun _ c1 HA wnA => ?_⟩
    have nA := cut_to 4 wnA
    refine ⟨by show 0 ≤ sizeLine; decide, fun e1 HA2 nA2 => ?_⟩
    refine ⟨by show 1 ≤ sizeLine; decide, fun c2 HB nB => ?_⟩
    refine addT (nB.keep (nA2.keep nA.here)) nB.here (sz (by rw [List.length_take]; show _ + 1 ≤ _; omega)) fun r1 HC sC hC => ?_
    have he1 := sC _ _ (nB.keep nA2.here)
    have sAC := ((nA.same.trans nA2.same).trans nB.same).trans sC
    have CC := CA.mv (Mv.of sAC)
    refine .inr ⟨xs, SqT.of CC.here, (fun z => cut_no (j := 3) (by omega) z), fun _ c4 HD wnD => ?_⟩
    have nD := cut_to 3 wnD
    refine ⟨by show 2 ≤ sizeLine; decide, fun u HD2 nD2 => ?_⟩
    refine ⟨by show 1 ≤ sizeLine; decide, fun c5 HE nE => ?_⟩
    refine addT (nE.keep (nD2.keep nD.here)) nE.here (sz (by rw [List.length_take]; show _ + 1 ≤ _; omega)) fun r2 HF sF hF => ?_
    have hu := sF _ _ (nE.keep nD2.here)
    have sCF := ((nD.same.trans nD2.same).trans nE.same).trans sF
    refine .inr ⟨xs, SqT.of (sCF _ _ CC.here), (fun z => cut_nf (j := 4) (by decide) (by omega) z), fun _ c6 HG wnG => ?_⟩
    have nG := cut_fr 4 wnG
    refine addT (nG.keep hF) nG.here (sz (by rw [List.length_append, List.length_take, List.length_drop]; show _ + 1 + _ ≤ _; omega)) fun r3 HH sH hH => ?_
    have sFH := nG.same.trans sH
    have sCH := sCF.trans sFH
    have CH := CC.mv (Mv.of sCH)
    have sAH := sAC.trans sCH
    refine ⟨by show 2 ≤ sizeLine; decide, fun la HG nG => ?_⟩
    refine LSb.add (But.of sAH) (LSb.B.same sAH) nG (fun x hx => ?_) (Nat.le_refl 10) (by decide) fun a2 H' hL => kx _ _ ⟨_, _, rfl, hL⟩
    simp only [List.mem_cons, List.not_mem_nil, or_false] at hx
    rcases hx with rfl | rfl
    · exact alt_good CH (sCH _ _ hC) (gE (sCH _ _ he1))
    · exact alt_mid CH hH ((Gd.tup (n := 2) (sFH _ _ hu) (.cons (gd_int (i := 0) (by decide)) (.cons (gd_int (i := 1) (by decide)) .nil)) (Nat.le_refl 2)).mono (by decide) (by decide))
  clear LSb
  rintro σ1 H16 ⟨al3, L3, rfl, LSb⟩
  refine seq_cut (fun σ H' => ∃ al L, σ = [some (.ref a), some (.int (0 + (i : Nat))), some (.ref b), some (.int way), some (.int near), some (.ref p), some (.ref al), v7] ∧ LS H2 H' b p 2200 xs ds al L 11) (fun Nx kx => ?_) ?_
  · refine ite2 (fun w => ?_) (fun w => kx _ _ ⟨_, _, rfl, LSb.mono (by decide) (by decide)⟩)
    have w' := vInt w
    have l5 : xs.length = 5 := len5 (by omega)
    have CA := LSb.C
    refine .inr ⟨xs, SqT.of CA.here, (fun z => cut_no (j := 4) (by omega) z), fun _ c1 HA wnA => ?_⟩
    have nA := cut_to 4 wnA
    have LA := LSb.same nA.same
    refine ⟨b, _, rfl, LA.B, by decide, fun it HB fit tB BB ia => ?_⟩
    have mB := LA.B.mv tB
    have CB := LA.C.mv mB
    have hcB := mB _ _ nA.here tup_nobox
    obtain ⟨ids, iel, iok, ixs, ih, ig, il⟩ := item_el ia
    refine ⟨by show 1 ≤ sizeLine; decide, fun c2 HC nC => ?_⟩
    refine ⟨_, SqT.of nC.here, List.cons_ne_nil _ _, by decide, by decide, by show 1 ≤ 1000; decide, fun rp HD nD => ?_⟩
    refine ⟨by show 1 ≤ sizeLine; decide, fun c5 HE nE => ?_⟩
    refine addT (nE.keep (nD.keep (nC.keep hcB))) nE.here (sz (by rw [List.length_take]; show _ + 1 ≤ _; omega)) fun r2 HF sF hF => ?_
    have sBF := ((nC.same.trans nD.same).trans nE.same).trans sF
    have CF := CB.mv (Mv.of sBF)
    have tAF := (nA.but.trans tB).trans (But.of sBF)
    have hrp := sF _ _ (nE.keep nD.here)
    have gi := (iel.mv (Mv.of sBF)).gd
    refine ⟨by show 1 ≤ sizeLine; decide, fun la HG nG => ?_⟩
    refine LSb.add tAF ((BB.same sBF).mono (by decide)) nG (fun x hx => ?_) (Nat.le_refl 11) (by decide) fun a2 H' hL => kx _ _ ⟨_, _, rfl, hL⟩
    simp only [List.mem_cons, List.not_mem_nil, or_false] at hx
    subst hx
    exact alt_good CF hF ((Gd.tup (n := 5) hrp (gall_same gi 5) (by show 5 ≤ 5; decide)).mono (by decide) (by decide))
  clear LSb
  rintro σ1 H17 ⟨al4, L4, rfl, LSb⟩
  refine seq_cut (fun σ H' => ∃ al L, σ = [some (.ref a), some (.int (0 + (i : Nat))), some (.ref b), some (.int way), some (.int near), some (.ref p), some (.ref al), v7] ∧ LS H2 H' b p 2200 xs ds al L 14) (fun Nx kx => ?_) ?_
  · refine ite2 (fun w => ?_) (fun w => kx _ _ ⟨_, _, rfl, LSb.mono (by decide) (by decide)⟩)
    have w' := vInt w
    have l4 : xs.length = 4 := len4 (by omega)
    have CA := LSb.C
    refine .inr ⟨xs, SqT.of CA.here, (fun z => cut_no (j := 3) (by omega) z), fun _ c1 HA wnA => ?_⟩
    have nA := cut_to 3 wnA
    refine ⟨by show 1 ≤ sizeLine; decide, fun c2 HB nB => ?_⟩
    refine addT (nB.keep nA.here) nB.here (sz (by rw [List.length_take]; show _ + 1 ≤ _; omega)) fun r1 HC sC hC => ?_
    have sAC := (nA.same.trans nB.same).trans sC
    have CC := CA.mv (Mv.of sAC)
    refine .inr ⟨xs, SqT.of CC.here, (fun z => cut_no (j := 3) (by omega) z), fun _ c4 HD wnD => ?_⟩
    have nD := cut_to 3 wnD
    refine ⟨by show 1 ≤ sizeLine; decide, fun c5 HE nE => ?_⟩
    refine addT (nE.keep nD.here) nE.here (sz (by rw [List.length_take]; show _ + 1 ≤ _; omega)) fun r2 HF sF hF => ?_
    have sCF := (nD.same.trans nE.same).trans sF
    have CF := CC.mv (Mv.of sCF)
    refine .inr ⟨xs, SqT.of CF.here, (fun z => cut_no (j := 3) (by omega) z), fun _ c6 HG wnG => ?_⟩
    have nG := cut_to 3 wnG
    refine ⟨by show 1 ≤ sizeLine; decide, fun c7 HH nH => ?_⟩
    refine addT (nH.keep nG.here) nH.here (sz (by rw [List.length_take]; show _ + 1 ≤ _; omega)) fun r3 HI sI hI => ?_
    have sFI := (nG.same.trans nH.same).trans sI
    have CI := CF.mv (Mv.of sFI)
    have sCI := sCF.trans sFI
    have sAI := sAC.trans sCI
    refine ⟨by show 3 ≤ sizeLine; decide, fun la HJ nJ => ?_⟩
    refine LSb.add (But.of sAI) (LSb.B.same sAI) nJ (fun x hx => ?_) (Nat.le_refl 14) (by decide) fun a2 H' hL => kx _ _ ⟨_, _, rfl, hL⟩
    simp only [List.mem_cons, List.not_mem_nil, or_false] at hx
    rcases hx with rfl | rfl | rfl
    · exact alt_good CI (sCI _ _ hC) (gI 5 (by decide))
    · exact alt_good CI (sFI _ _ hF) (gI (-1) (by decide))
    · exact alt_good CI hI (gI 4 (by decide))
  clear LSb
  rintro σ1 H18 ⟨al5, L5, rfl, LSb⟩
  refine ⟨by show 1 ≤ sizeLine; decide, fun l0 H19 n19 => ?_⟩
  have LSc := LSb.same n19.same
  refine .inl ⟨_, _, n19.here, LSc.o, sz (by have := LSc.l; show 1 + _ ≤ _; omega), fun fl H20 n20 => ?_⟩
  have LSd := LSc.same n20.same
  have G20 : ∀ x ∈ [V.ref p] ++ L5, Good2 H20 x := fun x hx => by
    rcases List.mem_append.mp hx with hx | hx
    · cases List.mem_singleton.mp hx
      exact good2_tup LSd.C.here (LSd.C.all.mono (by decide) (by decide)) (by have := LSd.C.five; omega)
    · exact LSd.g x hx
  have h20 := n20.here
  generalize [V.ref p] ++ L5 = items at G20 h20
  refine ⟨⟨_, SqL.of h20⟩, for_w (wk_list items) (fun i' σ H' => Same H20 H' ∧ ∃ w : Option V, σ = [some (.ref a), some (.int (0 + (i : Nat))), some (.ref b), some (.int way), some (.int near), some (.ref p), some (.ref al5), w]) ⟨Same.refl _, _, rfl⟩ (fun _ _ _ p => sqL_same p.1 (SqL.of h20)) ?_ ?_⟩
  · rintro i' x σ H21 hx' ⟨s21, w, rfl⟩
    refine ⟨(G20 x (List.mem_of_getElem? hx')).mv (Mv.of s21), fun H22 s22 => ?_⟩
    exact ⟨s21.trans s22, _, rfl⟩
  rintro σ H21 ⟨s21, w, rfl⟩
  have tall : But b H2 H21 := LSd.t.trans (But.of s21)
  have sall : Same H H21 := ((s0.trans s1).trans s2).but ((s0.trans s1).free fb) tall
  exact ⟨sall, _, _, _, _, _, _, _, rfl⟩


end
theorem law_asks {K : PySem.W.Frag} {H : Hp} {E : XK} (a : Addr) (ns : List Int) (hl : ns.length ≤ 63) (hS : SqL K H a (ns.map V.int)) : sp_law K [.ref a] H (fun v _ => v = .bl true) E := ⟨a, ns, rfl, hS, hl, fun _ => rfl⟩
theorem all_mk {l : PySem.W.OpenLaw} {w : World} {K : PySem.W.Frag} {h : Heap} {mg : Str → Option Value} {fa : Addr} (X : K.In h) (G : h.Ns mainGlobals mg) (hfa : mg "law" = some (.ref fa))
    {f57 : Addr} {od57 an57 : Option Addr} {sl57 : Array (Option Value)} {oc57 kV57 dc57 pm57 cd57 ct57 : Value}
    (a57 : PySem.W.nsIn K mainGlobals "_law_box" = some (some (.ref f57))) (l57 : K.lookup f57 = some ⟨oc57, od57, .func (PySem.W.fnOf "_law_box" "_law_box" (defArgs s__law_box) (defBody s__law_box) (defScope s__law_box) .none kV57 dc57 pm57 an57 cd57 ct57), sl57⟩) (c57 : PySem.W.codeIn K cd57 "_law_box" = true) (k57 : PySem.W.keepIn K (.ref f57) = true)
    {f56 : Addr} {od56 an56 : Option Addr} {sl56 : Array (Option Value)} {oc56 kV56 dc56 pm56 cd56 ct56 : Value}
    (a56 : PySem.W.nsIn K mainGlobals "_law_cell" = some (some (.ref f56))) (l56 : K.lookup f56 = some ⟨oc56, od56, .func (PySem.W.fnOf "_law_cell" "_law_cell" (defArgs s__law_cell) (defBody s__law_cell) (defScope s__law_cell) .none kV56 dc56 pm56 an56 cd56 ct56), sl56⟩) (c56 : PySem.W.codeIn K cd56 "_law_cell" = true) (k56 : PySem.W.keepIn K (.ref f56) = true)
    {f58 : Addr} {od58 an58 : Option Addr} {sl58 : Array (Option Value)} {oc58 kV58 dc58 pm58 cd58 ct58 : Value}
    (a58 : PySem.W.nsIn K mainGlobals "_law_take" = some (some (.ref f58))) (l58 : K.lookup f58 = some ⟨oc58, od58, .func (PySem.W.fnOf "_law_take" "_law_take" (defArgs s__law_take) (defBody s__law_take) (defScope s__law_take) .none kV58 dc58 pm58 an58 cd58 ct58), sl58⟩) (c58 : PySem.W.codeIn K cd58 "_law_take" = true) (k58 : PySem.W.keepIn K (.ref f58) = true)
    {f59 : Addr} {od59 an59 : Option Addr} {sl59 : Array (Option Value)} {oc59 kV59 dc59 pm59 cd59 ct59 : Value}
    (a59 : PySem.W.nsIn K mainGlobals "_law_name" = some (some (.ref f59))) (l59 : K.lookup f59 = some ⟨oc59, od59, .func (PySem.W.fnOf "_law_name" "_law_name" (defArgs s__law_name) (defBody s__law_name) (defScope s__law_name) .none kV59 dc59 pm59 an59 cd59 ct59), sl59⟩) (c59 : PySem.W.codeIn K cd59 "_law_name" = true) (k59 : PySem.W.keepIn K (.ref f59) = true)
    {f60 : Addr} {od60 an60 : Option Addr} {sl60 : Array (Option Value)} {oc60 kV60 dc60 pm60 cd60 ct60 : Value}
    (a60 : PySem.W.nsIn K mainGlobals "_law_text" = some (some (.ref f60))) (l60 : K.lookup f60 = some ⟨oc60, od60, .func (PySem.W.fnOf "_law_text" "_law_text" (defArgs s__law_text) (defBody s__law_text) (defScope s__law_text) .none kV60 dc60 pm60 an60 cd60 ct60), sl60⟩) (c60 : PySem.W.codeIn K cd60 "_law_text" = true) (k60 : PySem.W.keepIn K (.ref f60) = true)
    {f61 : Addr} {od61 an61 : Option Addr} {sl61 : Array (Option Value)} {oc61 kV61 dc61 pm61 cd61 ct61 : Value}
    (a61 : PySem.W.nsIn K mainGlobals "_law_item" = some (some (.ref f61))) (l61 : K.lookup f61 = some ⟨oc61, od61, .func (PySem.W.fnOf "_law_item" "_law_item" (defArgs s__law_item) (defBody s__law_item) (defScope s__law_item) .none kV61 dc61 pm61 an61 cd61 ct61), sl61⟩) (c61 : PySem.W.codeIn K cd61 "_law_item" = true) (k61 : PySem.W.keepIn K (.ref f61) = true)
    {f68 : Addr} {od68 an68 : Option Addr} {sl68 : Array (Option Value)} {oc68 kV68 dc68 pm68 cd68 ct68 : Value}
    (a68 : PySem.W.nsIn K mainGlobals "_law_items" = some (some (.ref f68))) (l68 : K.lookup f68 = some ⟨oc68, od68, .func (PySem.W.fnOf "_law_items" "_law_items" (defArgs s__law_items) (defBody s__law_items) (defScope s__law_items) .none kV68 dc68 pm68 an68 cd68 ct68), sl68⟩) (c68 : PySem.W.codeIn K cd68 "_law_items" = true) (k68 : PySem.W.keepIn K (.ref f68) = true)
    {f69 : Addr} {od69 an69 : Option Addr} {sl69 : Array (Option Value)} {oc69 kV69 dc69 pm69 cd69 ct69 : Value}
    (a69 : PySem.W.nsIn K mainGlobals "_law_number" = some (some (.ref f69))) (l69 : K.lookup f69 = some ⟨oc69, od69, .func (PySem.W.fnOf "_law_number" "_law_number" (defArgs s__law_number) (defBody s__law_number) (defScope s__law_number) .none kV69 dc69 pm69 an69 cd69 ct69), sl69⟩) (c69 : PySem.W.codeIn K cd69 "_law_number" = true) (k69 : PySem.W.keepIn K (.ref f69) = true)
    {f70 : Addr} {od70 an70 : Option Addr} {sl70 : Array (Option Value)} {oc70 kV70 dc70 pm70 cd70 ct70 : Value}
    (a70 : PySem.W.nsIn K mainGlobals "_law_token" = some (some (.ref f70))) (l70 : K.lookup f70 = some ⟨oc70, od70, .func (PySem.W.fnOf "_law_token" "_law_token" (defArgs s__law_token) (defBody s__law_token) (defScope s__law_token) .none kV70 dc70 pm70 an70 cd70 ct70), sl70⟩) (c70 : PySem.W.codeIn K cd70 "_law_token" = true) (k70 : PySem.W.keepIn K (.ref f70) = true)
    {f71 : Addr} {od71 an71 : Option Addr} {sl71 : Array (Option Value)} {oc71 kV71 dc71 pm71 cd71 ct71 : Value}
    (a71 : PySem.W.nsIn K mainGlobals "_law_command" = some (some (.ref f71))) (l71 : K.lookup f71 = some ⟨oc71, od71, .func (PySem.W.fnOf "_law_command" "_law_command" (defArgs s__law_command) (defBody s__law_command) (defScope s__law_command) .none kV71 dc71 pm71 an71 cd71 ct71), sl71⟩) (c71 : PySem.W.codeIn K cd71 "_law_command" = true) (k71 : PySem.W.keepIn K (.ref f71) = true)
    {f63 : Addr} {od63 an63 : Option Addr} {sl63 : Array (Option Value)} {oc63 kV63 dc63 pm63 cd63 ct63 : Value}
    (a63 : PySem.W.nsIn K mainGlobals "_law_within" = some (some (.ref f63))) (l63 : K.lookup f63 = some ⟨oc63, od63, .func (PySem.W.fnOf "_law_within" "_law_within" (defArgs s__law_within) (defBody s__law_within) (defScope s__law_within) .none kV63 dc63 pm63 an63 cd63 ct63), sl63⟩) (c63 : PySem.W.codeIn K cd63 "_law_within" = true) (k63 : PySem.W.keepIn K (.ref f63) = true)
    {f64 : Addr} {od64 an64 : Option Addr} {sl64 : Array (Option Value)} {oc64 kV64 dc64 pm64 cd64 ct64 : Value}
    (a64 : PySem.W.nsIn K mainGlobals "_law_is_name" = some (some (.ref f64))) (l64 : K.lookup f64 = some ⟨oc64, od64, .func (PySem.W.fnOf "_law_is_name" "_law_is_name" (defArgs s__law_is_name) (defBody s__law_is_name) (defScope s__law_is_name) .none kV64 dc64 pm64 an64 cd64 ct64), sl64⟩) (c64 : PySem.W.codeIn K cd64 "_law_is_name" = true) (k64 : PySem.W.keepIn K (.ref f64) = true)
    {f65 : Addr} {od65 an65 : Option Addr} {sl65 : Array (Option Value)} {oc65 kV65 dc65 pm65 cd65 ct65 : Value}
    (a65 : PySem.W.nsIn K mainGlobals "_law_is_body" = some (some (.ref f65))) (l65 : K.lookup f65 = some ⟨oc65, od65, .func (PySem.W.fnOf "_law_is_body" "_law_is_body" (defArgs s__law_is_body) (defBody s__law_is_body) (defScope s__law_is_body) .none kV65 dc65 pm65 an65 cd65 ct65), sl65⟩) (c65 : PySem.W.codeIn K cd65 "_law_is_body" = true) (k65 : PySem.W.keepIn K (.ref f65) = true)
    {f67 : Addr} {od67 an67 : Option Addr} {sl67 : Array (Option Value)} {oc67 kV67 dc67 pm67 cd67 ct67 : Value}
    (a67 : PySem.W.nsIn K mainGlobals "_law_is_item" = some (some (.ref f67))) (l67 : K.lookup f67 = some ⟨oc67, od67, .func (PySem.W.fnOf "_law_is_item" "_law_is_item" (defArgs s__law_is_item) (defBody s__law_is_item) (defScope s__law_is_item) .none kV67 dc67 pm67 an67 cd67 ct67), sl67⟩) (c67 : PySem.W.codeIn K cd67 "_law_is_item" = true) (k67 : PySem.W.keepIn K (.ref f67) = true)
    {f72 : Addr} {od72 an72 : Option Addr} {sl72 : Array (Option Value)} {oc72 kV72 dc72 pm72 cd72 ct72 : Value}
    (a72 : PySem.W.nsIn K mainGlobals "_law_are_items" = some (some (.ref f72))) (l72 : K.lookup f72 = some ⟨oc72, od72, .func (PySem.W.fnOf "_law_are_items" "_law_are_items" (defArgs s__law_are_items) (defBody s__law_are_items) (defScope s__law_are_items) .none kV72 dc72 pm72 an72 cd72 ct72), sl72⟩) (c72 : PySem.W.codeIn K cd72 "_law_are_items" = true) (k72 : PySem.W.keepIn K (.ref f72) = true)
    {f66 : Addr} {od66 an66 : Option Addr} {sl66 : Array (Option Value)} {oc66 kV66 dc66 pm66 cd66 ct66 : Value}
    (a66 : PySem.W.nsIn K mainGlobals "_law_is_token" = some (some (.ref f66))) (l66 : K.lookup f66 = some ⟨oc66, od66, .func (PySem.W.fnOf "_law_is_token" "_law_is_token" (defArgs s__law_is_token) (defBody s__law_is_token) (defScope s__law_is_token) .none kV66 dc66 pm66 an66 cd66 ct66), sl66⟩) (c66 : PySem.W.codeIn K cd66 "_law_is_token" = true) (k66 : PySem.W.keepIn K (.ref f66) = true)
    {f73 : Addr} {od73 an73 : Option Addr} {sl73 : Array (Option Value)} {oc73 kV73 dc73 pm73 cd73 ct73 : Value}
    (a73 : PySem.W.nsIn K mainGlobals "_law_is_command" = some (some (.ref f73))) (l73 : K.lookup f73 = some ⟨oc73, od73, .func (PySem.W.fnOf "_law_is_command" "_law_is_command" (defArgs s__law_is_command) (defBody s__law_is_command) (defScope s__law_is_command) .none kV73 dc73 pm73 an73 cd73 ct73), sl73⟩) (c73 : PySem.W.codeIn K cd73 "_law_is_command" = true) (k73 : PySem.W.keepIn K (.ref f73) = true)
    {f62 : Addr} {od62 an62 : Option Addr} {sl62 : Array (Option Value)} {oc62 kV62 dc62 pm62 cd62 ct62 : Value}
    (a62 : PySem.W.nsIn K mainGlobals "_law_odd" = some (some (.ref f62))) (l62 : K.lookup f62 = some ⟨oc62, od62, .func (PySem.W.fnOf "_law_odd" "_law_odd" (defArgs s__law_odd) (defBody s__law_odd) (defScope s__law_odd) .none kV62 dc62 pm62 an62 cd62 ct62), sl62⟩) (c62 : PySem.W.codeIn K cd62 "_law_odd" = true) (k62 : PySem.W.keepIn K (.ref f62) = true)
    {f75 : Addr} {od75 an75 : Option Addr} {sl75 : Array (Option Value)} {oc75 kV75 dc75 pm75 cd75 ct75 : Value}
    (a75 : PySem.W.nsIn K mainGlobals "_law_spoiled" = some (some (.ref f75))) (l75 : K.lookup f75 = some ⟨oc75, od75, .func (PySem.W.fnOf "_law_spoiled" "_law_spoiled" (defArgs s__law_spoiled) (defBody s__law_spoiled) (defScope s__law_spoiled) .none kV75 dc75 pm75 an75 cd75 ct75), sl75⟩) (c75 : PySem.W.codeIn K cd75 "_law_spoiled" = true) (k75 : PySem.W.keepIn K (.ref f75) = true)
    {f74 : Addr} {od74 an74 : Option Addr} {sl74 : Array (Option Value)} {oc74 kV74 dc74 pm74 cd74 ct74 : Value}
    (a74 : PySem.W.nsIn K mainGlobals "_law_shape" = some (some (.ref f74))) (l74 : K.lookup f74 = some ⟨oc74, od74, .func (PySem.W.fnOf "_law_shape" "_law_shape" (defArgs s__law_shape) (defBody s__law_shape) (defScope s__law_shape) .none kV74 dc74 pm74 an74 cd74 ct74), sl74⟩) (c74 : PySem.W.codeIn K cd74 "_law_shape" = true) (k74 : PySem.W.keepIn K (.ref f74) = true)
    {f76 : Addr} {od76 an76 : Option Addr} {sl76 : Array (Option Value)} {oc76 kV76 dc76 pm76 cd76 ct76 : Value}
    (a76 : PySem.W.nsIn K mainGlobals "_law_within_last" = some (some (.ref f76))) (l76 : K.lookup f76 = some ⟨oc76, od76, .func (PySem.W.fnOf "_law_within_last" "_law_within_last" (defArgs s__law_within_last) (defBody s__law_within_last) (defScope s__law_within_last) .none kV76 dc76 pm76 an76 cd76 ct76), sl76⟩) (c76 : PySem.W.codeIn K cd76 "_law_within_last" = true) (k76 : PySem.W.keepIn K (.ref f76) = true)
    {f78 : Addr} {od78 an78 : Option Addr} {sl78 : Array (Option Value)} {oc78 kV78 dc78 pm78 cd78 ct78 : Value}
    (a78 : PySem.W.nsIn K mainGlobals "_law_renamed" = some (some (.ref f78))) (l78 : K.lookup f78 = some ⟨oc78, od78, .func (PySem.W.fnOf "_law_renamed" "_law_renamed" (defArgs s__law_renamed) (defBody s__law_renamed) (defScope s__law_renamed) .none kV78 dc78 pm78 an78 cd78 ct78), sl78⟩) (c78 : PySem.W.codeIn K cd78 "_law_renamed" = true) (k78 : PySem.W.keepIn K (.ref f78) = true)
    {f77 : Addr} {od77 an77 : Option Addr} {sl77 : Array (Option Value)} {oc77 kV77 dc77 pm77 cd77 ct77 : Value}
    (a77 : PySem.W.nsIn K mainGlobals "_law_told" = some (some (.ref f77))) (l77 : K.lookup f77 = some ⟨oc77, od77, .func (PySem.W.fnOf "_law_told" "_law_told" (defArgs s__law_told) (defBody s__law_told) (defScope s__law_told) .none kV77 dc77 pm77 an77 cd77 ct77), sl77⟩) (c77 : PySem.W.codeIn K cd77 "_law_told" = true) (k77 : PySem.W.keepIn K (.ref f77) = true)
    {f4 : Addr} {od4 an4 : Option Addr} {sl4 : Array (Option Value)} {oc4 kV4 dc4 pm4 cd4 ct4 : Value}
    (a4 : PySem.W.nsIn K mainGlobals "is_signs" = some (some (.ref f4))) (l4 : K.lookup f4 = some ⟨oc4, od4, .func (PySem.W.fnOf "is_signs" "is_signs" (defArgs s_is_signs) (defBody s_is_signs) (defScope s_is_signs) .none kV4 dc4 pm4 an4 cd4 ct4), sl4⟩) (c4 : PySem.W.codeIn K cd4 "is_signs" = true) (k4 : PySem.W.keepIn K (.ref f4) = true)
    {f14 : Addr} {od14 an14 : Option Addr} {sl14 : Array (Option Value)} {oc14 kV14 dc14 pm14 cd14 ct14 : Value}
    (a14 : PySem.W.nsIn K mainGlobals "is_name" = some (some (.ref f14))) (l14 : K.lookup f14 = some ⟨oc14, od14, .func (PySem.W.fnOf "is_name" "is_name" (defArgs s_is_name) (defBody s_is_name) (defScope s_is_name) .none kV14 dc14 pm14 an14 cd14 ct14), sl14⟩) (c14 : PySem.W.codeIn K cd14 "is_name" = true) (k14 : PySem.W.keepIn K (.ref f14) = true)
    {f36 : Addr} {od36 an36 : Option Addr} {sl36 : Array (Option Value)} {oc36 kV36 dc36 pm36 cd36 ct36 : Value}
    (a36 : PySem.W.nsIn K mainGlobals "is_flag" = some (some (.ref f36))) (l36 : K.lookup f36 = some ⟨oc36, od36, .func (PySem.W.fnOf "is_flag" "is_flag" (defArgs s_is_flag) (defBody s_is_flag) (defScope s_is_flag) .none kV36 dc36 pm36 an36 cd36 ct36), sl36⟩) (c36 : PySem.W.codeIn K cd36 "is_flag" = true) (k36 : PySem.W.keepIn K (.ref f36) = true)
    {f43 : Addr} {od43 an43 : Option Addr} {sl43 : Array (Option Value)} {oc43 kV43 dc43 pm43 cd43 ct43 : Value}
    (a43 : PySem.W.nsIn K mainGlobals "is_dead_topic" = some (some (.ref f43))) (l43 : K.lookup f43 = some ⟨oc43, od43, .func (PySem.W.fnOf "is_dead_topic" "is_dead_topic" (defArgs s_is_dead_topic) (defBody s_is_dead_topic) (defScope s_is_dead_topic) .none kV43 dc43 pm43 an43 cd43 ct43), sl43⟩) (c43 : PySem.W.codeIn K cd43 "is_dead_topic" = true) (k43 : PySem.W.keepIn K (.ref f43) = true)
    {f2 : Addr} {od2 an2 : Option Addr} {sl2 : Array (Option Value)} {oc2 kV2 dc2 pm2 cd2 ct2 : Value}
    (a2 : PySem.W.nsIn K mainGlobals "is_integer" = some (some (.ref f2))) (l2 : K.lookup f2 = some ⟨oc2, od2, .func (PySem.W.fnOf "is_integer" "is_integer" (defArgs s_is_integer) (defBody s_is_integer) (defScope s_is_integer) .none kV2 dc2 pm2 an2 cd2 ct2), sl2⟩) (c2 : PySem.W.codeIn K cd2 "is_integer" = true) (k2 : PySem.W.keepIn K (.ref f2) = true)
    {f3 : Addr} {od3 an3 : Option Addr} {sl3 : Array (Option Value)} {oc3 kV3 dc3 pm3 cd3 ct3 : Value}
    (a3 : PySem.W.nsIn K mainGlobals "is_within" = some (some (.ref f3))) (l3 : K.lookup f3 = some ⟨oc3, od3, .func (PySem.W.fnOf "is_within" "is_within" (defArgs s_is_within) (defBody s_is_within) (defScope s_is_within) .none kV3 dc3 pm3 an3 cd3 ct3), sl3⟩) (c3 : PySem.W.codeIn K cd3 "is_within" = true) (k3 : PySem.W.keepIn K (.ref f3) = true)
    {f38 : Addr} {od38 an38 : Option Addr} {sl38 : Array (Option Value)} {oc38 kV38 dc38 pm38 cd38 ct38 : Value}
    (a38 : PySem.W.nsIn K mainGlobals "is_number" = some (some (.ref f38))) (l38 : K.lookup f38 = some ⟨oc38, od38, .func (PySem.W.fnOf "is_number" "is_number" (defArgs s_is_number) (defBody s_is_number) (defScope s_is_number) .none kV38 dc38 pm38 an38 cd38 ct38), sl38⟩) (c38 : PySem.W.codeIn K cd38 "is_number" = true) (k38 : PySem.W.keepIn K (.ref f38) = true)
    {f15 : Addr} {od15 an15 : Option Addr} {sl15 : Array (Option Value)} {oc15 kV15 dc15 pm15 cd15 ct15 : Value}
    (a15 : PySem.W.nsIn K mainGlobals "is_plain" = some (some (.ref f15))) (l15 : K.lookup f15 = some ⟨oc15, od15, .func (PySem.W.fnOf "is_plain" "is_plain" (defArgs s_is_plain) (defBody s_is_plain) (defScope s_is_plain) .none kV15 dc15 pm15 an15 cd15 ct15), sl15⟩) (c15 : PySem.W.codeIn K cd15 "is_plain" = true) (k15 : PySem.W.keepIn K (.ref f15) = true)
    {f37 : Addr} {od37 an37 : Option Addr} {sl37 : Array (Option Value)} {oc37 kV37 dc37 pm37 cd37 ct37 : Value}
    (a37 : PySem.W.nsIn K mainGlobals "is_body" = some (some (.ref f37))) (l37 : K.lookup f37 = some ⟨oc37, od37, .func (PySem.W.fnOf "is_body" "is_body" (defArgs s_is_body) (defBody s_is_body) (defScope s_is_body) .none kV37 dc37 pm37 an37 cd37 ct37), sl37⟩) (c37 : PySem.W.codeIn K cd37 "is_body" = true) (k37 : PySem.W.keepIn K (.ref f37) = true)
    {f45 : Addr} {od45 an45 : Option Addr} {sl45 : Array (Option Value)} {oc45 kV45 dc45 pm45 cd45 ct45 : Value}
    (a45 : PySem.W.nsIn K mainGlobals "is_item" = some (some (.ref f45))) (l45 : K.lookup f45 = some ⟨oc45, od45, .func (PySem.W.fnOf "is_item" "is_item" (defArgs s_is_item) (defBody s_is_item) (defScope s_is_item) .none kV45 dc45 pm45 an45 cd45 ct45), sl45⟩) (c45 : PySem.W.codeIn K cd45 "is_item" = true) (k45 : PySem.W.keepIn K (.ref f45) = true)
    {f46 : Addr} {od46 an46 : Option Addr} {sl46 : Array (Option Value)} {oc46 kV46 dc46 pm46 cd46 ct46 : Value}
    (a46 : PySem.W.nsIn K mainGlobals "are_made" = some (some (.ref f46))) (l46 : K.lookup f46 = some ⟨oc46, od46, .func (PySem.W.fnOf "are_made" "are_made" (defArgs s_are_made) (defBody s_are_made) (defScope s_are_made) .none kV46 dc46 pm46 an46 cd46 ct46), sl46⟩) (c46 : PySem.W.codeIn K cd46 "are_made" = true) (k46 : PySem.W.keepIn K (.ref f46) = true)
    {f47 : Addr} {od47 an47 : Option Addr} {sl47 : Array (Option Value)} {oc47 kV47 dc47 pm47 cd47 ct47 : Value}
    (a47 : PySem.W.nsIn K mainGlobals "are_sent" = some (some (.ref f47))) (l47 : K.lookup f47 = some ⟨oc47, od47, .func (PySem.W.fnOf "are_sent" "are_sent" (defArgs s_are_sent) (defBody s_are_sent) (defScope s_are_sent) .none kV47 dc47 pm47 an47 cd47 ct47), sl47⟩) (c47 : PySem.W.codeIn K cd47 "are_sent" = true) (k47 : PySem.W.keepIn K (.ref f47) = true)
    {f44 : Addr} {od44 an44 : Option Addr} {sl44 : Array (Option Value)} {oc44 kV44 dc44 pm44 cd44 ct44 : Value}
    (a44 : PySem.W.nsIn K mainGlobals "is_token" = some (some (.ref f44))) (l44 : K.lookup f44 = some ⟨oc44, od44, .func (PySem.W.fnOf "is_token" "is_token" (defArgs s_is_token) (defBody s_is_token) (defScope s_is_token) .none kV44 dc44 pm44 an44 cd44 ct44), sl44⟩) (c44 : PySem.W.codeIn K cd44 "is_token" = true) (k44 : PySem.W.keepIn K (.ref f44) = true)
    {f40 : Addr} {od40 an40 : Option Addr} {sl40 : Array (Option Value)} {oc40 kV40 dc40 pm40 cd40 ct40 : Value}
    (a40 : PySem.W.nsIn K mainGlobals "is_try" = some (some (.ref f40))) (l40 : K.lookup f40 = some ⟨oc40, od40, .func (PySem.W.fnOf "is_try" "is_try" (defArgs s_is_try) (defBody s_is_try) (defScope s_is_try) .none kV40 dc40 pm40 an40 cd40 ct40), sl40⟩) (c40 : PySem.W.codeIn K cd40 "is_try" = true) (k40 : PySem.W.keepIn K (.ref f40) = true)
    {f39 : Addr} {od39 an39 : Option Addr} {sl39 : Array (Option Value)} {oc39 kV39 dc39 pm39 cd39 ct39 : Value}
    (a39 : PySem.W.nsIn K mainGlobals "is_index" = some (some (.ref f39))) (l39 : K.lookup f39 = some ⟨oc39, od39, .func (PySem.W.fnOf "is_index" "is_index" (defArgs s_is_index) (defBody s_is_index) (defScope s_is_index) .none kV39 dc39 pm39 an39 cd39 ct39), sl39⟩) (c39 : PySem.W.codeIn K cd39 "is_index" = true) (k39 : PySem.W.keepIn K (.ref f39) = true)
    {f54 : Addr} {od54 an54 : Option Addr} {sl54 : Array (Option Value)} {oc54 kV54 dc54 pm54 cd54 ct54 : Value}
    (a54 : PySem.W.nsIn K mainGlobals "fits" = some (some (.ref f54))) (l54 : K.lookup f54 = some ⟨oc54, od54, .func (PySem.W.fnOf "fits" "fits" (defArgs s_fits) (defBody s_fits) (defScope s_fits) .none kV54 dc54 pm54 an54 cd54 ct54), sl54⟩) (c54 : PySem.W.codeIn K cd54 "fits" = true) (k54 : PySem.W.keepIn K (.ref f54) = true)
    {f48 : Addr} {od48 an48 : Option Addr} {sl48 : Array (Option Value)} {oc48 kV48 dc48 pm48 cd48 ct48 : Value}
    (a48 : PySem.W.nsIn K mainGlobals "is_command" = some (some (.ref f48))) (l48 : K.lookup f48 = some ⟨oc48, od48, .func (PySem.W.fnOf "is_command" "is_command" (defArgs s_is_command) (defBody s_is_command) (defScope s_is_command) .none kV48 dc48 pm48 an48 cd48 ct48), sl48⟩) (c48 : PySem.W.codeIn K cd48 "is_command" = true) (k48 : PySem.W.keepIn K (.ref f48) = true)
    {f79 : Addr} {od79 an79 : Option Addr} {sl79 : Array (Option Value)} {oc79 kV79 dc79 pm79 cd79 ct79 : Value}
    (a79 : PySem.W.nsIn K mainGlobals "_law_right" = some (some (.ref f79))) (l79 : K.lookup f79 = some ⟨oc79, od79, .func (PySem.W.fnOf "_law_right" "_law_right" (defArgs s__law_right) (defBody s__law_right) (defScope s__law_right) .none kV79 dc79 pm79 an79 cd79 ct79), sl79⟩) (c79 : PySem.W.codeIn K cd79 "_law_right" = true) (k79 : PySem.W.keepIn K (.ref f79) = true)
    {f80 : Addr} {od80 an80 : Option Addr} {sl80 : Array (Option Value)} {oc80 kV80 dc80 pm80 cd80 ct80 : Value}
    (a80 : PySem.W.nsIn K mainGlobals "law" = some (some (.ref f80))) (l80 : K.lookup f80 = some ⟨oc80, od80, .func (PySem.W.fnOf "law" "law" (defArgs s_law) (defBody s_law) (defScope s_law) .none kV80 dc80 pm80 an80 cd80 ct80), sl80⟩) (c80 : PySem.W.codeIn K cd80 "law" = true) (k80 : PySem.W.keepIn K (.ref f80) = true)
    (z_int : PySem.W.nsIn K mainGlobals "int" = some none)
    (z_abs : PySem.W.nsIn K mainGlobals "abs" = some none)
    (z_len : PySem.W.nsIn K mainGlobals "len" = some none)
    (z_sum : PySem.W.nsIn K mainGlobals "sum" = some none)
    (z_range : PySem.W.nsIn K mainGlobals "range" = some none)
    (z_tuple : PySem.W.nsIn K mainGlobals "tuple" = some none)
    (z_isinstance : PySem.W.nsIn K mainGlobals "isinstance" = some none)
    (z_bool : PySem.W.nsIn K mainGlobals "bool" = some none)
    (z_str : PySem.W.nsIn K mainGlobals "str" = some none)
    (z_dict : PySem.W.nsIn K mainGlobals "dict" = some none)
    (z_list : PySem.W.nsIn K mainGlobals "list" = some none)
    (z_all : PySem.W.nsIn K mainGlobals "all" = some none)
    (z_enumerate : PySem.W.nsIn K mainGlobals "enumerate" = some none)
    (z_repr : PySem.W.nsIn K mainGlobals "repr" = some none)
    (z_max : PySem.W.nsIn K mainGlobals "max" = some none)
    (z_min : PySem.W.nsIn K mainGlobals "min" = some none)
    {t_MOST_NAME : Tok} (v_MOST_NAME : PySem.W.nsIn K mainGlobals "MOST_NAME" = some (some (.int (8) t_MOST_NAME)))
    {t_MOST_NUMBER_letters : Tok} (v_MOST_NUMBER_letters : PySem.W.nsIn K mainGlobals "MOST_NUMBER_letters" = some (some (.int (999999999999) t_MOST_NUMBER_letters)))
    {t_MOST_PLAIN : Tok} (v_MOST_PLAIN : PySem.W.nsIn K mainGlobals "MOST_PLAIN" = some (some (.int (60) t_MOST_PLAIN)))
    {t_MOST_BODY : Tok} (v_MOST_BODY : PySem.W.nsIn K mainGlobals "MOST_BODY" = some (some (.int (40) t_MOST_BODY)))
    {t_MOST_TICKS : Tok} (v_MOST_TICKS : PySem.W.nsIn K mainGlobals "MOST_TICKS" = some (some (.int (50) t_MOST_TICKS)))
    {t_MOST_PRIORITY : Tok} (v_MOST_PRIORITY : PySem.W.nsIn K mainGlobals "MOST_PRIORITY" = some (some (.int (3) t_MOST_PRIORITY)))
    {t_MOST_ITEMS_letters : Tok} (v_MOST_ITEMS_letters : PySem.W.nsIn K mainGlobals "MOST_ITEMS_letters" = some (some (.int (4) t_MOST_ITEMS_letters)))
    {t_MOST_TRIES : Tok} (v_MOST_TRIES : PySem.W.nsIn K mainGlobals "MOST_TRIES" = some (some (.int (4) t_MOST_TRIES)))
    {dF : Addr} {aR0 aR1 aR2 aR3 aR4 aR5 aR6 aR7 aR8 aR9 aR10 aR11 aR12 aR13 aR14 aR15 aR16 aR17 aR18 aR19 aR20 aR21 aR22 : Addr}
    (tF : Z.Tab K l.prog w dF ((([(PySem.Str.ofString "commands", PySem.Str.ofString "topic", aR0), (PySem.Str.ofString "commands", PySem.Str.ofString "group", aR1), (PySem.Str.ofString "commands", PySem.Str.ofString "send", aR2), (PySem.Str.ofString "commands", PySem.Str.ofString "done", aR3), (PySem.Str.ofString "commands", PySem.Str.ofString "failed", aR4), (PySem.Str.ofString "commands", PySem.Str.ofString "now", aR5), (PySem.Str.ofString "brokers", PySem.Str.ofString "ask", aR6), (PySem.Str.ofString "brokers", PySem.Str.ofString "vote", aR7)] : List (Str × Str × Addr)) ++ ([(PySem.Str.ofString "brokers", PySem.Str.ofString "rows", aR8), (PySem.Str.ofString "brokers", PySem.Str.ofString "got", aR9), (PySem.Str.ofString "brokers", PySem.Str.ofString "whole", aR10), (PySem.Str.ofString "asks", PySem.Str.ofString "send", aR11), (PySem.Str.ofString "asks", PySem.Str.ofString "want", aR12), (PySem.Str.ofString "asks", PySem.Str.ofString "done", aR13), (PySem.Str.ofString "asks", PySem.Str.ofString "nay", aR14), (PySem.Str.ofString "asks", PySem.Str.ofString "make", aR15)] : List (Str × Str × Addr)) ++ ([(PySem.Str.ofString "answers", PySem.Str.ofString "ok", aR16), (PySem.Str.ofString "answers", PySem.Str.ofString "give", aR17), (PySem.Str.ofString "answers", PySem.Str.ofString "none", aR18), (PySem.Str.ofString "answers", PySem.Str.ofString "yes", aR19), (PySem.Str.ofString "answers", PySem.Str.ofString "stale", aR20), (PySem.Str.ofString "answers", PySem.Str.ofString "made", aR21), (PySem.Str.ofString "answers", PySem.Str.ofString "elsewhere", aR22)] : List (Str × Str × Addr))).map kvO)) (gF : PySem.W.nsIn K mainGlobals "FORMS" = some (some (.ref dF)))
    {dR0 : Option Addr} {nR0 : Nat} {sR0 : Array (Option Value)} (rR0 : K.lookup aR0 = some ⟨.type "tuple", dR0, .seq #[.ref f14, .ref f36] nR0, sR0⟩)
    {dR1 : Option Addr} {nR1 : Nat} {sR1 : Array (Option Value)} (rR1 : K.lookup aR1 = some ⟨.type "tuple", dR1, .seq #[.ref f14, .ref f14, .ref f43] nR1, sR1⟩)
    {dR2 : Option Addr} {nR2 : Nat} {sR2 : Array (Option Value)} (rR2 : K.lookup aR2 = some ⟨.type "tuple", dR2, .seq #[.ref f14, .ref f38, .ref f47] nR2, sR2⟩)
    {dR3 : Option Addr} {nR3 : Nat} {sR3 : Array (Option Value)} (rR3 : K.lookup aR3 = some ⟨.type "tuple", dR3, .seq #[.ref f14, .ref f38, .ref f44, .ref f46] nR3, sR3⟩)
    {dR4 : Option Addr} {nR4 : Nat} {sR4 : Array (Option Value)} (rR4 : K.lookup aR4 = some ⟨.type "tuple", dR4, .seq #[.ref f14, .ref f38, .ref f40] nR4, sR4⟩)
    {dR5 : Option Addr} {nR5 : Nat} {sR5 : Array (Option Value)} (rR5 : K.lookup aR5 = some ⟨.type "tuple", dR5, .seq #[.ref f39] nR5, sR5⟩)
    : ∃ fd : FuncData, (∀ (s : Shared) (v : Value), BindsTo s fd ⟨[v], []⟩ [("_law_script", v)]) ∧ ∀ base : Heap, K.In base → base.Ns mainGlobals mg → FnG l.prog w K mg base CX0 10 fa fd ["_law_script"] (sp_law K) := by
  have hl : PySem.W.nsIn K mainGlobals "law" = some (some (.ref f80)) := a80
  have e := hfa.symm.trans (PySem.W.mg_of X G a80)
  cases e
  have T : Txt K mg := ⟨PySem.W.mg_none_of X G z_int, PySem.W.mg_none_of X G z_abs, PySem.W.mg_none_of X G z_len, PySem.W.mg_none_of X G z_sum, PySem.W.mg_none_of X G z_range, PySem.W.mg_none_of X G z_tuple, PySem.W.mg_none_of X G z_isinstance, PySem.W.mg_none_of X G z_bool, PySem.W.mg_none_of X G z_str, PySem.W.mg_none_of X G z_dict, PySem.W.mg_none_of X G z_list, PySem.W.mg_none_of X G z_all, PySem.W.mg_none_of X G z_enumerate, PySem.W.mg_none_of X G z_repr, PySem.W.mg_none_of X G z_max, PySem.W.mg_none_of X G z_min, ⟨_, PySem.W.mg_of X G v_MOST_NAME, ⟨_, rfl⟩⟩, ⟨_, PySem.W.mg_of X G v_MOST_NUMBER_letters, ⟨_, rfl⟩⟩, ⟨_, PySem.W.mg_of X G v_MOST_PLAIN, ⟨_, rfl⟩⟩, ⟨_, PySem.W.mg_of X G v_MOST_BODY, ⟨_, rfl⟩⟩, ⟨_, PySem.W.mg_of X G v_MOST_TICKS, ⟨_, rfl⟩⟩, ⟨_, PySem.W.mg_of X G v_MOST_PRIORITY, ⟨_, rfl⟩⟩, ⟨_, PySem.W.mg_of X G v_MOST_ITEMS_letters, ⟨_, rfl⟩⟩, ⟨_, PySem.W.mg_of X G v_MOST_TRIES, ⟨_, rfl⟩⟩⟩
  have D__law_box : Df K mg "_law_box" s__law_box ["_law_great"] := df_mk X G a57 l57 c57 k57 fun _ _ _ _ _ _ us hl => match us, hl with | [_], _ => rfl
  have D__law_cell : Df K mg "_law_cell" s__law_cell ["_law_script", "_law_k"] := df_mk X G a56 l56 c56 k56 fun _ _ _ _ _ _ us hl => match us, hl with | [_, _], _ => rfl
  have D__law_take : Df K mg "_law_take" s__law_take ["_law_box_here", "_law_many"] := df_mk X G a58 l58 c58 k58 fun _ _ _ _ _ _ us hl => match us, hl with | [_, _], _ => rfl
  have D__law_name : Df K mg "_law_name" s__law_name ["_law_box_here"] := df_mk X G a59 l59 c59 k59 fun _ _ _ _ _ _ us hl => match us, hl with | [_], _ => rfl
  have D__law_text : Df K mg "_law_text" s__law_text ["_law_box_here", "_law_most"] := df_mk X G a60 l60 c60 k60 fun _ _ _ _ _ _ us hl => match us, hl with | [_, _], _ => rfl
  have D__law_item : Df K mg "_law_item" s__law_item ["_law_box_here"] := df_mk X G a61 l61 c61 k61 fun _ _ _ _ _ _ us hl => match us, hl with | [_], _ => rfl
  have D__law_items : Df K mg "_law_items" s__law_items ["_law_box_here", "_law_least"] := df_mk X G a68 l68 c68 k68 fun _ _ _ _ _ _ us hl => match us, hl with | [_, _], _ => rfl
  have D__law_number : Df K mg "_law_number" s__law_number ["_law_box_here"] := df_mk X G a69 l69 c69 k69 fun _ _ _ _ _ _ us hl => match us, hl with | [_], _ => rfl
  have D__law_token : Df K mg "_law_token" s__law_token ["_law_box_here"] := df_mk X G a70 l70 c70 k70 fun _ _ _ _ _ _ us hl => match us, hl with | [_], _ => rfl
  have D__law_command : Df K mg "_law_command" s__law_command ["_law_box_here", "_law_way"] := df_mk X G a71 l71 c71 k71 fun _ _ _ _ _ _ us hl => match us, hl with | [_, _], _ => rfl
  have D__law_within : Df K mg "_law_within" s__law_within ["_law_value", "_law_least", "_law_most"] := df_mk X G a63 l63 c63 k63 fun _ _ _ _ _ _ us hl => match us, hl with | [_, _, _], _ => rfl
  have D__law_is_name : Df K mg "_law_is_name" s__law_is_name ["_law_value"] := df_mk X G a64 l64 c64 k64 fun _ _ _ _ _ _ us hl => match us, hl with | [_], _ => rfl
  have D__law_is_body : Df K mg "_law_is_body" s__law_is_body ["_law_value"] := df_mk X G a65 l65 c65 k65 fun _ _ _ _ _ _ us hl => match us, hl with | [_], _ => rfl
  have D__law_is_item : Df K mg "_law_is_item" s__law_is_item ["_law_value"] := df_mk X G a67 l67 c67 k67 fun _ _ _ _ _ _ us hl => match us, hl with | [_], _ => rfl
  have D__law_are_items : Df K mg "_law_are_items" s__law_are_items ["_law_value", "_law_least"] := df_mk X G a72 l72 c72 k72 fun _ _ _ _ _ _ us hl => match us, hl with | [_, _], _ => rfl
  have D__law_is_token : Df K mg "_law_is_token" s__law_is_token ["_law_value"] := df_mk X G a66 l66 c66 k66 fun _ _ _ _ _ _ us hl => match us, hl with | [_], _ => rfl
  have D__law_is_command : Df K mg "_law_is_command" s__law_is_command ["_law_value"] := df_mk X G a73 l73 c73 k73 fun _ _ _ _ _ _ us hl => match us, hl with | [_], _ => rfl
  have D__law_odd : Df K mg "_law_odd" s__law_odd ["_law_box_here"] := df_mk X G a62 l62 c62 k62 fun _ _ _ _ _ _ us hl => match us, hl with | [_], _ => rfl
  have D__law_spoiled : Df K mg "_law_spoiled" s__law_spoiled ["_law_box_here", "_law_value"] := df_mk X G a75 l75 c75 k75 fun _ _ _ _ _ _ us hl => match us, hl with | [_, _], _ => rfl
  have D__law_shape : Df K mg "_law_shape" s__law_shape ["_law_box_here", "_law_value"] := df_mk X G a74 l74 c74 k74 fun _ _ _ _ _ _ us hl => match us, hl with | [_, _], _ => rfl
  have D__law_within_last : Df K mg "_law_within_last" s__law_within_last ["_law_box_here", "_law_value"] := df_mk X G a76 l76 c76 k76 fun _ _ _ _ _ _ us hl => match us, hl with | [_, _], _ => rfl
  have D__law_renamed : Df K mg "_law_renamed" s__law_renamed ["_law_box_here", "_law_value"] := df_mk X G a78 l78 c78 k78 fun _ _ _ _ _ _ us hl => match us, hl with | [_, _], _ => rfl
  have D__law_told : Df K mg "_law_told" s__law_told ["_law_answer", "_law_due"] := df_mk X G a77 l77 c77 k77 fun _ _ _ _ _ _ us hl => match us, hl with | [_, _], _ => rfl
  have D_is_signs : Df K mg "is_signs" s_is_signs ["value"] := df_mk X G a4 l4 c4 k4 fun _ _ _ _ _ _ us hl => match us, hl with | [_], _ => rfl
  have D_is_name : Df K mg "is_name" s_is_name ["value"] := df_mk X G a14 l14 c14 k14 fun _ _ _ _ _ _ us hl => match us, hl with | [_], _ => rfl
  have D_is_flag : Df K mg "is_flag" s_is_flag ["value"] := df_mk X G a36 l36 c36 k36 fun _ _ _ _ _ _ us hl => match us, hl with | [_], _ => rfl
  have D_is_dead_topic : Df K mg "is_dead_topic" s_is_dead_topic ["value"] := df_mk X G a43 l43 c43 k43 fun _ _ _ _ _ _ us hl => match us, hl with | [_], _ => rfl
  have D_is_integer : Df K mg "is_integer" s_is_integer ["value"] := df_mk X G a2 l2 c2 k2 fun _ _ _ _ _ _ us hl => match us, hl with | [_], _ => rfl
  have D_is_within : Df K mg "is_within" s_is_within ["value", "least", "most"] := df_mk X G a3 l3 c3 k3 fun _ _ _ _ _ _ us hl => match us, hl with | [_, _, _], _ => rfl
  have D_is_number : Df K mg "is_number" s_is_number ["value"] := df_mk X G a38 l38 c38 k38 fun _ _ _ _ _ _ us hl => match us, hl with | [_], _ => rfl
  have D_is_plain : Df K mg "is_plain" s_is_plain ["value"] := df_mk X G a15 l15 c15 k15 fun _ _ _ _ _ _ us hl => match us, hl with | [_], _ => rfl
  have D_is_body : Df K mg "is_body" s_is_body ["value"] := df_mk X G a37 l37 c37 k37 fun _ _ _ _ _ _ us hl => match us, hl with | [_], _ => rfl
  have D_is_item : Df K mg "is_item" s_is_item ["value"] := df_mk X G a45 l45 c45 k45 fun _ _ _ _ _ _ us hl => match us, hl with | [_], _ => rfl
  have D_are_made : Df K mg "are_made" s_are_made ["value"] := df_mk X G a46 l46 c46 k46 fun _ _ _ _ _ _ us hl => match us, hl with | [_], _ => rfl
  have D_are_sent : Df K mg "are_sent" s_are_sent ["value"] := df_mk X G a47 l47 c47 k47 fun _ _ _ _ _ _ us hl => match us, hl with | [_], _ => rfl
  have D_is_token : Df K mg "is_token" s_is_token ["value"] := df_mk X G a44 l44 c44 k44 fun _ _ _ _ _ _ us hl => match us, hl with | [_], _ => rfl
  have D_is_try : Df K mg "is_try" s_is_try ["value"] := df_mk X G a40 l40 c40 k40 fun _ _ _ _ _ _ us hl => match us, hl with | [_], _ => rfl
  have D_is_index : Df K mg "is_index" s_is_index ["value"] := df_mk X G a39 l39 c39 k39 fun _ _ _ _ _ _ us hl => match us, hl with | [_], _ => rfl
  have D_fits : Df K mg "fits" s_fits ["group", "value"] := df_mk X G a54 l54 c54 k54 fun _ _ _ _ _ _ us hl => match us, hl with | [_, _], _ => rfl
  have D_is_command : Df K mg "is_command" s_is_command ["value"] := df_mk X G a48 l48 c48 k48 fun _ _ _ _ _ _ us hl => match us, hl with | [_], _ => rfl
  have D__law_right : Df K mg "_law_right" s__law_right ["_law_value"] := df_mk X G a79 l79 c79 k79 fun _ _ _ _ _ _ us hl => match us, hl with | [_], _ => rfl
  have D_law : Df K mg "law" s_law ["_law_script"] := df_mk X G a80 l80 c80 k80 fun _ _ _ _ _ _ us hl => match us, hl with | [_], _ => rfl
  refine ⟨PySem.W.fnOf "law" "law" (defArgs s_law) (defBody s_law) (defScope s_law) .none kV80 dc80 pm80 an80 cd80 ct80, fun s v => .of_eq rfl, fun base _ _ => ?_⟩
  have C__law_box : Ct l.prog w K mg base CX0 1 "_law_box" ["_law_great"] (sp__law_box K) := ok__law_box T D__law_box
  have C__law_cell : Ct l.prog w K mg base CX0 1 "_law_cell" ["_law_script", "_law_k"] (sp__law_cell K) := ok__law_cell T D__law_cell
  have C__law_take : Ct l.prog w K mg base CX0 1 "_law_take" ["_law_box_here", "_law_many"] (sp__law_take K) := ok__law_take T D__law_take
  have C__law_name : Ct l.prog w K mg base CX0 2 "_law_name" ["_law_box_here"] (sp__law_name K) := ok__law_name T C__law_take D__law_name
  have C__law_text : Ct l.prog w K mg base CX0 2 "_law_text" ["_law_box_here", "_law_most"] (sp__law_text K) := ok__law_text T C__law_take D__law_text
  have C__law_item : Ct l.prog w K mg base CX0 3 "_law_item" ["_law_box_here"] (sp__law_item K) := ok__law_item C__law_take C__law_text C__law_name D__law_item
  have C__law_items : Ct l.prog w K mg base CX0 4 "_law_items" ["_law_box_here", "_law_least"] (sp__law_items K) := ok__law_items T C__law_take C__law_item D__law_items
  have C__law_number : Ct l.prog w K mg base CX0 2 "_law_number" ["_law_box_here"] (sp__law_number K) := ok__law_number C__law_take D__law_number
  have C__law_token : Ct l.prog w K mg base CX0 3 "_law_token" ["_law_box_here"] (sp__law_token K) := ok__law_token C__law_number D__law_token
  have C__law_command : Ct l.prog w K mg base CX0 5 "_law_command" ["_law_box_here", "_law_way"] (sp__law_command K) := ok__law_command C__law_name C__law_take C__law_items C__law_number C__law_token D__law_command
  have C__law_within : Ct l.prog w K mg base CX0 1 "_law_within" ["_law_value", "_law_least", "_law_most"] (sp__law_within K) := ok__law_within T D__law_within
  have C__law_is_name : Ct l.prog w K mg base CX0 1 "_law_is_name" ["_law_value"] (sp__law_is_name K) := ok__law_is_name T D__law_is_name
  have C__law_is_body : Ct l.prog w K mg base CX0 1 "_law_is_body" ["_law_value"] (sp__law_is_body K) := ok__law_is_body T D__law_is_body
  have C__law_is_item : Ct l.prog w K mg base CX0 2 "_law_is_item" ["_law_value"] (sp__law_is_item K) := ok__law_is_item T C__law_is_body C__law_is_name C__law_within D__law_is_item
  have C__law_are_items : Ct l.prog w K mg base CX0 3 "_law_are_items" ["_law_value", "_law_least"] (sp__law_are_items K) := ok__law_are_items T C__law_is_item D__law_are_items
  have C__law_is_token : Ct l.prog w K mg base CX0 2 "_law_is_token" ["_law_value"] (sp__law_is_token K) := ok__law_is_token T C__law_within D__law_is_token
  have C__law_is_command : Ct l.prog w K mg base CX0 4 "_law_is_command" ["_law_value"] (sp__law_is_command K) := ok__law_is_command T C__law_within C__law_is_name C__law_are_items C__law_is_token D__law_is_command
  have C__law_odd : Ct l.prog w K mg base CX0 2 "_law_odd" ["_law_box_here"] (sp__law_odd K) := ok__law_odd C__law_take D__law_odd
  have C__law_spoiled : Ct l.prog w K mg base CX0 3 "_law_spoiled" ["_law_box_here", "_law_value"] (sp__law_spoiled K) := ok__law_spoiled T C__law_take C__law_odd D__law_spoiled
  have C__law_shape : Ct l.prog w K mg base CX0 2 "_law_shape" ["_law_box_here", "_law_value"] (sp__law_shape K) := ok__law_shape T C__law_take D__law_shape
  have C__law_within_last : Ct l.prog w K mg base CX0 4 "_law_within_last" ["_law_box_here", "_law_value"] (sp__law_within_last K) := ok__law_within_last T C__law_odd C__law_take C__law_spoiled C__law_shape D__law_within_last
  have C__law_renamed : Ct l.prog w K mg base CX0 2 "_law_renamed" ["_law_box_here", "_law_value"] (sp__law_renamed K) := ok__law_renamed C__law_take D__law_renamed
  have C__law_told : Ct l.prog w K mg base CX0 1 "_law_told" ["_law_answer", "_law_due"] (sp__law_told K) := ok__law_told D__law_told
  have C_is_signs : Ct l.prog w K mg base CX0 1 "is_signs" ["value"] (sp_is_signs K) := ok_is_signs T D_is_signs
  have C_is_name : Ct l.prog w K mg base CX0 2 "is_name" ["value"] (sp_is_name K) := ok_is_name T C_is_signs D_is_name
  have C_is_flag : Ct l.prog w K mg base CX0 1 "is_flag" ["value"] (sp_is_flag K) := ok_is_flag T D_is_flag
  have C_is_dead_topic : Ct l.prog w K mg base CX0 3 "is_dead_topic" ["value"] (sp_is_dead_topic K) := ok_is_dead_topic C_is_name D_is_dead_topic
  have C_is_integer : Ct l.prog w K mg base CX0 1 "is_integer" ["value"] (sp_is_integer K) := ok_is_integer T D_is_integer
  have C_is_within : Ct l.prog w K mg base CX0 2 "is_within" ["value", "least", "most"] (sp_is_within K) := ok_is_within C_is_integer D_is_within
  have C_is_number : Ct l.prog w K mg base CX0 3 "is_number" ["value"] (sp_is_number K) := ok_is_number T C_is_within D_is_number
  have C_is_plain : Ct l.prog w K mg base CX0 2 "is_plain" ["value"] (sp_is_plain K) := ok_is_plain T C_is_signs D_is_plain
  have C_is_body : Ct l.prog w K mg base CX0 3 "is_body" ["value"] (sp_is_body K) := ok_is_body T C_is_plain D_is_body
  have C_is_item : Ct l.prog w K mg base CX0 4 "is_item" ["value"] (sp_is_item K) := ok_is_item T C_is_body C_is_name C_is_within D_is_item
  have C_are_made : Ct l.prog w K mg base CX0 5 "are_made" ["value"] (sp_are_made K) := ok_are_made T C_is_item D_are_made
  have C_are_sent : Ct l.prog w K mg base CX0 6 "are_sent" ["value"] (sp_are_sent K) := ok_are_sent T C_are_made D_are_sent
  have C_is_token : Ct l.prog w K mg base CX0 4 "is_token" ["value"] (sp_is_token K) := ok_is_token T C_is_number D_is_token
  have C_is_try : Ct l.prog w K mg base CX0 3 "is_try" ["value"] (sp_is_try K) := ok_is_try T C_is_within D_is_try
  have C_is_index : Ct l.prog w K mg base CX0 3 "is_index" ["value"] (sp_is_index K) := ok_is_index T C_is_within D_is_index
  have FM : FormsF l.prog w K mg base 6 dF ((([(PySem.Str.ofString "commands", PySem.Str.ofString "topic", aR0), (PySem.Str.ofString "commands", PySem.Str.ofString "group", aR1), (PySem.Str.ofString "commands", PySem.Str.ofString "send", aR2), (PySem.Str.ofString "commands", PySem.Str.ofString "done", aR3), (PySem.Str.ofString "commands", PySem.Str.ofString "failed", aR4), (PySem.Str.ofString "commands", PySem.Str.ofString "now", aR5), (PySem.Str.ofString "brokers", PySem.Str.ofString "ask", aR6), (PySem.Str.ofString "brokers", PySem.Str.ofString "vote", aR7)] : List (Str × Str × Addr)) ++ ([(PySem.Str.ofString "brokers", PySem.Str.ofString "rows", aR8), (PySem.Str.ofString "brokers", PySem.Str.ofString "got", aR9), (PySem.Str.ofString "brokers", PySem.Str.ofString "whole", aR10), (PySem.Str.ofString "asks", PySem.Str.ofString "send", aR11), (PySem.Str.ofString "asks", PySem.Str.ofString "want", aR12), (PySem.Str.ofString "asks", PySem.Str.ofString "done", aR13), (PySem.Str.ofString "asks", PySem.Str.ofString "nay", aR14), (PySem.Str.ofString "asks", PySem.Str.ofString "make", aR15)] : List (Str × Str × Addr)) ++ ([(PySem.Str.ofString "answers", PySem.Str.ofString "ok", aR16), (PySem.Str.ofString "answers", PySem.Str.ofString "give", aR17), (PySem.Str.ofString "answers", PySem.Str.ofString "none", aR18), (PySem.Str.ofString "answers", PySem.Str.ofString "yes", aR19), (PySem.Str.ofString "answers", PySem.Str.ofString "stale", aR20), (PySem.Str.ofString "answers", PySem.Str.ofString "made", aR21), (PySem.Str.ofString "answers", PySem.Str.ofString "elsewhere", aR22)] : List (Str × Str × Addr))).map kvO) := by
    refine ⟨PySem.W.mg_of X G gF, tF, fun y => ?_⟩
    rw [valV_look]
    simp only [List.cons_append, List.nil_append]
    by_cases e0 : y = "topic"
    · subst e0
      exact .inr ⟨aR0, [f14, f36], _, by decide +kernel, look_hit, ⟨_, _, _, rR0, by show 2 ≤ sizeLine; decide⟩, (.cons (held_of C_is_name (by decide) (PySem.W.mg_of X G a14) (HP_is_name K)) (.cons (held_of C_is_flag (by decide) (PySem.W.mg_of X G a36) (HP_is_flag K)) .nil))⟩
    by_cases e1 : y = "group"
    · subst e1
      exact .inr ⟨aR1, [f14, f14, f43], _, by decide +kernel, (look_y (by decide +kernel)).trans <| look_hit, ⟨_, _, _, rR1, by show 3 ≤ sizeLine; decide⟩, (.cons (held_of C_is_name (by decide) (PySem.W.mg_of X G a14) (HP_is_name K)) (.cons (held_of C_is_name (by decide) (PySem.W.mg_of X G a14) (HP_is_name K)) (.cons (held_of C_is_dead_topic (by decide) (PySem.W.mg_of X G a43) (HP_is_dead_topic K)) .nil)))⟩
    by_cases e2 : y = "send"
    · subst e2
      exact .inr ⟨aR2, [f14, f38, f47], _, by decide +kernel, (look_y (by decide +kernel)).trans <| (look_y (by decide +kernel)).trans <| look_hit, ⟨_, _, _, rR2, by show 3 ≤ sizeLine; decide⟩, (.cons (held_of C_is_name (by decide) (PySem.W.mg_of X G a14) (HP_is_name K)) (.cons (held_of C_is_number (by decide) (PySem.W.mg_of X G a38) (HP_is_number K)) (.cons (held_of C_are_sent (by decide) (PySem.W.mg_of X G a47) (HP_are_sent K)) .nil)))⟩
    by_cases e3 : y = "done"
    · subst e3
      exact .inr ⟨aR3, [f14, f38, f44, f46], _, by decide +kernel, (look_y (by decide +kernel)).trans <| (look_y (by decide +kernel)).trans <| (look_y (by decide +kernel)).trans <| look_hit, ⟨_, _, _, rR3, by show 4 ≤ sizeLine; decide⟩, (.cons (held_of C_is_name (by decide) (PySem.W.mg_of X G a14) (HP_is_name K)) (.cons (held_of C_is_number (by decide) (PySem.W.mg_of X G a38) (HP_is_number K)) (.cons (held_of C_is_token (by decide) (PySem.W.mg_of X G a44) (HP_is_token K)) (.cons (held_of C_are_made (by decide) (PySem.W.mg_of X G a46) (HP_are_made K)) .nil))))⟩
    by_cases e4 : y = "failed"
    · subst e4
      exact .inr ⟨aR4, [f14, f38, f40], _, by decide +kernel, (look_y (by decide +kernel)).trans <| (look_y (by decide +kernel)).trans <| (look_y (by decide +kernel)).trans <| (look_y (by decide +kernel)).trans <| look_hit, ⟨_, _, _, rR4, by show 3 ≤ sizeLine; decide⟩, (.cons (held_of C_is_name (by decide) (PySem.W.mg_of X G a14) (HP_is_name K)) (.cons (held_of C_is_number (by decide) (PySem.W.mg_of X G a38) (HP_is_number K)) (.cons (held_of C_is_try (by decide) (PySem.W.mg_of X G a40) (HP_is_try K)) .nil)))⟩
    by_cases e5 : y = "now"
    · subst e5
      exact .inr ⟨aR5, [f39], _, by decide +kernel, (look_y (by decide +kernel)).trans <| (look_y (by decide +kernel)).trans <| (look_y (by decide +kernel)).trans <| (look_y (by decide +kernel)).trans <| (look_y (by decide +kernel)).trans <| look_hit, ⟨_, _, _, rR5, by show 1 ≤ sizeLine; decide⟩, (.cons (held_of C_is_index (by decide) (PySem.W.mg_of X G a39) (HP_is_index K)) .nil)⟩
    exact .inl ⟨by unfold formC; simp only [e0, e1, e2, e3, e4, e5, if_false], (look_y e0).trans <| (look_y e1).trans <| (look_y e2).trans <| (look_y e3).trans <| (look_y e4).trans <| (look_y e5).trans <| (look_g (by decide +kernel)).trans <| (look_g (by decide +kernel)).trans <| (look_g (by decide +kernel)).trans <| (look_g (by decide +kernel)).trans <| (look_g (by decide +kernel)).trans <| (look_g (by decide +kernel)).trans <| (look_g (by decide +kernel)).trans <| (look_g (by decide +kernel)).trans <| (look_g (by decide +kernel)).trans <| (look_g (by decide +kernel)).trans <| (look_g (by decide +kernel)).trans <| (look_g (by decide +kernel)).trans <| (look_g (by decide +kernel)).trans <| (look_g (by decide +kernel)).trans <| (look_g (by decide +kernel)).trans <| (look_g (by decide +kernel)).trans <| (look_g (by decide +kernel)).trans <| rfl⟩
  have C_fits : Ct l.prog w K mg base CX0 7 "fits" ["group", "value"] (sp_fits K) := ok_fits T FM D_fits
  have C_is_command : Ct l.prog w K mg base CX0 8 "is_command" ["value"] (sp_is_command K) := ok_is_command C_fits D_is_command
  have K_is_command : CtK l.prog w K mg base CX0 8 "is_command" ["value"] ["value"] perm_0 (sp_is_command K) := C_is_command.kw D_is_command (fun _ _ _ _ _ _ ws hl => match ws, hl with | [_], _ => rfl) perm_0_ok
  have C__law_right : Cg l.prog w K mg base CX0 9 "_law_right" ["_law_value"] (sp__law_right K) := ok__law_right T C__law_is_command C__law_told C_is_command K_is_command D__law_right
  have C_law : Cg l.prog w K mg base CX0 10 "law" ["_law_script"] (sp_law K) := ok_law T C__law_box C__law_cell C__law_take C__law_command C__law_is_command C__law_within_last C__law_shape C__law_spoiled C__law_renamed C__law_item C__law_right D_law
  exact law_gn C_law hfa l80
theorem walk {l : PySem.W.OpenLaw} {q : Program} {loose : List Str} {XP : (Str → Option Value) → Heap → Prop} {YP : World → Heap → Prop} {d : DefRec} {K : Params → PySem.W.Frag} (hn : l.most = some 63) (hdf : d.params.defaults = [])
    (hY : ∀ (w : World) (h : Heap), YP w h → (K w.params).In h)
    (F : ∀ (w : World) (mg : Str → Option Value) (fa : Addr) (h : Heap), (K w.params).In h → h.Ns mainGlobals mg → mg d.name = some (.ref fa) →
      ∃ fd : FuncData, (∀ (s : Shared) (u : Value), BindsTo s fd ⟨[u], []⟩ [("_law_script", u)]) ∧ ∀ base : Heap, (K w.params).In base → base.Ns mainGlobals mg → FnG l.prog w (K w.params) mg base CX0 10 fa fd ["_law_script"] (sp_law (K w.params))) :
    PySem.W.WalkO q loose XP YP l.row.toRowW d [] (fun f vs => PySem.call f vs) :=
  walk_g (n := 63) (k := 10) (x := "_law_script") (CX := CX0) (sp := fun w => sp_law (K w.params)) hn (by decide) hdf ⟨⟨rfl, by decide, by decide⟩, rfl⟩ hY F (fun _ _ a ns hl hS => law_asks a ns hl hS) fun _ _ _ _ z => z
end L04_

namespace L04_
section
open PySem PySem.W PySem.Calls PyProof.Rows R1 HandSHeadRun
noncomputable section
abbrev RwX : OpenRow := OpenLaw.row PySem.Challenge.rw_inorderonce_k04_commands
abbrev qvX : Program := view RwX.prog [80]
def namesX : List PySem.Str := (["MOST_NUMBER_shapes", "is_integer", "is_within", "is_signs", "MOST_NAME", "MOST_PLAIN", "MOST_TEXT", "MOST_ITEMS_lines", "MOST_DEEP", "MOST_PLACES", "MOST_LINE", "MOST_FIGURES", "is_name", "is_plain", "is_value", "is_nested", "places_left", "line_of", "quoted", "unquoted"] : List PySem.Str) ++ (["read_any", "values_in", "piece_at", "thing_of", "MOST_BODY", "MOST_PRIORITY", "MOST_TICKS", "MOST_ITEMS_letters", "MOST_TRIES", "MOST_NUMBER_letters", "MOST_ROWS", "LAST_BROKER", "PICTURE_DEEP", "is_flag", "is_body", "is_number", "is_index", "is_try", "is_broker", "is_leader"] : List PySem.Str) ++ (["is_dead_topic", "is_token", "is_item", "are_made", "are_sent", "is_command", "is_making", "is_row", "are_rows", "is_picture_line", "FORMS", "fits", "_law_cell", "_law_box", "_law_take", "_law_name", "_law_text", "_law_item", "_law_odd", "_law_within"] : List PySem.Str) ++ (["_law_is_name", "_law_is_body", "_law_is_token", "_law_is_item", "_law_items", "_law_number", "_law_token", "_law_command", "_law_are_items", "_law_is_command", "_law_shape", "_law_spoiled", "_law_within_last", "_law_told", "_law_renamed", "_law_right"] : List PySem.Str)
theorem readsX : readsRight RwX.prog 53 := by unfold readsRight; kernel_rfl
abbrev XK : Params → Frag := tabK RwX.prog 53 233
end
end
end L04_
open PySem PySem.W PyProof.Rows in
local macro_rules | `(tactic| o_head (kHook $K $as $e)) => `(tactic| refine R1.head_tab (r := L04_.RwX) (q := L04_.qvX) (loose := L04_.namesX) (M := 60000) (H := kHook (R1.addK $K L04_.XK) ($as ++ [233]) (fun _ => by kernel_rfl)) (ob := R1.obK ($as ++ [233]))
    (l := R1.ahead L04_.RwX.prog 53) (rest := R1.behind L04_.RwX.prog 53) (D1 := R1.dOne L04_.RwX.prog 53) (D2 := R1.dTwo L04_.RwX.prog 53) (R1.obK_eq _)
    (by kernel_rfl) (fun s => by kernel_rfl) L04_.readsX (fun _ => rfl) (by kernel_rfl) (by kernel_rfl) (by decide +kernel) (by decide +kernel) (by decide +kernel) (fun w pp os => by kernel_rfl) (by rfl) (by rfl) (by rfl) (by rfl) (by first | assumption | decide +kernel) (by decide +kernel) (by decide +kernel) ⟨rfl, rfl, rfl, rfl, rfl, by decide +kernel⟩ ?hw ?hc)
local macro_rules | `(tactic| k_is) => `(tactic| ((first | refine R1.lookup_app ?_ | refine R1.nsIn_app ?_ | refine R1.codeIn_app ?_ | refine R1.keepIn_app ?_); k_is))
open PySem PySem.W PyProof.Rows in
set_option maxRecDepth 100000 in
set_option maxHeartbeats 0 in
theorem PySem.Challenge.cw_inorderonce_k04_commands_holds : PySem.Challenge.rw_inorderonce_k04_commands.Holds := by
  w_on; o_law; k_head; (case hw => w_witness2)
  k_fill
  refine L04_.walk (l := PySem.Challenge.rw_inorderonce_k04_commands) rfl rfl (fun w h Y => PySem.W.kIn_of Y) ?F
  case F =>
    intro w mg fa h KX G hmg
    refine' L04_.all_mk (dF := 233) (aR0 := 235) (aR1 := 237) (aR2 := 239) (aR3 := 241) (aR4 := 243) (aR5 := 245) (aR6 := 247) (aR7 := 249) (aR8 := 251) (aR9 := 253) (aR10 := 255) (aR11 := 257) (aR12 := 259) (aR13 := 261) (aR14 := 263) (aR15 := 265) (aR16 := 267) (aR17 := 270) (aR18 := 272) (aR19 := 274) (aR20 := 276) (aR21 := 278) (aR22 := 280) KX G hmg ?a57 ?l57 ?c57 ?k57 ?a56 ?l56 ?c56 ?k56 ?a58 ?l58 ?c58 ?k58 ?a59 ?l59 ?c59 ?k59 ?a60 ?l60 ?c60 ?k60 ?a61 ?l61 ?c61 ?k61 ?a68 ?l68 ?c68 ?k68 ?a69 ?l69 ?c69 ?k69 ?a70 ?l70 ?c70 ?k70 ?a71 ?l71 ?c71 ?k71 ?a63 ?l63 ?c63 ?k63 ?a64 ?l64 ?c64 ?k64 ?a65 ?l65 ?c65 ?k65 ?a67 ?l67 ?c67 ?k67 ?a72 ?l72 ?c72 ?k72 ?a66 ?l66 ?c66 ?k66 ?a73 ?l73 ?c73 ?k73 ?a62 ?l62 ?c62 ?k62 ?a75 ?l75 ?c75 ?k75 ?a74 ?l74 ?c74 ?k74 ?a76 ?l76 ?c76 ?k76 ?a78 ?l78 ?c78 ?k78 ?a77 ?l77 ?c77 ?k77 ?a4 ?l4 ?c4 ?k4 ?a14 ?l14 ?c14 ?k14 ?a36 ?l36 ?c36 ?k36 ?a43 ?l43 ?c43 ?k43 ?a2 ?l2 ?c2 ?k2 ?a3 ?l3 ?c3 ?k3 ?a38 ?l38 ?c38 ?k38 ?a15 ?l15 ?c15 ?k15 ?a37 ?l37 ?c37 ?k37 ?a45 ?l45 ?c45 ?k45 ?a46 ?l46 ?c46 ?k46 ?a47 ?l47 ?c47 ?k47 ?a44 ?l44 ?c44 ?k44 ?a40 ?l40 ?c40 ?k40 ?a39 ?l39 ?c39 ?k39 ?a54 ?l54 ?c54 ?k54 ?a48 ?l48 ?c48 ?k48 ?a79 ?l79 ?c79 ?k79 ?a80 ?l80 ?c80 ?k80 ?z_int ?z_abs ?z_len ?z_sum ?z_range ?z_tuple ?z_isinstance ?z_bool ?z_str ?z_dict ?z_list ?z_all ?z_enumerate ?z_repr ?z_max ?z_min ?v_MOST_NAME ?v_MOST_NUMBER_letters ?v_MOST_PLAIN ?v_MOST_BODY ?v_MOST_TICKS ?v_MOST_PRIORITY ?v_MOST_ITEMS_letters ?v_MOST_TRIES ?tF ?gF ?rR0 ?rR1 ?rR2 ?rR3 ?rR4 ?rR5
    (case a57 => k_is)
    (case l57 => k_is)
    (case c57 => k_is)
    (case k57 => k_is)
    (case a56 => k_is)
    (case l56 => k_is)
    (case c56 => k_is)
    (case k56 => k_is)
    (case a58 => k_is)
    (case l58 => k_is)
    (case c58 => k_is)
    (case k58 => k_is)
    (case a59 => k_is)
    (case l59 => k_is)
    (case c59 => k_is)
    (case k59 => k_is)
    (case a60 => k_is)
    (case l60 => k_is)
    (case c60 => k_is)
    (case k60 => k_is)
    (case a61 => k_is)
    (case l61 => k_is)
    (case c61 => k_is)
    (case k61 => k_is)
    (case a68 => k_is)
    (case l68 => k_is)
    (case c68 => k_is)
    (case k68 => k_is)
    (case a69 => k_is)
    (case l69 => k_is)
    (case c69 => k_is)
    (case k69 => k_is)
    (case a70 => k_is)
    (case l70 => k_is)
    (case c70 => k_is)
    (case k70 => k_is)
    (case a71 => k_is)
    (case l71 => k_is)
    (case c71 => k_is)
    (case k71 => k_is)
    (case a63 => k_is)
    (case l63 => k_is)
    (case c63 => k_is)
    (case k63 => k_is)
    (case a64 => k_is)
    (case l64 => k_is)
    (case c64 => k_is)
    (case k64 => k_is)
    (case a65 => k_is)
    (case l65 => k_is)
    (case c65 => k_is)
    (case k65 => k_is)
    (case a67 => k_is)
    (case l67 => k_is)
    (case c67 => k_is)
    (case k67 => k_is)
    (case a72 => k_is)
    (case l72 => k_is)
    (case c72 => k_is)
    (case k72 => k_is)
    (case a66 => k_is)
    (case l66 => k_is)
    (case c66 => k_is)
    (case k66 => k_is)
    (case a73 => k_is)
    (case l73 => k_is)
    (case c73 => k_is)
    (case k73 => k_is)
    (case a62 => k_is)
    (case l62 => k_is)
    (case c62 => k_is)
    (case k62 => k_is)
    (case a75 => k_is)
    (case l75 => k_is)
    (case c75 => k_is)
    (case k75 => k_is)
    (case a74 => k_is)
    (case l74 => k_is)
    (case c74 => k_is)
    (case k74 => k_is)
    (case a76 => k_is)
    (case l76 => k_is)
    (case c76 => k_is)
    (case k76 => k_is)
    (case a78 => k_is)
    (case l78 => k_is)
    (case c78 => k_is)
    (case k78 => k_is)
    (case a77 => k_is)
    (case l77 => k_is)
    (case c77 => k_is)
    (case k77 => k_is)
    (case a4 => k_is)
    (case l4 => k_is)
    (case c4 => k_is)
    (case k4 => k_is)
    (case a14 => k_is)
    (case l14 => k_is)
    (case c14 => k_is)
    (case k14 => k_is)
    (case a36 => k_is)
    (case l36 => k_is)
    (case c36 => k_is)
    (case k36 => k_is)
    (case a43 => k_is)
    (case l43 => k_is)
    (case c43 => k_is)
    (case k43 => k_is)
    (case a2 => k_is)
    (case l2 => k_is)
    (case c2 => k_is)
    (case k2 => k_is)
    (case a3 => k_is)
    (case l3 => k_is)
    (case c3 => k_is)
    (case k3 => k_is)
    (case a38 => k_is)
    (case l38 => k_is)
    (case c38 => k_is)
    (case k38 => k_is)
    (case a15 => k_is)
    (case l15 => k_is)
    (case c15 => k_is)
    (case k15 => k_is)
    (case a37 => k_is)
    (case l37 => k_is)
    (case c37 => k_is)
    (case k37 => k_is)
    (case a45 => k_is)
    (case l45 => k_is)
    (case c45 => k_is)
    (case k45 => k_is)
    (case a46 => k_is)
    (case l46 => k_is)
    (case c46 => k_is)
    (case k46 => k_is)
    (case a47 => k_is)
    (case l47 => k_is)
    (case c47 => k_is)
    (case k47 => k_is)
    (case a44 => k_is)
    (case l44 => k_is)
    (case c44 => k_is)
    (case k44 => k_is)
    (case a40 => k_is)
    (case l40 => k_is)
    (case c40 => k_is)
    (case k40 => k_is)
    (case a39 => k_is)
    (case l39 => k_is)
    (case c39 => k_is)
    (case k39 => k_is)
    (case a54 => k_is)
    (case l54 => k_is)
    (case c54 => k_is)
    (case k54 => k_is)
    (case a48 => k_is)
    (case l48 => k_is)
    (case c48 => k_is)
    (case k48 => k_is)
    (case a79 => k_is)
    (case l79 => k_is)
    (case c79 => k_is)
    (case k79 => k_is)
    (case a80 => k_is)
    (case l80 => k_is)
    (case c80 => k_is)
    (case k80 => k_is)
    (case z_int => k_is)
    (case z_abs => k_is)
    (case z_len => k_is)
    (case z_sum => k_is)
    (case z_range => k_is)
    (case z_tuple => k_is)
    (case z_isinstance => k_is)
    (case z_bool => k_is)
    (case z_str => k_is)
    (case z_dict => k_is)
    (case z_list => k_is)
    (case z_all => k_is)
    (case z_enumerate => k_is)
    (case z_repr => k_is)
    (case z_max => k_is)
    (case z_min => k_is)
    (case v_MOST_NAME => k_is)
    (case v_MOST_NUMBER_letters => k_is)
    (case v_MOST_PLAIN => k_is)
    (case v_MOST_BODY => k_is)
    (case v_MOST_TICKS => k_is)
    (case v_MOST_PRIORITY => k_is)
    (case v_MOST_ITEMS_letters => k_is)
    (case v_MOST_TRIES => k_is)
    (case tF => exact R1.tab_eq (p := L04_.RwX.prog) (i := 53) (by kernel_rfl) rfl (by kernel_rfl) rfl (by kernel_rfl) (by kernel_rfl) (by decide +kernel))
    (case gF => k_is)
    (case rR0 => k_is)
    (case rR1 => k_is)
    (case rR2 => k_is)
    (case rR3 => k_is)
    (case rR4 => k_is)
    (case rR5 => k_is)

