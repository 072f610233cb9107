import PyProof.Rows.All
import Wide.All
import OpenK.AllK
import Wide.FinOn
import HandS.ForMost
import HandS.IsInst
import HandS.StrMore
import HandS.TupAny
import HandS.TupLe
import HandS.Conv
import PyProof.ReprRoads
import PyProof.RowDictHeap
import HandS.ExcInit
import HandS.TryMany
import HandS.ExcField
import HandS.ExcIs
import HandS.WordsExc
import KE.KExcIs
import HandS.Style
import HandS.More
import HandS.Codes
import PySem.Challenge.RW_inorderonce_k06_files_and_what_is_synced
set_option Elab.async false
set_option linter.all false
set_option maxRecDepth 100000
set_option maxHeartbeats 8000000
/-! Z: own layer over the hand layer: readings that compute. -/
namespace Z
open PySem PySem.Spec PyProof.Rows L2

/-! ### heaps -/
/-- H2 is H with a new object at p -/
structure Nw (H : Hp) (p : Addr) (o : HO) (H2 : Hp) : Prop where
  fresh : H p = none
  here : H2 p = some o
  off : ∀ a, a ≠ p → H2 a = H a
/-- H2 is H with another object at l -/
structure Wr (H : Hp) (l : Addr) (o : HO) (H2 : Hp) : Prop where
  here : H2 l = some o
  off : ∀ a, a ≠ l → H2 a = H a
/-- all that was tracked is there, but for b -/
def But (b : Addr) (H H2 : Hp) : Prop := ∀ a o, a ≠ b → H a = some o → H2 a = some o
theorem nw {H : Hp} {p : Addr} {o : HO} (h : H p = none) : Nw H p o (upd H p o) := ⟨h, upd_same, fun _ e => upd_ne e⟩
theorem wr {H : Hp} {p : Addr} {o : HO} : Wr H p o (upd H p o) := ⟨upd_same, fun _ e => upd_ne e⟩
theorem Nw.keep {H H2 : Hp} {p a : Addr} {o u : HO} (n : Nw H p o H2) (h : H a = some u) : H2 a = some u := by
  rw [n.off a (ne_of_none h n.fresh)]
  exact h
theorem Nw.same {H H2 : Hp} {p : Addr} {o : HO} (n : Nw H p o H2) : Same H H2 := fun _ _ h => n.keep h
theorem Wr.keep {H H2 : Hp} {l a : Addr} {o u : HO} (n : Wr H l o H2) (e : a ≠ l) (h : H a = some u) : H2 a = some u := by
  rw [n.off a e]
  exact h
theorem Wr.but {H H2 : Hp} {l : Addr} {o : HO} (n : Wr H l o H2) : But l H H2 := fun a _ e h => n.keep e h
theorem Nw.but {H H2 : Hp} {p b : Addr} {o : HO} (n : Nw H p o H2) : But b H H2 := fun _ _ _ h => n.keep h
theorem But.refl (b : Addr) (H : Hp) : But b H H := fun _ _ _ h => h
theorem But.trans {b : Addr} {H H1 H2 : Hp} (x : But b H H1) (y : But b H1 H2) : But b H H2 := fun a o e h => y a o e (x a o e h)
theorem But.of {b : Addr} {H H1 : Hp} (x : Same H H1) : But b H H1 := fun a o _ h => x a o h
theorem But.at {b a : Addr} {o : HO} {H H1 : Hp} (x : But b H H1) (e : a ≠ b) (h : H a = some o) : H1 a = some o := x a o e h
/-- what was new to H and written later: H is kept -/
theorem _root_.L2.Same.wr {H H1 H2 : Hp} {l : Addr} {o : HO} (x : Same H H1) (f : H l = none) (w : Wr H1 l o H2) : Same H H2 := fun a u h =>
  w.keep (ne_of_none h f) (x a u h)
theorem _root_.L2.Same.but {H H1 H2 : Hp} {l : Addr} (x : Same H H1) (f : H l = none) (w : But l H1 H2) : Same H H2 := fun a u h =>
  w a u (ne_of_none h f) (x a u h)
theorem But.butNew {b l : Addr} {H H1 H2 : Hp} (x : But b H H1) (f : H l = none) (w : But l H1 H2) (hb : H b ≠ none → True) : But b H H2 := fun a u e h =>
  w a u (ne_of_none h f) (x a u e h)
theorem But.wr {b l : Addr} {o : HO} {H H1 H2 : Hp} (x : But b H H1) (f : H l = none) (w : Wr H1 l o H2) : But b H H2 := fun a u e h => w.keep (ne_of_none h f) (x a u e h)
theorem But.nw {b l : Addr} {o : HO} {H H1 H2 : Hp} (x : But b H H1) (w : Nw H1 l o H2) : But b H H2 := fun a u e h => w.keep (x a u e h)
theorem But.free {b l : Addr} {H H1 : Hp} (x : But b H H1) (e : l ≠ b) (f : H1 l = none) : H l = none := by
  cases q : H l with
  | none => rfl
  | some o =>
    rw [x l o e q] at f
    cases f
theorem sz {n : Nat} (h : n ≤ 16000000) : n ≤ sizeLine := Nat.le_trans h (by decide)
theorem szlt {n : Nat} (h : n ≤ 16000000) : n < sizeLine := Nat.lt_of_le_of_lt h (by decide)
theorem free_of {H H1 : Hp} {l : Addr} (x : Same H H1) (f : H1 l = none) : H l = none := x.free f

/-- the same of lists and tuples that are read -/
theorem sqL_same {K : PySem.W.Frag} {H H' : Hp} {a : Addr} {xs : List V} (e : Same H H') (h : SqL K H a xs) : SqL K H' a xs := e.seq h
theorem sqT_same {K : PySem.W.Frag} {H H' : Hp} {a : Addr} {xs : List V} (e : Same H H') (h : SqT K H a xs) : SqT K H' a xs := by
  rcases h with (h | ⟨o, h⟩) | h
  · exact .inl (.inl (e _ _ h))
  · exact .inl (.inr ⟨o, e _ _ h⟩)
  · exact .inr h

/-! ### names -/
def tV (i : Nat) : TE := fun σ H Q => match σ[i]? with
  | some (some v) => Q v H
  | _ => False
theorem tV_of {i : Nat} {σ : L2.St} {H : Hp} {Q : VK} (h : tV i σ H Q) : tVar i σ H Q := by
  unfold tV at h
  split at h
  · exact ⟨_, by assumption, h⟩
  · exact h.elim
section
variable {X : Cx}
theorem pz (i : Nat) {x : Str} {pos : Pos} (hN : X.N[i]? = some x := by rfl) (hv : Vis X.env.scope x := by first | exact Or.inl rfl | exact Or.inr (Or.inl rfl) | exact Or.inr (Or.inr rfl)) (hd : (x == ("__debug__" : Str)) = false := by decide)
    (hcd : (x == ("__classdict__" : Str)) = false := by decide) : PE X (.Name x pos) (tV i) :=
  ⟨fun pins s σ H Q I h => (pe_var hN hv hd hcd).run pins s σ H Q I (tV_of h)⟩
end

/-! ### operators on values, that compute -/
def zI (g : Int → Int → V) : R2 := fun x y H Q => match x, y with
  | .int i, .int j => Q (g i j) H
  | _, _ => False
def zIC (C : Int → Int → Prop) (g : Int → Int → V) : R2 := fun x y H Q => match x, y with
  | .int i, .int j => C i j ∧ Q (g i j) H
  | _, _ => False
theorem opr_w {X : Cx} {f : Value → Value → Sem Value} {r r' : R2} (h : OpR X f r') (i : ∀ x y H Q, r x y H Q → r' x y H Q) : OpR X f r :=
  fun pins s σ H x y v u Q I rx ry q => h pins s σ H x y v u Q I rx ry (i x y H Q q)
theorem zI_of {g : Int → Int → V} (x y : V) (H : Hp) (Q : VK) (h : zI g x y H Q) : rI0 g x y H Q := by
  unfold zI at h
  split at h
  · exact ⟨_, _, rfl, rfl, h⟩
  · exact h.elim
theorem zIC_of {C : Int → Int → Prop} {g : Int → Int → V} (x y : V) (H : Hp) (Q : VK) (h : zIC C g x y H Q) : rI C g x y H Q := by
  unfold zIC at h
  split at h
  · exact ⟨_, _, rfl, rfl, h.1, h.2⟩
  · exact h.elim
section
variable {X : Cx}
theorem o_sub : OpR X (binaryOp .Sub) (zI fun i j => .int (i - j)) := opr_w op_sub fun x y H Q h => zI_of x y H Q h
theorem o_mod : OpR X (binaryOp .Mod) (zIC (fun _ j => 0 < j) fun i j => .int (i % j)) := opr_w op_mod fun x y H Q h => zIC_of x y H Q h
theorem o_fdiv : OpR X (binaryOp .FloorDiv) (zIC CDiv fun i j => .int (i / j)) := opr_w op_fdiv fun x y H Q h => zIC_of x y H Q h
theorem o_pow : OpR X (binaryOp .Pow) (zIC CPow fun i j => .int (i ^ j.toNat)) := opr_w op_pow fun x y H Q h => zIC_of x y H Q h
/-- + : ints, texts, lists, tuples -/
def zAdd (K : PySem.W.Frag) : R2 := fun x y H Q => match x, y with
  | .int i, .int j => Q (.int (i + j)) H
  | .str a, .str b => a.length + b.length ≤ sizeLine ∧ Q (.str (a ++ b)) H
  | .ref l, .ref b =>
      (∃ xs zs, H l = some (.lst xs) ∧ H b = some (.lst zs) ∧ xs.length + zs.length ≤ sizeLine ∧ ∀ p H2, Nw H p (.lst (xs ++ zs)) H2 → Q (.ref p) H2) ∨
      (∃ xs zs, SqT K H l xs ∧ SqT K H b zs ∧ xs.length + zs.length ≤ sizeLine ∧ (xs = [] → Q (.ref b) H) ∧ (xs ≠ [] → zs = [] → Q (.ref l) H) ∧
        (xs ≠ [] → zs ≠ [] → ∀ p H2, Nw H p (.tup (xs ++ zs)) H2 → Q (.ref p) H2))
  | _, _ => False
theorem o_add : OpR X (binaryOp .Add) (zAdd X.K) := by
  intro pins s σ H x y v u Q I rx ry h
  unfold zAdd at h
  split at h
  · exact op_add pins s σ H _ _ v u Q I rx ry ⟨_, _, rfl, rfl, h⟩
  · exact op_add_str pins s σ H _ _ v u Q I rx ry ⟨_, _, rfl, rfl, h.1, h.2⟩
  · rcases h with ⟨xs, zs, h1, h2, h3, q⟩ | ⟨xs, zs, h1, h2, h3, q1, q2, q3⟩
    · exact op_cat pins s σ H _ _ v u Q I rx ry ⟨_, _, xs, zs, rfl, rfl, h1, h2, h3, fun p hp => q p _ (nw hp)⟩
    · exact op_catA pins s σ H _ _ v u Q I rx ry ⟨_, _, xs, zs, rfl, rfl, h1, h2, h3, q1, q2, fun a b p hp => q3 a b p _ (nw hp)⟩
  · exact h.elim
/-- a text so many times -/
def rep (x : Str) (n : Int) : Str := ⟨(List.replicate n.toNat x.cps.toList).flatten.toArray⟩
theorem rep_fold (l : List Nat) : ∀ (n : Nat) (acc : Array Nat), (List.replicate n l.toArray).foldl (· ++ ·) acc = acc ++ (List.replicate n l).flatten.toArray
  | 0, acc => by simp
  | n + 1, acc => by
    rw [List.replicate_succ, List.foldl_cons, rep_fold l n, List.replicate_succ, List.flatten_cons]
    simp [Array.append_assoc]
/-- * : ints, a text, a list -/
def zMul : R2 := fun x y H Q => match x, y with
  | .int i, .int j => CMul i j ∧ Q (.int (i * j)) H
  | .str a, .int n => -(2 ^ 62) ≤ n ∧ n < 2 ^ 62 ∧ a.length * n.toNat ≤ 1000000 ∧ Q (.str (rep a n)) H
  | .ref l, .int k => ∃ xs, H l = some (.lst xs) ∧ -(2 ^ 63) ≤ k ∧ k < 2 ^ 63 ∧ xs.length * k.toNat ≤ sizeLine ∧ ∀ p H2, Nw H p (.lst (List.replicate k.toNat xs).flatten) H2 → Q (.ref p) H2
  | _, _ => False
theorem str_size0 {a : Str} (h : a.length = 0) : a = Str.empty := by
  obtain ⟨c⟩ := a
  have h : c.size = 0 := h
  have : c = #[] := Array.eq_empty_of_size_eq_zero h
  rw [this]
  rfl
theorem o_mul : OpR X (binaryOp .Mult) zMul := by
  intro pins s σ H x y v u Q I rx ry h
  unfold zMul at h
  split at h
  · exact op_mul pins s σ H _ _ v u Q I rx ry ⟨_, _, rfl, rfl, h.1, h.2⟩
  · rename_i a n
    obtain ⟨h1, h2, h3, q⟩ := h
    obtain ⟨t, rfl⟩ := rx
    obtain ⟨t', rfl⟩ := ry
    have two : (2 : Int) ^ 62 = 4611686018427387904 := by decide
    have two3 : (2 : Int) ^ 63 = 9223372036854775808 := by decide
    refine PySem.P.mul_str ?_ (fun hn hz => ?_) (fun hn hz => ?_) ?_
    · rw [decide_eq_false (by omega), decide_eq_false (by omega)]
      rfl
    · intro hc
      have hn1 : 1 ≤ n := by omega
      have hd : ((2 : Int) ^ 63 - 1) / n * n ≤ 2 ^ 63 - 1 := Int.ediv_mul_le _ (by omega)
      have hlt : ((2 : Int) ^ 63 - 1) < (((2 : Int) ^ 63 - 1) / n + 1) * n := Int.lt_ediv_add_one_mul_self _ (by omega)
      have hle : (((2 : Int) ^ 63 - 1) / n + 1) * n ≤ (a.length : Int) * n := Int.mul_le_mul_of_nonneg_right (by omega) (by omega)
      have hcast : ((a.length * n.toNat : Nat) : Int) = (a.length : Int) * n := by
        rw [Int.natCast_mul, Int.toNat_of_nonneg (by omega)]
      omega
    · show decide (a.length * n.toNat > sizeLine) = false
      have hs : 1000000 ≤ sizeLine := by decide
      exact decide_eq_false (by omega)
    · have fit : (rep a n).length ≤ sizeLine := by
        have e : (rep a n).length = a.length * n.toNat := by
          show ((List.replicate n.toNat a.cps.toList).flatten.toArray).size = a.length * n.toNat
          rw [List.size_toArray, List.length_flatten, List.map_replicate, List.sum_replicate_nat, Array.length_toList, Nat.mul_comm]
          rfl
        have hs : 1000000 ≤ sizeLine := by decide
        omega
      have fin : ∀ (tk : Nat) (t' : Tok), EP X pins σ Q (.str (rep a n) t') { s with toks := tk } := fun tk t' => ⟨.str (rep a n), H, I.tok tk, ⟨t', rfl⟩, q⟩
      by_cases hn : n < 1
      · have e : rep a n = Str.empty := by
          have : n.toNat = 0 := by omega
          unfold rep
          rw [this]
          rfl
        rw [if_pos hn]
        rw [e] at fin
        exact ⟨by decide, fin _ _⟩
      · rw [if_neg hn]
        by_cases hz : (n == 1 || a.length == 0) = true
        · rw [if_pos hz]
          have e : rep a n = a := by
            rw [Bool.or_eq_true] at hz
            rcases hz with hz | hz
            · have : n = 1 := by simpa using hz
              subst this
              obtain ⟨c⟩ := a
              show (⟨(List.replicate (1 : Int).toNat c.toList).flatten.toArray⟩ : Str) = ⟨c⟩
              simp
            · have e0 := str_size0 (a := a) (by simpa using hz)
              subst e0
              unfold rep
              show (⟨(List.replicate n.toNat ([] : List Nat)).flatten.toArray⟩ : Str) = Str.empty
              rw [List.flatten_replicate_nil]
              rfl
          rw [e] at fin
          exact fin s.toks t
        · rw [if_neg hz]
          have e : (⟨(List.replicate n.toNat a.cps).foldl (· ++ ·) #[]⟩ : Str) = rep a n := by
            obtain ⟨c⟩ := a
            unfold rep
            have q := rep_fold c.toList n.toNat #[]
            simp only [Array.toArray_toList] at q
            rw [q]
            simp
          rw [e]
          exact ⟨fit, fin _ _⟩
  · obtain ⟨xs, h1, h2, h3, h4, q⟩ := h
    exact op_rep pins s σ H _ _ v u Q I rx ry ⟨_, _, xs, rfl, rfl, h1, h2, h3, h4, fun p hp => q p _ (nw hp)⟩
  · exact h.elim
end

/-! ### any rule, its end carried -/
def mon (t : TE) : TE := fun σ H Q => ∃ Q0 : VK, t σ H Q0 ∧ ∀ x H1, Q0 x H1 → Q x H1
def monA (t : TA) : TA := fun σ H Q => ∃ Q0 : List V → Hp → Prop, t σ H Q0 ∧ ∀ x H1, Q0 x H1 → Q x H1
def monR (r : R2) : R2 := fun x y H Q => ∃ Q0 : VK, r x y H Q0 ∧ ∀ x H1, Q0 x H1 → Q x H1
section
variable {X : Cx} {a b e o : Expr} {es rest : List Expr} {ta tb te to : TE} {t t' : TE} {pos : Pos}
theorem pe_w (h : PE X e t) (i : ∀ σ H Q, t' σ H Q → t σ H Q) : PE X e t' := ⟨fun pins s σ H Q I q => h.run pins s σ H Q I (i σ H Q q)⟩
theorem pt_w {t t' : TT} (h : PT X e t) (i : ∀ σ H Q, t' σ H Q → t σ H Q) : PT X e t' := ⟨fun pins s σ H Q I q => h.run pins s σ H Q I (i σ H Q q)⟩
theorem po_w {e : Option Expr} {t t' : TO} (h : PO X e t) (i : ∀ σ H Q, t' σ H Q → t σ H Q) : PO X e t' := ⟨fun pins s σ H Q I q => h.run pins s σ H Q I (i σ H Q q)⟩
theorem ps_w {st : Stmt} {t t' : TS} (h : PS X st t) (i : ∀ D σ H, t' D σ H → t D σ H) : PS X st t' := ⟨fun pins s σ H D I q => h.run pins s σ H D I (i D σ H q)⟩
theorem pg_w {g : Expr} {t t' : TG} (h : PG X g t) (i : ∀ v σ H Q, t' v σ H Q → t v σ H Q) : PG X g t' := ⟨fun pins s σ H v u Q I r q => h.run pins s σ H v u Q I r (i v σ H Q q)⟩
theorem pi_w {g e : Expr} {t t' : TI} (h : PI X g e t) (i : ∀ σ H R, t' σ H R → t σ H R) : PI X g e t' := ⟨fun pins s σ H R I q => h.run pins s σ H R I (i σ H R q)⟩
theorem callr_w {f : Value} {r r' : List V → Hp → VK → Prop} (h : CallR X f r') (i : ∀ vs H Q, r vs H Q → r' vs H Q) : CallR X f r :=
  fun pins s σ H xs us Q I rs q => h pins s σ H xs us Q I rs (i xs H Q q)
theorem pe_mon (h : PE X e t) : PE X e (mon t) := ⟨fun pins s σ H Q I ⟨Q0, q, i⟩ => thn (h.run pins s σ H Q0 I q) fun u s' ⟨v, H', I', r, z⟩ => ⟨v, H', I', r, i v H' z⟩⟩
theorem pa_mon {t : TA} (h : PA X es t) : PA X es (monA t) := ⟨fun pos pins s σ H Q I ⟨Q0, q, i⟩ => thn (h.run pos pins s σ H Q0 I q) fun u s' ⟨v, H', I', r, z⟩ => ⟨v, H', I', r, i v H' z⟩⟩
theorem opr_mon {f : Value → Value → Sem Value} {r : R2} (h : OpR X f r) : OpR X f (monR r) := fun pins s σ H x y v u Q I rx ry ⟨Q0, q, i⟩ =>
  thn (h pins s σ H x y v u Q0 I rx ry q) fun u s' ⟨v, H', I', r, z⟩ => ⟨v, H', I', r, i v H' z⟩

/-! ### tests and bools -/
/-- what follows of a bool -/
def zB (x : V) (H : Hp) (Q : Bool → Hp → Prop) : Prop := match x with
  | .bl k => Q k H
  | _ => False
theorem zB_of {x : V} {H : Hp} {Q : Bool → Hp → Prop} (h : zB x H Q) : ∃ k, x = .bl k ∧ Q k H := by
  unfold zB at h
  split at h
  · exact ⟨_, rfl, h⟩
  · exact h.elim
def tBz (t : TE) : TT := fun σ H Q => t σ H fun x H1 => zB x H1 Q
theorem pt_cmpZ {op : CmpOp} {r : R2} (ho : OpR X (compareOp op) r) (ha : PE X a ta) (hb : PE X b tb) (hm : behindInMarks op b = false) : PT X (.Compare a [op] [b] pos) (tBz (tOp r ta tb)) :=
  pt_w (pt_cmpR (opr_mon ho) (pe_mon ha) (pe_mon hb) hm) fun σ H Q h => ⟨_, h, fun x H1 h1 => ⟨_, h1, fun y H2 h2 => ⟨_, h2, fun z H3 h3 => zB_of h3⟩⟩⟩
theorem pt_chainZ {c : Expr} {tc : TE} {op op' : CmpOp} {r r' : R2} (h : PE X (.Compare a [op, op'] [b, c] pos) t) (he : ∀ whole, isTrue (.Compare a [op, op'] [b, c] pos) X.env whole = (do let v ← whole; standAt (Expr.Compare a [op, op'] [b, c] pos).pos; holding [v] (truthy v)) := by intro _; rfl) :
    PT X (.Compare a [op, op'] [b, c] pos) (tBz t) := pt_w (pt_val (pe_mon h) he) fun σ H Q h => ⟨_, h, fun x H1 h1 => zB_of h1⟩
/-- a < b < c as a value -/
def tChZ (r r' : R2) (ta tb tc : TE) : TE := fun σ H Q => ta σ H fun x H1 => tb σ H1 fun y H2 => r x y H2 fun z H3 => zB z H3 fun k H3 => if k = true then tc σ H3 fun w' H4 => r' y w' H4 Q else Q (.bl false) H3
theorem pe_chZ {c : Expr} {tc : TE} {op op' : CmpOp} {r r' : R2} (h : PE X (.Compare a [op, op'] [b, c] pos) (tChain (monR r) r' (mon ta) (mon tb) tc)) : PE X (.Compare a [op, op'] [b, c] pos) (tChZ r r' ta tb tc) :=
  pe_w h fun σ H Q h => ⟨_, h, fun x H1 h1 => ⟨_, h1, fun y H2 h2 => ⟨_, h2, fun z H3 h3 => zB_of h3⟩⟩⟩
/-- an expression's truth -/
def zTr (K : PySem.W.Frag) (x : V) (H : Hp) (Q : Bool → Hp → Prop) : Prop := match x with
  | .bl k => Q k H
  | .non => Q false H
  | .int i => Q (i != 0) H
  | .str y => y.length ≤ sizeLine ∧ Q ((y.length : Int) != 0) H
  | .ref p => (∃ xs, SqL K H p xs ∧ Q (!xs.isEmpty) H) ∨ (∃ xs, SqT K H p xs ∧ Q (!xs.isEmpty) H) ∨ ∃ kvs, H p = some (.dK kvs) ∧ Q (!kvs.isEmpty) H
  | _ => False
theorem zTr_of {K : PySem.W.Frag} {x : V} {H : Hp} {Q : Bool → Hp → Prop} (h : zTr K x H Q) : ∃ k, TruV K x H k ∧ Q k H := by
  unfold zTr at h
  split at h
  · exact ⟨_, rfl, h⟩
  · exact ⟨_, rfl, h⟩
  · exact ⟨_, rfl, h⟩
  · exact ⟨_, ⟨h.1, rfl⟩, h.2⟩
  · rcases h with ⟨xs, h, q⟩ | ⟨xs, h, q⟩ | ⟨kvs, h, q⟩
    · exact ⟨_, .inl ⟨xs, h, rfl⟩, q⟩
    · exact ⟨_, .inr (.inl ⟨xs, h, rfl⟩), q⟩
    · exact ⟨_, .inr (.inr ⟨kvs, h, rfl⟩), q⟩
  · exact h.elim
def tTr (K : PySem.W.Frag) (t : TE) : TT := fun σ H Q => t σ H fun x H1 => zTr K x H1 Q
theorem pt_tr (h : PE X a ta) (he : ∀ whole, isTrue a X.env whole = (do let v ← whole; standAt a.pos; holding [v] (truthy v)) := by intro _; rfl) : PT X a (tTr X.K ta) :=
  pt_w (pt_truth (pe_mon h) he) fun σ H Q h => ⟨_, h, fun x H1 h1 => zTr_of h1⟩
/-- and, or, not as values of bools -/
def tAndZ (ta tb : TE) : TE := fun σ H Q => ta σ H fun x H1 => zB x H1 fun c H1 => if c = true then tb σ H1 Q else Q (.bl false) H1
def tOrZ (ta tb : TE) : TE := fun σ H Q => ta σ H fun x H1 => zB x H1 fun c H1 => if c = true then Q (.bl true) H1 else tb σ H1 Q
def tNotZ (ta : TE) : TE := fun σ H Q => ta σ H fun x H1 => zB x H1 fun c H1 => Q (.bl (!c)) H1
theorem pe_andZ (ha : PE X a ta) (hb : PE X (.BoolOp .And (b :: rest) pos) tb) : PE X (.BoolOp .And (a :: b :: rest) pos) (tAndZ ta tb) :=
  pe_w (pe_and (pe_mon ha) hb) fun σ H Q h => ⟨_, h, fun x H1 h1 => zB_of h1⟩
theorem pe_orZ (ha : PE X a ta) (hb : PE X (.BoolOp .Or (b :: rest) pos) tb) : PE X (.BoolOp .Or (a :: b :: rest) pos) (tOrZ ta tb) :=
  pe_w (pe_or (pe_mon ha) hb) fun σ H Q h => ⟨_, h, fun x H1 h1 => zB_of h1⟩
theorem pe_notZ (ha : PE X a ta) : PE X (.UnaryOp .Not a pos) (tNotZ ta) := pe_w (pe_not (pe_mon ha)) fun σ H Q h => ⟨_, h, fun x H1 h1 => zB_of h1⟩

/-! ### comparisons -/
theorem o_lt : OpR X (compareOp .Lt) (zI fun i j => .bl (decide (i < j))) := opr_w op_lt fun x y H Q h => zI_of x y H Q h
theorem o_le : OpR X (compareOp .LtE) (zI fun i j => .bl (decide (i ≤ j))) := opr_w op_le fun x y H Q h => zI_of x y H Q h
theorem o_gt : OpR X (compareOp .Gt) (zI fun i j => .bl (decide (j < i))) := opr_w op_gt fun x y H Q h => zI_of x y H Q h
theorem o_ge : OpR X (compareOp .GtE) (zI fun i j => .bl (decide (j ≤ i))) := opr_w op_ge fun x y H Q h => zI_of x y H Q h
/-- < of two signs or ints -/
def zLt : R2 := fun x y H Q => match x, y with
  | .int i, .int j => Q (.bl (decide (i < j))) H
  | .str a, .str b => Q (.bl (decide (a.cps.toList < b.cps.toList))) H
  | _, _ => False
def zGt : R2 := fun x y H Q => match x, y with
  | .int i, .int j => Q (.bl (decide (j < i))) H
  | .str a, .str b => Q (.bl (decide (b.cps.toList < a.cps.toList))) H
  | _, _ => False
theorem o_ltS : OpR X (compareOp .Lt) zLt := by
  intro pins s σ H x y v u Q I rx ry h
  unfold zLt at h
  split at h
  · exact op_lt pins s σ H _ _ v u Q I rx ry ⟨_, _, rfl, rfl, h⟩
  · exact op_lt_str pins s σ H _ _ v u Q I rx ry ⟨_, _, rfl, rfl, h⟩
  · exact h.elim
theorem o_gtS : OpR X (compareOp .Gt) zGt := by
  intro pins s σ H x y v u Q I rx ry h
  unfold zGt at h
  split at h
  · exact op_gt pins s σ H _ _ v u Q I rx ry ⟨_, _, rfl, rfl, h⟩
  · exact op_gt_str pins s σ H _ _ v u Q I rx ry ⟨_, _, rfl, rfl, h⟩
  · exact h.elim
/-- == of plain things, of data -/
def zEq (K : PySem.W.Frag) (neg : Bool) : R2 := fun x y H Q => match scal x y with
  | true => Q (.bl (neg ^^ decide (x = y))) H
  | false => ∃ d e, Dp K H x d ∧ Dp K H y e ∧ SeqAt.shaped d = true ∧ SeqAt.shaped e = true ∧ Q (.bl (neg ^^ PyData.eqv d e)) H
theorem o_eq (hu : X.A.units + 64 < cLine) : OpR X (compareOp .Eq) (zEq X.K false) := by
  intro pins s σ H x y v u Q I rx ry h
  unfold zEq at h
  split at h
  · rename_i e
    exact op_eq pins s σ H x y v u Q I rx ry ⟨e, by simpa using h⟩
  · exact op_eqD hu pins s σ H x y v u Q I rx ry (by simpa [rEqD] using h)
theorem o_ne (hu : X.A.units + 64 < cLine) : OpR X (compareOp .NotEq) (zEq X.K true) := by
  intro pins s σ H x y v u Q I rx ry h
  unfold zEq at h
  split at h
  · rename_i e
    exact op_ne pins s σ H x y v u Q I rx ry ⟨e, by simpa using h⟩
  · exact op_neD hu pins s σ H x y v u Q I rx ry (by simpa [rNeD] using h)
/-- is None, is True, is False -/
def zIs (neg : Bool) : R2 := fun x y H Q => match y, x with
  | .non, x => Q (.bl (neg ^^ decide (x = .non))) H
  | .bl b, .bl a => Q (.bl (neg ^^ decide (a = b))) H
  | _, _ => False
theorem o_is : OpR X (compareOp .Is) (zIs false) := by
  intro pins s σ H x y v u Q I rx ry h
  unfold zIs at h
  split at h
  · exact op_isN pins s σ H _ _ v u Q I rx ry ⟨rfl, by simpa using h⟩
  · exact op_is_bl pins s σ H _ _ v u Q I rx ry ⟨_, _, rfl, rfl, by simpa using h⟩
  · exact h.elim
theorem o_isn : OpR X (compareOp .IsNot) (zIs true) := by
  intro pins s σ H x y v u Q I rx ry h
  unfold zIs at h
  split at h
  · exact op_notN pins s σ H _ _ v u Q I rx ry ⟨rfl, by simpa using h⟩
  · exact op_isnot_bl pins s σ H _ _ v u Q I rx ry ⟨_, _, rfl, rfl, by simpa using h⟩
  · exact h.elim
/-- in, not in: a sign in a text, a flat thing in a list or tuple -/
def zIn (K : PySem.W.Frag) (neg : Bool) : R2 := fun x y H Q => match y with
  | .str z => ∃ c : Nat, x = .str ⟨#[c]⟩ ∧ Q (.bl (neg ^^ decide (c ∈ z.cps.toList))) H
  | .ref p => ∃ xs, (SqL K H p xs ∨ SqT K H p xs) ∧ flatV x = true ∧ xs.all flatV = true ∧ Q (.bl (neg ^^ inV x xs)) H
  | _ => False
theorem o_in : OpR X (compareOp .In) (zIn X.K false) := by
  intro pins s σ H x y v u Q I rx ry h
  unfold zIn at h
  split at h
  · obtain ⟨c, rfl, q⟩ := h
    exact op_in_sign pins s σ H _ _ v u Q I rx ry ⟨c, _, rfl, rfl, by simpa using q⟩
  · obtain ⟨xs, h1, h2, h3, q⟩ := h
    exact op_in_seq pins s σ H _ _ v u Q I rx ry ⟨_, xs, rfl, h1, h2, h3, by simpa using q⟩
  · exact h.elim
theorem o_nin : OpR X (compareOp .NotIn) (zIn X.K true) := by
  intro pins s σ H x y v u Q I rx ry h
  unfold zIn at h
  split at h
  · obtain ⟨c, rfl, q⟩ := h
    exact op_notIn_sign pins s σ H _ _ v u Q I rx ry ⟨c, _, rfl, rfl, by simpa using q⟩
  · obtain ⟨xs, h1, h2, h3, q⟩ := h
    exact op_notIn_seq pins s σ H _ _ v u Q I rx ry ⟨_, xs, rfl, h1, h2, h3, by simpa using q⟩
  · exact h.elim

/-! ### items and slices -/
def zIx (K : PySem.W.Frag) : R2 := fun x y H Q => match x, y with
  | .str z, .int i => ∃ c, z.length ≤ sizeLine ∧ atI z.cps.toList i = some c ∧ Q (.str ⟨#[c]⟩) H
  | .ref p, .int i => ∃ xs v, (SqL K H p xs ∨ SqT K H p xs) ∧ atI xs i = some v ∧ Q v H
  | _, _ => False
theorem o_ix : IxR X (zIx X.K) := by
  intro value slice pins s σ H x y v u Q I rx ry h hs
  unfold zIx at h
  split at h
  · obtain ⟨c, h1, h2, q⟩ := h
    exact ix_str value slice pins s σ H _ _ v u Q I rx ry ⟨_, _, c, rfl, rfl, h1, h2, q⟩ hs
  · obtain ⟨xs, z, h1 | h1, h2, q⟩ := h
    · exact ix_list value slice pins s σ H _ _ v u Q I rx ry ⟨_, _, _, z, rfl, rfl, h1, h2, q⟩ hs
    · exact ix_tup value slice pins s σ H _ _ v u Q I rx ry ⟨_, _, _, z, rfl, rfl, h1, h2, q⟩ hs
  · exact h.elim
def zSl (K : PySem.W.Frag) : V → Option Int → Option Int → Hp → VK → Prop := fun x lo hi H Q => match x with
  | .str z => z.length ≤ sizeLine ∧ Q (.str (cutS z lo hi)) H
  | .ref a => (∃ xs, SqL K H a xs ∧ ∀ p H2, Nw H p (.lst (cutV xs lo hi)) H2 → Q (.ref p) H2) ∨
      (∃ xs, SqT K H a xs ∧ (HT.sIx xs.length 0 lo = 0 ∧ HT.sIx xs.length xs.length hi = xs.length → Q (.ref a) H) ∧
        (¬ (HT.sIx xs.length 0 lo = 0 ∧ HT.sIx xs.length xs.length hi = xs.length) → ∀ p H2, Nw H p (.tup (cutV xs lo hi)) H2 → Q (.ref p) H2))
  | _ => False
theorem o_sl : SlR X (zSl X.K) := by
  intro pins s σ H x v vl vu lo hi sl Q I rx hs pl pu h
  unfold zSl at h
  split at h
  · exact sl_str pins s σ H _ v vl vu lo hi sl Q I rx hs pl pu ⟨_, rfl, h.1, h.2⟩
  · rcases h with ⟨xs, h1, q⟩ | ⟨xs, h1, q1, q2⟩
    · exact sl_list pins s σ H _ v vl vu lo hi sl Q I rx hs pl pu ⟨_, xs, rfl, h1, fun p hp => q p _ (nw hp)⟩
    · exact sl_tupA pins s σ H _ v vl vu lo hi sl Q I rx hs pl pu ⟨_, xs, rfl, h1, q1, fun z p hp => q2 z p _ (nw hp)⟩
  · exact h.elim
def tPz (t : TE) : TO := fun σ H Q => t σ H fun x H1 => match x with
  | .int i => Q (some i) H1
  | _ => False
theorem po_z (h : PE X e te) : PO X (some e) (tPz te) := po_w (po_some (pe_mon h)) fun σ H Q h => ⟨_, h, fun x H1 h1 => by
  split at h1
  · exact ⟨_, rfl, h1⟩
  · exact h1.elim⟩

/-! ### displays -/
def tLz (t : TA) : TE := fun σ H Q => t σ H fun xs H1 => xs.length ≤ sizeLine ∧ ∀ p H2, Nw H1 p (.lst xs) H2 → Q (.ref p) H2
def tTz (t : TA) : TE := fun σ H Q => t σ H fun xs H1 => xs.length ≤ sizeLine ∧ ∀ p H2, Nw H1 p (.tup xs) H2 → Q (.ref p) H2
theorem pe_lz {t : TA} (h : PA X es t) : PE X (.List es pos) (tLz t) := pe_w (pe_lst (pa_mon h)) fun σ H Q h => ⟨_, h, fun xs H1 h1 => ⟨h1.1, fun p hp => h1.2 p _ (nw hp)⟩⟩
theorem pe_tz {t : TA} {x1} (h : PA X es t) : PE X (.Tuple es x1 pos) (tTz t) := pe_w (pe_tup (pa_mon h)) fun σ H Q h => ⟨_, h, fun xs H1 h1 => ⟨h1.1, fun p hp => h1.2 p _ (nw hp)⟩⟩

/-! ### calls of built-ins -/
def zLen (K : PySem.W.Frag) : List V → Hp → VK → Prop := fun vs H Q => match vs with
  | [.str z] => z.length ≤ sizeLine ∧ Q (.int z.length) H
  | [.ref p] => (∃ xs, (SqL K H p xs ∨ SqT K H p xs) ∧ Q (.int xs.length) H) ∨ ∃ kvs, H p = some (.dK kvs) ∧ Q (.int kvs.length) H
  | _ => False
theorem c_len : CallR X (.builtin "len") (zLen X.K) := by
  intro pins s σ H xs us Q I r h
  unfold zLen at h
  split at h
  · exact call_len_str pins s σ H _ us Q I r ⟨_, rfl, h.1, h.2⟩
  · rcases h with ⟨xs, h, q⟩ | ⟨kvs, h, q⟩
    · exact call_len_seq pins s σ H _ us Q I r ⟨_, xs, rfl, h, q⟩
    · exact call_lenD pins s σ H _ us Q I r ⟨_, kvs, rfl, h, q⟩
  · exact h.elim
def zInt : List V → Hp → VK → Prop := fun vs H Q => match vs with
  | [.int i] => Q (.int i) H
  | [.bl k] => Q (.int (if k then 1 else 0)) H
  | [.str a] => ∃ n, PySem.intText? a = some n ∧ a.length ≤ 640 ∧ Q (.int n) H
  | _ => False
theorem c_int : CallR X (.type "int") zInt := by
  intro pins s σ H xs us Q I r h
  unfold zInt at h
  split at h
  · exact call_int1 pins s σ H _ us Q I r (.inl ⟨_, rfl, h⟩)
  · exact call_int1 pins s σ H _ us Q I r (.inr ⟨_, rfl, h⟩)
  · obtain ⟨n, h1, h2, q⟩ := h
    exact call_int_str pins s σ H _ us Q I r ⟨_, n, rfl, h1, h2, q⟩
  · exact h.elim
def zStr : List V → Hp → VK → Prop := fun vs H Q => match vs with
  | [.int i] => i.natAbs.log2 < 1920 ∧ Q (.str (toString i)) H
  | _ => False
theorem c_str : CallR X (.type "str") zStr := callr_w call_str_int fun vs H Q h => by
  unfold zStr at h
  split at h
  · exact ⟨_, rfl, h.1, h.2⟩
  · exact h.elim
def zAbs : List V → Hp → VK → Prop := fun vs H Q => match vs with
  | [.int i] => Q (.int (if i < 0 then -i else i)) H
  | _ => False
theorem c_abs : CallR X (.builtin "abs") zAbs := callr_w call_abs fun vs H Q h => by
  unfold zAbs at h
  split at h
  · exact ⟨_, rfl, h⟩
  · exact h.elim
def zMax : List V → Hp → VK → Prop := fun vs H Q => match vs with
  | [.int i, .int j] => Q (.int (if j > i then j else i)) H
  | _ => False
theorem c_max (hc : X.calm = true) : CallR X (.builtin "max") zMax := callr_w (call_max2 hc) fun vs H Q h => by
  unfold zMax at h
  split at h
  · exact ⟨_, _, rfl, h⟩
  · exact h.elim
def zMin : List V → Hp → VK → Prop := fun vs H Q => match vs with
  | [.int i, .int j] => Q (.int (if j < i then j else i)) H
  | _ => False
theorem c_min (hc : X.calm = true) : CallR X (.builtin "min") zMin := callr_w (call_min2 hc) fun vs H Q h => by
  unfold zMin at h
  split at h
  · exact ⟨_, _, rfl, h⟩
  · exact h.elim
def zSum (K : PySem.W.Frag) : List V → Hp → VK → Prop := fun vs H Q => match vs with
  | [.ref p] => ∃ ns : List Int, SqL K H p (ns.map V.int) ∧ Q (.int ns.sum) H
  | _ => False
theorem c_sum (hc : X.calm = true) : CallR X (.builtin "sum") (zSum X.K) := callr_w (cr_sum hc) fun vs H Q h => by
  unfold zSum at h
  split at h
  · obtain ⟨ns, h, q⟩ := h
    exact ⟨_, ns, rfl, h, q⟩
  · exact h.elim
def zAll (K : PySem.W.Frag) : List V → Hp → VK → Prop := fun vs H Q => match vs with
  | [.ref p] => ∃ bs : List Bool, SqL K H p (bs.map V.bl) ∧ Q (.bl (bs.all id)) H
  | _ => False
theorem c_all (hc : X.calm = true) : CallR X (.builtin "all") (zAll X.K) := callr_w (cr_all hc) fun vs H Q h => by
  unfold zAll at h
  split at h
  · obtain ⟨ns, h, q⟩ := h
    exact ⟨_, ns, rfl, h, q⟩
  · exact h.elim
def zList (K : PySem.W.Frag) : List V → Hp → VK → Prop := fun vs H Q => match vs with
  | [.ref p] => ∃ ys, (SqL K H p ys ∨ SqT K H p ys) ∧ ∀ l H2, Nw H l (.lst ys) H2 → Q (.ref l) H2
  | _ => False
theorem c_list : CallR X (.type "list") (zList X.K) := callr_w call_list_of fun vs H Q h => by
  unfold zList at h
  split at h
  · obtain ⟨ys, h, q⟩ := h
    exact ⟨_, ys, rfl, h, fun l hl => q l _ (nw hl)⟩
  · exact h.elim
def zTuple (K : PySem.W.Frag) : List V → Hp → VK → Prop := fun vs H Q => match vs with
  | [.ref p] => ∃ ys, (SqL K H p ys ∧ ∀ l H2, Nw H l (.tup ys) H2 → Q (.ref l) H2) ∨ (SqT K H p ys ∧ Q (.ref p) H)
  | _ => False
theorem c_tuple : CallR X (.type "tuple") (zTuple X.K) := callr_w call_tuple_of fun vs H Q h => by
  unfold zTuple at h
  split at h
  · obtain ⟨ys, ⟨h, q⟩ | ⟨h, q⟩⟩ := h
    · exact ⟨_, ys, rfl, .inl ⟨h, fun l hl => q l _ (nw hl)⟩⟩
    · exact ⟨_, ys, rfl, .inr ⟨h, q⟩⟩
  · exact h.elim

/-! ### isinstance -/
def isK (k T : String) : Bool := k == T || (k == "bool" && T == "int")
/-- a value's kind -/
def KindV (K : PySem.W.Frag) (H : Hp) (x : V) (k : String) : Prop := match x with
  | .non => k = "NoneType"
  | .bl _ => k = "bool"
  | .int _ => k = "int"
  | .str _ => k = "str"
  | .ref p => (k = "list" ∧ ∃ xs, SqL K H p xs) ∨ (k = "tuple" ∧ ∃ xs, SqT K H p xs) ∨ (k = "dict" ∧ ((∃ kvs, H p = some (.dK kvs)) ∨ ∃ kvs, H p = some (.dT kvs)))
  | _ => False
theorem KindV.tyx {K : PySem.W.Frag} {H : Hp} {x : V} {k : String} (h : KindV K H x k) : TyX K H x (.type k) ∧ k ∈ ["NoneType", "bool", "int", "str", "list", "tuple", "dict"] := by
  unfold KindV at h
  split at h
  · subst h; exact ⟨.base .non, by simp⟩
  · subst h; exact ⟨.base (.bl _), by simp⟩
  · subst h; exact ⟨.base (.int _), by simp⟩
  · subst h; exact ⟨.base (.str _), by simp⟩
  · rcases h with ⟨rfl, xs, (h | ⟨o, h⟩) | ⟨o, its, n, h1, h2, _⟩⟩ | ⟨rfl, xs, (h | ⟨o, h⟩) | ⟨o, its, n, h1, h2, _⟩⟩ | ⟨rfl, ⟨kvs, h⟩ | ⟨kvs, h⟩⟩
    · exact ⟨.base (.lst h), by simp⟩
    · exact ⟨.base (.frz h), by simp⟩
    · exact ⟨.kList h1 h2, by simp⟩
    · exact ⟨.base (.tup h), by simp⟩
    · exact ⟨.fTuple h, by simp⟩
    · exact ⟨.kTuple h1 h2, by simp⟩
    · exact ⟨.base (.dK h), by simp⟩
    · exact ⟨.base (.dT h), by simp⟩
  · exact h.elim
theorem kit_isK {K : PySem.W.Frag} {k T : String} (hk : k ∈ ["NoneType", "bool", "int", "str", "list", "tuple", "dict"]) (hT : T ∈ ["bool", "int", "str", "list", "tuple", "dict"]) : PySem.W.kitOne K (.type k) (.type T) = some (isK k T) := by
  refine kit_ty ?_
  have all : (["NoneType", "bool", "int", "str", "list", "tuple", "dict"].all fun k => ["bool", "int", "str", "list", "tuple", "dict"].all fun T => kitB k T == some (isK k T)) = true := by decide +kernel
  have h1 := (List.all_eq_true.mp all) k hk
  have h2 := (List.all_eq_true.mp h1) T hT
  exact eq_of_beq h2
def zIsi (K : PySem.W.Frag) : List V → Hp → VK → Prop := fun vs H Q => match vs with
  | [x, .ty T] => T ∈ ["bool", "int", "str", "list", "tuple", "dict"] ∧ ∃ k, KindV K H x k ∧ Q (.bl (isK k T)) H
  | [x, .ref tp] => ∃ T U k, H tp = some (.tup [.ty T, .ty U]) ∧ T ∈ ["bool", "int", "str", "list", "tuple", "dict"] ∧ U ∈ ["bool", "int", "str", "list", "tuple", "dict"] ∧ KindV K H x k ∧ Q (.bl (isK k T || isK k U)) H
  | _ => False
theorem c_isi : CallR X (.builtin "isinstance") (zIsi X.K) := by
  intro pins s σ H xs us Q I r h
  unfold zIsi at h
  split at h
  · obtain ⟨hT, k, hk, q⟩ := h
    obtain ⟨h1, h2⟩ := hk.tyx
    exact call_isi pins s σ H _ us Q I r ⟨_, _, _, _, _, rfl, .ty _, h1, kit_isK h2 hT, q⟩
  · obtain ⟨T, U, k, hp, hT, hU, hk, q⟩ := h
    obtain ⟨h1, h2⟩ := hk.tyx
    refine call_isiT pins s σ H _ us Q I r ⟨_, _, _, _, _, _, rfl, hp, .cons (.ty T) (.cons (.ty U) .nil), h1, kitAny_cons (b := isK k T) (kit_isK h2 hT) (fun e => ?_) (fun e => ?_), q⟩
    · rw [e, Bool.false_or]
      refine kitAny_cons (kit_isK h2 hU) (fun e2 => ?_) (fun e2 => e2)
      rw [e2]
      rfl
    · rw [e]
      rfl
  · exact h.elim
end

/-! ### methods of built-in types -/
section
variable {X : Cx} {a b e o : Expr} {es : List Expr} {te to : TE} {t : TA} {name : Str} {apos cpos : Pos} {T id : String}
/-- a text's method -/
def tMs (r : Str → List V → Hp → VK → Prop) (to : TE) (t : TA) : TE := fun σ H Q => to σ H fun x H1 => match x with
  | .str a => t σ H1 fun xs H2 => r a xs H2 Q
  | _ => False
def tMs0 (r : Str → Hp → VK → Prop) (to : TE) : TE := fun σ H Q => to σ H fun x H1 => match x with
  | .str a => r a H1 Q
  | _ => False
def ofS (r : Str → List V → Hp → VK → Prop) : V → List V → Hp → VK → Prop := fun x xs H Q => ∃ a, x = .str a ∧ r a xs H Q
theorem pe_ms {r : Str → List V → Hp → VK → Prop} (slot : Slot "str" name id) (hty : typeOf (.builtin id) = pure (.type "method_descriptor")) (hm : MtR X id (ofS r)) (ho : PE X o to) (ha : PA X (e :: es) t)
    (hbase : attributeBase o name X.env (eval o X.env) = eval o X.env := by rfl)
    (hfew : ((backTo cpos (starEach (e :: es) X.env)).all (fun x => !x.1) && (backToKw cpos (keywordEach [] X.env)).all (fun x => x.1.isSome)
      && decide ((e :: es).length + ([] : List Keyword).length + (if ([] : List Keyword).isEmpty then 0 else 1) < 30)) = true := by rfl)
    (hline : (apos.endLine == cpos.line) = true := by rfl) (hs : starEach (e :: es) X.env = (false, eval e X.env) :: starEach es X.env := by rfl) (hplain : (backTo cpos (starEach es X.env)).any (·.1) = false := by rfl) :
    PE X (.Call (.Attribute o name apos) (e :: es) [] cpos) (tMs r to t) :=
  pe_w (pe_bm PySem.F.plainAttrs_str slot hty hm (pe_mon ho) (pa_mon ha) hbase hfew hline hs hplain) fun σ H Q h => ⟨_, h, fun x H1 h1 => by
    split at h1
    · exact ⟨rfl, _, h1, fun xs H2 h2 => ⟨_, rfl, h2⟩⟩
    · exact h1.elim⟩
theorem pe_ms0 {r : Str → Hp → VK → Prop} (slot : Slot "str" name id) (hty : typeOf (.builtin id) = pure (.type "method_descriptor")) (hm : MtR X id (ofS fun a xs H Q => xs = [] ∧ r a H Q)) (ho : PE X o to)
    (hbase : attributeBase o name X.env (eval o X.env) = eval o X.env := by rfl) (hline : (apos.endLine == cpos.line) = true := by rfl) :
    PE X (.Call (.Attribute o name apos) [] [] cpos) (tMs0 r to) :=
  pe_w (pe_bm0 PySem.F.plainAttrs_str slot hty hm (pe_mon ho) hbase hline) fun σ H Q h => ⟨_, h, fun x H1 h1 => by
    split at h1
    · exact ⟨rfl, _, rfl, rfl, h1⟩
    · exact h1.elim⟩
theorem mt_w {id : String} {r r' : V → List V → Hp → VK → Prop} (h : MtR X id r') (i : ∀ x vs H Q, r x vs H Q → r' x vs H Q) : MtR X id r :=
  fun pins s σ H x xs v us Q I rx rs q => h pins s σ H x xs v us Q I rx rs (i x xs H Q q)
def zJoin (K : PySem.W.Frag) : Str → List V → Hp → VK → Prop := fun a xs H Q => match xs with
  | [.ref p] => ∃ ys : List Str, (SqL K H p (ys.map V.str) ∨ SqT K H p (ys.map V.str)) ∧ (ys.map (·.length)).sum + ys.length * a.length ≤ 16777216 ∧ Q (.str (Txt.join a ys)) H
  | _ => False
theorem m_join : MtR X "str.join" (ofS (zJoin X.K)) := mt_w mt_join fun x vs H Q ⟨a, e, h⟩ => by
  unfold zJoin at h
  split at h
  · obtain ⟨ys, h1, h2, q⟩ := h
    exact ⟨a, _, ys, e, rfl, h1, h2, q⟩
  · exact h.elim
def zZfill : Str → List V → Hp → VK → Prop := fun a xs H Q => match xs with
  | [.int i] => PadOk i = true ∧ Q (.str (Txt.zfill a i)) H
  | _ => False
theorem m_zfill : MtR X "str.zfill" (ofS zZfill) := mt_w mt_zfill fun x vs H Q ⟨a, e, h⟩ => by
  unfold zZfill at h
  split at h
  · exact ⟨a, _, e, rfl, h.1, h.2⟩
  · exact h.elim
def zPure (g : Str → V) : Str → Hp → VK → Prop := fun a H Q => Q (g a) H
theorem m0_of {id : String} {g : Str → V} (h : MtR X id (fun x xs H Q => ∃ a, x = .str a ∧ xs = [] ∧ True ∧ Q (g a) H)) : MtR X id (ofS fun a xs H Q => xs = [] ∧ zPure g a H Q) :=
  mt_w h fun x vs H Q ⟨a, e, h1, h2⟩ => ⟨a, e, h1, trivial, h2⟩
theorem m_isascii : MtR X "str.isascii" (ofS fun a xs H Q => xs = [] ∧ zPure (fun a => .bl (Txt.isascii a)) a H Q) := m0_of mt_isascii
theorem m_isprintable : MtR X "str.isprintable" (ofS fun a xs H Q => xs = [] ∧ zPure (fun a => .bl (Txt.isprintable a)) a H Q) := m0_of mt_isprintable
theorem m_islower : MtR X "str.islower" (ofS fun a xs H Q => xs = [] ∧ zPure (fun a => .bl (Txt.islower a)) a H Q) := m0_of mt_islower
theorem m_isalpha : MtR X "str.isalpha" (ofS fun a xs H Q => xs = [] ∧ zPure (fun a => .bl (Txt.isalpha a)) a H Q) := m0_of mt_isalpha
theorem m_isdigit : MtR X "str.isdigit" (ofS fun a xs H Q => xs = [] ∧ zPure (fun a => .bl (Txt.isdigit a)) a H Q) := m0_of mt_isdigit
/-- a list's method -/
def tMl (K : PySem.W.Frag) (r : Addr → List V → Hp → VK → Prop) (to : TE) (t : TA) : TE := fun σ H Q => to σ H fun x H1 => match x with
  | .ref l => (∃ xs, SqL K H1 l xs) ∧ t σ H1 fun xs H2 => r l xs H2 Q
  | _ => False
def ofL (r : Addr → List V → Hp → VK → Prop) : V → List V → Hp → VK → Prop := fun x xs H Q => ∃ a, x = .ref a ∧ r a xs H Q
theorem pe_ml {r : Addr → List V → Hp → VK → Prop} (slot : Slot "list" name id) (hty : typeOf (.builtin id) = pure (.type "method_descriptor")) (hm : MtR X id (ofL r)) (ho : PE X o to) (ha : PA X (e :: es) t)
    (hbase : attributeBase o name X.env (eval o X.env) = eval o X.env := by rfl)
    (hfew : ((backTo cpos (starEach (e :: es) X.env)).all (fun x => !x.1) && (backToKw cpos (keywordEach [] X.env)).all (fun x => x.1.isSome)
      && decide ((e :: es).length + ([] : List Keyword).length + (if ([] : List Keyword).isEmpty then 0 else 1) < 30)) = true := by rfl)
    (hline : (apos.endLine == cpos.line) = true := by rfl) (hs : starEach (e :: es) X.env = (false, eval e X.env) :: starEach es X.env := by rfl) (hplain : (backTo cpos (starEach es X.env)).any (·.1) = false := by rfl) :
    PE X (.Call (.Attribute o name apos) (e :: es) [] cpos) (tMl X.K r to t) :=
  pe_w (pe_bm PySem.F.plainAttrs_list slot hty hm (pe_mon ho) (pa_mon ha) hbase hfew hline hs hplain) fun σ H Q h => ⟨_, h, fun x H1 h1 => by
    split at h1
    · exact ⟨.inl ⟨rfl, h1.1⟩, _, h1.2, fun xs H2 h2 => ⟨_, rfl, h2⟩⟩
    · exact h1.elim⟩
def zApp : Addr → List V → Hp → VK → Prop := fun l ys H Q => match ys with
  | [y] => ∃ xs, H l = some (.lst xs) ∧ xs.length < sizeLine ∧ ∀ H2, Wr H l (.lst (xs ++ [y])) H2 → Q .non H2
  | _ => False
theorem m_append : MtR X "list.append" (ofL zApp) := mt_w mt_append fun x vs H Q ⟨a, e, h⟩ => by
  unfold zApp at h
  split at h
  · obtain ⟨xs, h1, h2, q⟩ := h
    exact ⟨a, xs, _, e, rfl, h1, h2, q _ wr⟩
  · exact h.elim
end

/-! ### targets and statements -/
section
variable {X : Cx} {a b e o i : Expr} {es : List Expr} {te to ti : TE} {pos : Pos}
def zSetL : V → V → V → Hp → (Hp → Prop) → Prop := fun o i v H Q => match o, i with
  | .ref p, .int k => ∃ xs j, H p = some (.lst xs) ∧ ixN xs.length k = some j ∧ ∀ H2, Wr H p (.lst (xs.set j v)) H2 → Q H2
  | _, _ => False
theorem s_list : PSet X zSetL := by
  intro pins s σ H o i v ov iv u Q I ro ri rv h
  unfold zSetL at h
  split at h
  · obtain ⟨xs, j, h1, h2, q⟩ := h
    exact set_list pins s σ H _ _ v ov iv u Q I ro ri rv ⟨_, xs, _, j, rfl, rfl, h1, h2, q _ wr⟩
  · exact h.elim
def gCz (t : TG) (u : TGs) : TGs := fun vs σ H Q => match vs with
  | v :: r => t v σ H fun σ' H' => u r σ' H' Q
  | [] => False
def gNz : TGs := fun vs σ H Q => match vs with
  | [] => Q σ H
  | _ => False
theorem pgs_w {g : List Expr} {t t' : TGs} (h : PGs X g t) (i : ∀ v σ H Q, t' v σ H Q → t v σ H Q) : PGs X g t' := ⟨fun pins s σ H v u Q I r q => h.run pins s σ H v u Q I r (i v σ H Q q)⟩
theorem pgs_nz : PGs X [] gNz := pgs_w pgs_nil fun v σ H Q h => by
  unfold gNz at h
  split at h
  · exact ⟨rfl, h⟩
  · exact h.elim
theorem pgs_cz {t : TG} {u : TGs} (ht : PG X e t) (hu : PGs X es u) (hs : (assignEach (e :: es) X.env).map (·.2) = assign e X.env :: (assignEach es X.env).map (·.2) := by rfl) : PGs X (e :: es) (gCz t u) :=
  pgs_w (pgs_cons ht hu hs) fun v σ H Q h => by
    unfold gCz at h
    split at h
    · exact ⟨_, _, rfl, h⟩
    · exact h.elim
def gTz (K : PySem.W.Frag) (n : Nat) (t : TGs) : TG := fun v σ H Q => match v with
  | .ref a => ∃ xs, SqT K H a xs ∧ xs.length = n ∧ t xs σ H Q
  | _ => False
theorem pg_tz {k : Nat} {t : TGs} {n : Nat} (hc : X.calm = true) (h : PGs X es t) (hn : (assignEach es X.env).length = n := by rfl) (hst : (assignEach es X.env).findIdx? (·.1) = none := by rfl) : PG X (.Tuple es k pos) (gTz X.K n t) :=
  pg_w (pg_tup hc h hn hst) fun v σ H Q h => by
    unfold gTz at h
    split at h
    · obtain ⟨xs, h1, h2, q⟩ := h
      exact ⟨_, xs, rfl, h1, h2, q⟩
    · exact h.elim
def tPrz (i j : Nat) (ta : TA) : TS := fun D σ H => ta σ H fun vs H1 => match vs with
  | [v, w] => D.nx ((σ.set i (some v)).set j (some w)) H1
  | _ => False
theorem ps_parZ {i j : Nat} {x y : Str} {ta : TA} {px py pt : Pos} {kt k2 pt2} (hc : X.calm = true) (hN : X.N.Nodup) (hi : X.N[i]? = some x) (hj : X.N[j]? = some y) (hij : i ≠ j)
    (hx : X.env.scope.names.lookup x = some .local) (hy : X.env.scope.names.lookup y = some .local) (ha : PA X [a, b] ta)
    (hw : swappedStores [.Tuple [.Name x px, .Name y py] kt pt] (.Tuple [a, b] k2 pt2) X.env = pure (some [x, y]))
    (hs : swapsWithSole [.Tuple [.Name x px, .Name y py] kt pt] (.Tuple [a, b] k2 pt2) pos.line X.env = pure false := by rfl) :
    PS X (.Assign [.Tuple [.Name x px, .Name y py] kt pt] (.Tuple [a, b] k2 pt2) pos) (tPrz i j ta) :=
  ps_w (ps_par hc hN hi hj hij hx hy (pa_mon ha) hw hs) fun D σ H h => ⟨_, h, fun vs H1 h1 => by
    split at h1
    · exact ⟨_, _, rfl, h1⟩
    · exact h1.elim⟩
def tRngZ (ta : TA) : TI := fun σ H R => ta σ H fun vs H1 => match vs with
  | [.int j] => -(2 ^ 62) ≤ j ∧ j < 2 ^ 62 ∧ R (Itr 0 j.toNat) H1
  | _ => False
theorem pi_rngZ {tg : Expr} {p : Pos} {ta : TA} (hg : Gl X "range") (hm : X.mg "range" = none) (ha : PA X [a] ta) (hs : starEach [a] X.env = [(false, eval a X.env)] := by rfl) : PI X tg (.Call (.Name "range" p) [a] [] pos) (tRngZ ta) :=
  pi_w (pi_range1 hg hm (pa_mon ha) hs) fun σ H R h => ⟨_, h, fun vs H1 h1 => by
    split at h1
    · exact ⟨_, rfl, h1⟩
    · exact h1.elim⟩
def tItL (K : PySem.W.Frag) (te : TE) : TI := fun σ H R => te σ H fun x H1 => match x with
  | .ref a => (∃ xs, SqL K H1 a xs) ∧ R (Itl K a) H1
  | _ => False
theorem pi_lz {tg : Expr} (h : PE X e te) : PI X tg e (tItL X.K te) := pi_w (pi_list (pe_mon h)) fun σ H R h => ⟨_, h, fun x H1 h1 => by
  split at h1
  · exact ⟨_, rfl, h1.1, h1.2⟩
  · exact h1.elim⟩
def tItT (K : PySem.W.Frag) (te : TE) : TI := fun σ H R => te σ H fun x H1 => match x with
  | .ref a => (∃ xs, SqT K H1 a xs) ∧ R (Itt K a) H1
  | _ => False
theorem pi_tz {tg : Expr} (h : PE X e te) : PI X tg e (tItT X.K te) := pi_w (pi_tup (pe_mon h)) fun σ H R h => ⟨_, h, fun x H1 h1 => by
  split at h1
  · exact ⟨_, rfl, h1.1, h1.2⟩
  · exact h1.elim⟩
def tItS (te : TE) : TI := fun σ H R => te σ H fun x H1 => match x with
  | .str a => R (Its a) H1
  | _ => False
theorem pi_sz {tg : Expr} (h : PE X e te) : PI X tg e (tItS te) := pi_w (pi_str (pe_mon h)) fun σ H R h => ⟨_, h, fun x H1 h1 => by
  split at h1
  · exact ⟨_, rfl, h1⟩
  · exact h1.elim⟩
end

/-! ### defs -/
/-- a def that stands under its name: its contract -/
structure Ct (P : Program) (w : World) (K : PySem.W.Frag) (mg : Str → Option Value) (base : Heap) (CX : CXT) (k : Nat) (x : Str) (ps : List Str) (sp : Sp) : Prop where
  ex : ∃ f fd, mg x = some (.ref f) ∧ PySem.W.keepIn K (.ref f) = true ∧ Binds K fd ps [] ∧ FnOk P w K mg base CX k f fd ps sp ∧ ∃ oc od osl, K.lookup f = some ⟨oc, od, .func fd, osl⟩
/-- a def of the top as it stands -/
structure Df (K : PySem.W.Frag) (mg : Str → Option Value) (x : Str) (st : Stmt) (ps : List Str) : Prop where
  ex : ∃ f fd, Fun K x x st f fd ∧ mg x = some (.ref f) ∧ Binds K fd ps []
def tCl (sp : Sp) (E : XK) (t : TA) : TE := fun σ H Q => t σ H fun vs H1 => sp vs H1 Q E
section
variable {X : Cx} {CX : CXT} {k : Nat} {x : Str} {ps : List Str} {sp : Sp} {E : XK} {p pos : Pos} {e : Expr} {es : List Expr} {t : TA}
theorem pe_cl (C : Ct X.prog X.w X.K X.mg X.base CX k x ps sp) (hr : Room k X.A) (hx : Passes CX X E) (ha : PA X (e :: es) t) (hg : Gl X x := by rfl)
    (hdb : (x == ("__debug__" : Str)) = false := by decide)
    (he : starEach (e :: es) X.env = (false, eval e X.env) :: starEach es X.env := by rfl) (hpl : (backTo pos (starEach es X.env)).any (·.1) = false := by rfl) : PE X (.Call (.Name x p) (e :: es) [] pos) (tCl sp E t) := by
  obtain ⟨f, fd, hm, hk, hb, F, _⟩ := C.ex
  refine pe_w (pe_call F hr hg hm hk hb .nil hx ha hdb he hpl) fun σ H Q h => ?_
  show t σ H fun vs H1 => sp (vs ++ []) H1 Q E
  have e : (fun (vs : List V) (H1 : Hp) => sp (vs ++ []) H1 Q E) = fun vs H1 => sp vs H1 Q E := by
    funext vs H1
    rw [List.append_nil]
  rw [e]
  exact h
theorem pe_cl0 (C : Ct X.prog X.w X.K X.mg X.base CX k x ps sp) (hr : Room k X.A) (hx : Passes CX X E) (hg : Gl X x := by rfl) (hdb : (x == ("__debug__" : Str)) = false := by decide) : PE X (.Call (.Name x p) [] [] pos) (tCl sp E tNil) := by
  obtain ⟨f, fd, hm, hk, hb, F, _⟩ := C.ex
  exact pe_call0 F hr hg hm hk hb .nil hx hdb
end
/-- promises by the parameters -/
def sp1 (p : V → Hp → VK → XK → Prop) : Sp := fun vs H Q E => match vs with
  | [a] => p a H Q E
  | _ => False
def sp2 (p : V → V → Hp → VK → XK → Prop) : Sp := fun vs H Q E => match vs with
  | [a, b] => p a b H Q E
  | _ => False
def sp3 (p : V → V → V → Hp → VK → XK → Prop) : Sp := fun vs H Q E => match vs with
  | [a, b, c] => p a b c H Q E
  | _ => False
def sp4 (p : V → V → V → V → Hp → VK → XK → Prop) : Sp := fun vs H Q E => match vs with
  | [a, b, c, d] => p a b c d H Q E
  | _ => False
theorem sp1_of {p : V → Hp → VK → XK → Prop} {vs : List V} {H : Hp} {Q : VK} {E : XK} (h : sp1 p vs H Q E) : ∃ a, vs = [a] ∧ p a H Q E := by
  unfold sp1 at h
  split at h
  · exact ⟨_, rfl, h⟩
  · exact h.elim
theorem sp2_of {p : V → V → Hp → VK → XK → Prop} {vs : List V} {H : Hp} {Q : VK} {E : XK} (h : sp2 p vs H Q E) : ∃ a b, vs = [a, b] ∧ p a b H Q E := by
  unfold sp2 at h
  split at h
  · exact ⟨_, _, rfl, h⟩
  · exact h.elim
theorem sp3_of {p : V → V → V → Hp → VK → XK → Prop} {vs : List V} {H : Hp} {Q : VK} {E : XK} (h : sp3 p vs H Q E) : ∃ a b c, vs = [a, b, c] ∧ p a b c H Q E := by
  unfold sp3 at h
  split at h
  · exact ⟨_, _, _, rfl, h⟩
  · exact h.elim
theorem sp4_of {p : V → V → V → V → Hp → VK → XK → Prop} {vs : List V} {H : Hp} {Q : VK} {E : XK} (h : sp4 p vs H Q E) : ∃ a b c d, vs = [a, b, c, d] ∧ p a b c d H Q E := by
  unfold sp4 at h
  split at h
  · exact ⟨_, _, _, _, rfl, h⟩
  · exact h.elim
section
variable {P : Program} {w : World} {K : PySem.W.Frag} {mg : Str → Option Value} {base : Heap}
theorem fun_at {x q : Str} {st : Stmt} {f : Addr} {fd : FuncData} (F : Fun K x q st f fd) : ∃ oc od osl, K.lookup f = some ⟨oc, od, .func fd, osl⟩ := by
  obtain ⟨oc, od, _, _, _, _, _, _, osl, _, h, _⟩ := F.ex
  exact ⟨oc, od, osl, h⟩
/-- the same def called by names alone, the names in the order ks: g puts the values in the parameters' order -/
structure CtK (P : Program) (w : World) (K : PySem.W.Frag) (mg : Str → Option Value) (base : Heap) (CX : CXT) (k : Nat) (x : Str) (ps ks : List Str) (g : {α : Type} → List α → List α) (sp : Sp) : Prop where
  ex : ∃ f fd, mg x = some (.ref f) ∧ PySem.W.keepIn K (.ref f) = true ∧ (∀ (s : Shared) (ws : List Value), (g ws).length = ps.length → BindsTo s fd ⟨[], ks.zip ws⟩ (ps.zip (g ws))) ∧
    (∀ {zs : List V} {ws : List Value}, Vals zs ws → Vals (g zs) (g ws)) ∧ FnOk P w K mg base CX k f fd ps sp
theorem Ct.kw {CX : CXT} {k : Nat} {x : Str} {st : Stmt} {ps ks : List Str} {g : {α : Type} → List α → List α} {sp : Sp} (C : Ct P w K mg base CX k x ps sp) (D : Df K mg x st ps)
    (h : ∀ (kV doc pm : Value) (an : Option Addr) (cdv ct : Value) (ws : List Value), (g ws).length = ps.length → bindArgs (PySem.W.fnOf x x (defArgs st) (defBody st) (defScope st) .none kV doc pm an cdv ct) ⟨[], ks.zip ws⟩ = pure (ps.zip (g ws)))
    (hg : ∀ {zs : List V} {ws : List Value}, Vals zs ws → Vals (g zs) (g ws)) : CtK P w K mg base CX k x ps ks g sp := by
  obtain ⟨f, fd, hm, hk, hb, F, oc, od, osl, hl⟩ := C.ex
  obtain ⟨f', fd', F', hm', _⟩ := D.ex
  have e : f = f' := by
    rw [hm] at hm'
    cases hm'
    rfl
  subst e
  obtain ⟨oc', od', kV, doc, pm, an, cdv, ct, osl', rfl, hl', _⟩ := F'.ex
  have e2 : fd = PySem.W.fnOf x x (defArgs st) (defBody st) (defScope st) .none kV doc pm an cdv ct := by
    rw [hl] at hl'
    cases hl'
    rfl
  subst e2
  exact ⟨f, _, hm, hk, fun s ws hlen => .of_eq (h kV doc pm an cdv ct ws hlen), hg, F⟩
/-- f(k = v, ..) -/
def tClK (g : {α : Type} → List α → List α) (sp : Sp) (E : XK) (t : TA) : TE := fun σ H Q => t σ H fun zs H1 => sp (g zs) H1 Q E
theorem pe_clK {X : Cx} {CX : CXT} {k : Nat} {x : Str} {ps ks : List Str} {g : {α : Type} → List α → List α} {sp : Sp} {E : XK} {p pos : Pos} {kws : List Keyword} {t : TA} (C : CtK X.prog X.w X.K X.mg X.base CX k x ps ks g sp) (hr : Room k X.A) (hx : Passes CX X E)
    (hkw : PK X kws t) (hg : Gl X x := by rfl) (hall : (backToKw pos (keywordEach kws X.env)).all (·.1.isSome) = true := by rfl) (hks : (backToKw pos (keywordEach kws X.env)).filterMap (·.1) = ks := by rfl)
    (hdb : (x == ("__debug__" : Str)) = false := by decide)
    (hpl : ((backTo pos (starEach [] X.env)).any (·.1) || (backToKw pos (keywordEach kws X.env)).any (·.1.isNone)) = false := by rfl) :
    PE X (.Call (.Name x p) [] kws pos) (tClK g sp E t) := by
  obtain ⟨f, fd, hm, hk, hb, hrel, F⟩ := C.ex
  refine ⟨fun pins s σ H Q I h => wpAny_Call_Name_kw (ld_glob I hg hm ?_ hdb)⟩
  refine PySem.W.callWith_KW0 (h₀ := X.base) I.ok.mod.kin hk hall (thn (hkw.run pos pins s σ H _ I h) fun ws s1 ⟨zs, H1, I1, rz, q⟩ => ⟨I1.kIn, ?_⟩) hpl
  rw [hks]
  have r2 := hrel rz
  have hl : (g ws).length = ps.length := by
    rw [← r2.length]
    exact F.len _ _ _ _ q
  refine wpAny_call (codeAny_mono (F.run X.A X.stack s1 H1 ⟨[], ks.zip ws⟩ (g ws) (g zs) Q E hr I1.env0 (hb s1 ws hl) r2 q) fun r s' hq => ?_)
  match r, hq with
  | .error e, hq => exact hx pins σ H1 s1 e s' I1 hq
  | .ok (.ret u), hq => exact I1.after hq
  | .ok .next, hq => exact False.elim hq
  | .ok .brk, hq => exact False.elim hq
  | .ok .cont, hq => exact False.elim hq
/-- a def that raises nothing, one parameter -/
theorem ct1 {x : Str} {st : Stmt} {a : Str} {N : List Str} {k : Nat} {p : V → Hp → VK → XK → Prop} (D : Df K mg x st [a]) (S : FnScope N [a] (defScope st))
    (body : ∀ (f : Addr) (cdv : Value) (A : Around) (outer : List Env) (s : Shared) (H : Hp) (u : V) (Q : VK) (E : XK), Room k (A.deeper (envOfC x (defScope st) s.heap.objs.size f cdv)) → p u H Q E →
      ∃ t, PSs (cxOf CX0 P w K mg base N x (defScope st) f cdv A outer s H E).nox (defBody st) t ∧ t { nx := fun _ H' => Q .non H', rt := Q } (start N [u]) H) : Ct P w K mg base CX0 (k + 1) x [a] (sp1 p) := by
  obtain ⟨f, fd, F, hm, hb⟩ := D.ex
  refine ⟨f, fd, hm, F.kp, hb, F.ok S (fun vs H Q E h => ?_) (fun cdv A outer s H vs Q E hr h => ?_), fun_at F⟩
  · obtain ⟨u, rfl, _⟩ := sp1_of h
    rfl
  · obtain ⟨u, rfl, h⟩ := sp1_of h
    exact body f cdv A outer s H u Q E hr h
theorem ct2 {x : Str} {st : Stmt} {a b : Str} {N : List Str} {k : Nat} {p : V → V → Hp → VK → XK → Prop} (D : Df K mg x st [a, b]) (S : FnScope N [a, b] (defScope st))
    (body : ∀ (f : Addr) (cdv : Value) (A : Around) (outer : List Env) (s : Shared) (H : Hp) (u v : V) (Q : VK) (E : XK), Room k (A.deeper (envOfC x (defScope st) s.heap.objs.size f cdv)) → p u v H Q E →
      ∃ t, PSs (cxOf CX0 P w K mg base N x (defScope st) f cdv A outer s H E).nox (defBody st) t ∧ t { nx := fun _ H' => Q .non H', rt := Q } (start N [u, v]) H) : Ct P w K mg base CX0 (k + 1) x [a, b] (sp2 p) := by
  obtain ⟨f, fd, F, hm, hb⟩ := D.ex
  refine ⟨f, fd, hm, F.kp, hb, F.ok S (fun vs H Q E h => ?_) (fun cdv A outer s H vs Q E hr h => ?_), fun_at F⟩
  · obtain ⟨u, v, rfl, _⟩ := sp2_of h
    rfl
  · obtain ⟨u, v, rfl, h⟩ := sp2_of h
    exact body f cdv A outer s H u v Q E hr h
theorem ct3 {x : Str} {st : Stmt} {a b c : Str} {N : List Str} {k : Nat} {p : V → V → V → Hp → VK → XK → Prop} (D : Df K mg x st [a, b, c]) (S : FnScope N [a, b, c] (defScope st))
    (body : ∀ (f : Addr) (cdv : Value) (A : Around) (outer : List Env) (s : Shared) (H : Hp) (u v y : V) (Q : VK) (E : XK), Room k (A.deeper (envOfC x (defScope st) s.heap.objs.size f cdv)) → p u v y H Q E →
      ∃ t, PSs (cxOf CX0 P w K mg base N x (defScope st) f cdv A outer s H E).nox (defBody st) t ∧ t { nx := fun _ H' => Q .non H', rt := Q } (start N [u, v, y]) H) : Ct P w K mg base CX0 (k + 1) x [a, b, c] (sp3 p) := by
  obtain ⟨f, fd, F, hm, hb⟩ := D.ex
  refine ⟨f, fd, hm, F.kp, hb, F.ok S (fun vs H Q E h => ?_) (fun cdv A outer s H vs Q E hr h => ?_), fun_at F⟩
  · obtain ⟨u, v, y, rfl, _⟩ := sp3_of h
    rfl
  · obtain ⟨u, v, y, rfl, h⟩ := sp3_of h
    exact body f cdv A outer s H u v y Q E hr h
theorem ct4 {x : Str} {st : Stmt} {a b c d : Str} {N : List Str} {k : Nat} {p : V → V → V → V → Hp → VK → XK → Prop} (D : Df K mg x st [a, b, c, d]) (S : FnScope N [a, b, c, d] (defScope st))
    (body : ∀ (f : Addr) (cdv : Value) (A : Around) (outer : List Env) (s : Shared) (H : Hp) (u v y z : V) (Q : VK) (E : XK), Room k (A.deeper (envOfC x (defScope st) s.heap.objs.size f cdv)) → p u v y z H Q E →
      ∃ t, PSs (cxOf CX0 P w K mg base N x (defScope st) f cdv A outer s H E).nox (defBody st) t ∧ t { nx := fun _ H' => Q .non H', rt := Q } (start N [u, v, y, z]) H) : Ct P w K mg base CX0 (k + 1) x [a, b, c, d] (sp4 p) := by
  obtain ⟨f, fd, F, hm, hb⟩ := D.ex
  refine ⟨f, fd, hm, F.kp, hb, F.ok S (fun vs H Q E h => ?_) (fun cdv A outer s H vs Q E hr h => ?_), fun_at F⟩
  · obtain ⟨u, v, y, z, rfl, _⟩ := sp4_of h
    rfl
  · obtain ⟨u, v, y, z, rfl, h⟩ := sp4_of h
    exact body f cdv A outer s H u v y z Q E hr h
end

/-! ### loops over known items -/
/-- the iterator J gives these items while S stands -/
structure Wk (J : It) (items : List V) (S : Hp → Prop) : Prop where
  go : ∀ i H, S H → i < items.length → J.go i H
  stop : ∀ H, S H → J.stop items.length H
  yld : ∀ i H x H', S H → i < items.length → J.yld i H x H' → H' = H ∧ items[i]? = some x
theorem wk_list {K : PySem.W.Frag} {a : Addr} (xs : List V) : Wk (Itl K a) xs (fun H => SqL K H a xs) where
  go i H s h := ⟨xs, xs[i], s, by simp [h]⟩
  stop H s := ⟨xs, s, Nat.le_refl _⟩
  yld i H x H' s _ y := ⟨y.1, y.2 xs s⟩
theorem wk_tup {K : PySem.W.Frag} {a : Addr} (xs : List V) : Wk (Itt K a) xs (fun H => SqT K H a xs) where
  go i H s h := ⟨xs, xs[i], s, by simp [h]⟩
  stop H s := ⟨xs, s, Nat.le_refl _⟩
  yld i H x H' s _ y := ⟨y.1, y.2 xs s⟩
def rngV (lo : Int) (n : Nat) : List V := (List.range n).map fun (i : Nat) => V.int (lo + i)
theorem rngV_len (lo : Int) (n : Nat) : (rngV lo n).length = n := by simp [rngV]
theorem rngV_get {lo : Int} {n i : Nat} (h : i < n) : (rngV lo n)[i]? = some (.int (lo + i)) := by
  rw [rngV, List.getElem?_map, List.getElem?_range h]
  rfl
theorem rngV_at {lo : Int} {n i : Nat} {x : V} (h : (rngV lo n)[i]? = some x) : i < n ∧ x = .int (lo + i) := by
  have hi : i < n := by
    have q := (List.getElem?_eq_some_iff.mp h).1
    rw [rngV_len] at q
    exact q
  rw [rngV_get hi] at h
  exact ⟨hi, (Option.some.inj h).symm⟩
theorem wk_rng (lo : Int) (n : Nat) : Wk (Itr lo n) (rngV lo n) (fun _ => True) where
  go i H _ h := by
    rw [rngV_len] at h
    exact h
  stop H _ := by
    show n ≤ (rngV lo n).length
    rw [rngV_len]
    exact Nat.le_refl n
  yld i H x H' s h y := by
    rw [rngV_len] at h
    obtain ⟨y1, y2⟩ := y
    exact ⟨y1, by rw [y2, rngV_get h]⟩
def signV (c : Nat) : V := V.str ⟨#[c]⟩
def signsV (x : Str) : List V := x.cps.toList.map signV
theorem wk_str (x : Str) : Wk (Its x) (signsV x) (fun _ => True) where
  go i H _ h := by
    rw [signsV, List.length_map, Array.length_toList] at h
    exact h
  stop H _ := by
    show x.cps.size ≤ (signsV x).length
    rw [signsV, List.length_map, Array.length_toList]
    exact Nat.le_refl _
  yld i H v H' s h y := by
    obtain ⟨y1, c, y2, y3⟩ := y
    refine ⟨y1, ?_⟩
    rw [signsV, List.getElem?_map, Array.getElem?_toList, y2, y3]
    rfl
/-- for: the invariant by the turn -/
theorem for_w {J : It} {items : List V} {S : Hp → Prop} (wk : Wk J items S) {g : TG} {tb : TS} {D : Ends} {σ : L2.St} {H : Hp} (Pv : Nat → L2.St → Hp → Prop) (h0 : Pv 0 σ H) (hS : ∀ i σ H, Pv i σ H → S H)
    (hs : ∀ i x σ H, items[i]? = some x → Pv i σ H → g x σ H fun σ2 H2 => tb { D with nx := Pv (i + 1), ct := Pv (i + 1), bk := D.nx } σ2 H2) (hd : ∀ σ H, Pv items.length σ H → D.nx σ H) :
    ∃ W : Nat → Nat → L2.St → Hp → Prop, (∃ m, W 0 m σ H) ∧ ∀ i m σ H, W i m σ H →
      (J.stop i H ∧ D.nx σ H) ∨ (J.go i H ∧ ∃ N : L2.St → Hp → Prop, (∀ σ' H', N σ' H' → ∃ m', m' < m ∧ W (i + 1) m' σ' H') ∧ ∀ x H', J.yld i H x H' → g x σ H' fun σ2 H2 => tb { D with nx := N, ct := N, bk := D.nx } σ2 H2) := by
  refine ⟨fun i m σ H => m = items.length - i ∧ i ≤ items.length ∧ Pv i σ H, ⟨_, rfl, Nat.zero_le _, h0⟩, ?_⟩
  rintro i m σ H ⟨rfl, hi, p⟩
  have s := hS i σ H p
  rcases Nat.lt_or_ge i items.length with hlt | hge
  · refine .inr ⟨wk.go i H s hlt, Pv (i + 1), fun σ' H' p' => ⟨items.length - (i + 1), by omega, rfl, hlt, p'⟩, fun x H' y => ?_⟩
    obtain ⟨rfl, hx⟩ := wk.yld i H x H' s hlt y
    exact hs i x σ _ hx p
  · have e : i = items.length := Nat.le_antisymm hi hge
    subst e
    exact .inl ⟨wk.stop H s, hd σ H p⟩

/-! ### comprehensions -/
def monI (t : TI) : TI := fun σ H R => ∃ R0 : It → Hp → Prop, t σ H R0 ∧ ∀ J H1, R0 J H1 → R J H1
def monG (t : TG) : TG := fun v σ H Q => ∃ Q0 : L2.St → Hp → Prop, t v σ H Q0 ∧ ∀ σ1 H1, Q0 σ1 H1 → Q σ1 H1
def monT (t : TT) : TT := fun σ H Q => ∃ Q0 : Bool → Hp → Prop, t σ H Q0 ∧ ∀ b H1, Q0 b H1 → Q b H1
theorem pi_mon {X : Cx} {g e : Expr} {t : TI} (h : PI X g e t) : PI X g e (monI t) := ⟨fun pins s σ H R I ⟨R0, q, i⟩ =>
  thn (h.run pins s σ H R0 I q) fun v s1 h1 => thn h1 fun u s2 ⟨it, fp, tn, J, H', a1, a2, a3, a4, a5, a6⟩ => ⟨it, fp, tn, J, H', a1, a2, a3, a4, a5, i _ _ a6⟩⟩
theorem pg_mon {X : Cx} {g : Expr} {t : TG} (h : PG X g t) : PG X g (monG t) := ⟨fun pins s σ H v u Q I r ⟨Q0, q, i⟩ =>
  thn (h.run pins s σ H v u Q0 I r q) fun _ s1 ⟨σ', H', a, b⟩ => ⟨σ', H', a, i _ _ b⟩⟩
theorem pts_mon {X : Cx} {es : List Expr} {t : TT} (h : PTs X es t) : PTs X es (monT t) := ⟨fun pins s σ H Q I ⟨Q0, q, i⟩ =>
  thn (h.run pins s σ H Q0 I q) fun b s1 ⟨H', a, c⟩ => ⟨H', a, i _ _ c⟩⟩
/-- [te for g in wi if tt]: W by the turn, a measure, the list so far -/
def tLcz (wi : TI) (g : TG) (tt : TT) (te : TE) (vs : List Nat) : TE := fun σ H Q => wi σ H fun J H1 => ∀ D, H1 D = none → ∃ W : Nat → Nat → List V → Hp → Prop, (∃ m, ∀ H2, Nw H1 D (.lst []) H2 → W 0 m [] H2) ∧
  ∀ i m acc H, H D = some (.lst acc) → W i m acc H → (J.stop i H ∧ Q (.ref D) H) ∨
    (acc.length < sizeLine ∧ J.go i H ∧ ∃ Nx : List V → Hp → Prop, (∀ a' H', Nx a' H' → ∃ m', m' < m ∧ W (i + 1) m' a' H') ∧ ∀ x H', J.yld i H x H' → g x (wipe σ vs) H' fun σ2 H2 => wipe σ2 vs = wipe σ vs ∧ tt σ2 H2 fun b H3 =>
      if b = true then te σ2 H3 fun y H4 => H4 D = some (.lst acc) ∧ ∀ H5, Wr H4 D (.lst (acc ++ [y])) H5 → Nx (acc ++ [y]) H5 else H3 D = some (.lst acc) ∧ Nx acc H3)
theorem tLcz_of {wi : TI} {g : TG} {tt : TT} {te : TE} {vs : List Nat} {σ : L2.St} {H : Hp} {Q : VK} (h : tLcz wi g tt te vs σ H Q) : tLc (monI wi) (monG g) (monT tt) (mon te) vs σ H Q := by
  refine ⟨_, h, fun J H1 h1 D hD => ?_⟩
  obtain ⟨W, ⟨m, w0⟩, step⟩ := h1 D hD
  refine ⟨fun i m H => ∃ acc, H D = some (.lst acc) ∧ W i m acc H, ⟨m, [], upd_same, w0 _ (nw hD)⟩, ?_⟩
  rintro i m H ⟨acc, hacc, w⟩
  rcases step i m acc H hacc w with q | ⟨hz, go, Nx, hN, body⟩
  · exact .inl q
  · refine .inr ⟨go, fun H' => ∃ acc, H' D = some (.lst acc) ∧ Nx acc H', fun H' ⟨a', e, n⟩ => ?_, fun x H' y => ?_⟩
    · obtain ⟨m', l, w'⟩ := hN a' H' n
      exact ⟨m', l, a', e, w'⟩
    · refine ⟨_, body x H' y, fun σ2 H2 ⟨e, h2⟩ => ⟨e, _, h2, fun b H3 h3 => ?_⟩⟩
      cases b with
      | true =>
        rw [if_pos rfl] at h3 ⊢
        exact ⟨_, h3, fun z H4 h4 => ⟨acc, h4.1, hz, _, upd_same, h4.2 _ wr⟩⟩
      | false =>
        rw [if_neg Bool.false_ne_true] at h3 ⊢
        exact ⟨acc, h3.1, h3.2⟩
theorem pe_lcz {X : Cx} {elt tg iter : Expr} {ifs : List Expr} {scope : Scope} {own : List (Str × Nat)} {pos : Pos} {wi : TI} {g : TG} {tt : TT} {te : TE} (hc : X.calm = true) (hN : X.N.Nodup) (hi : PI X tg iter wi) (ok : BlkOk X.N X.env.scope scope own)
    (hg : ∀ (s : Shared) (H : Hp) (C : Addr) (cl : List (Str × Addr)) (fp : List Addr), PG (X.blk s H scope (compEnvC scope cl C X.env) fp) tg g) (ht : ∀ (s : Shared) (H : Hp) (C : Addr) (cl : List (Str × Addr)) (fp : List Addr), PTs (X.blk s H scope (compEnvC scope cl C X.env) fp) ifs tt)
    (he : ∀ (s : Shared) (H : Hp) (C : Addr) (cl : List (Str × Addr)) (fp : List Addr), PE (X.blk s H scope (compEnvC scope cl C X.env) fp) elt te) (hs : ∀ x, foldedSetIterable iter X.env x = pure x := by intro _; rfl) :
    PE X (.ListComp elt [⟨tg, iter, ifs, 0⟩] scope pos) (tLcz wi g tt te (own.map (·.2))) :=
  pe_w (pe_lc hc hN (pi_mon hi) ok (fun s H C cl fp => pg_mon (hg s H C cl fp)) (fun s H C cl fp => pts_mon (ht s H C cl fp)) (fun s H C cl fp => pe_mon (he s H C cl fp)) hs) fun σ H Q h => tLcz_of h
theorem ps_setLcz {X : Cx} {i : Nat} {y : Str} {py : Pos} {elt tg iter : Expr} {ifs : List Expr} {scope : Scope} {own : List (Str × Nat)} {pos spos : Pos} {wi : TI} {g : TG} {tt : TT} {te : TE} (hc : X.calm = true) (hN : X.N.Nodup) (hy : X.N[i]? = some y) (hyl : X.env.scope.names.lookup y = some .local)
    (hsw : swapsWith (.ListComp elt [⟨tg, iter, ifs, 0⟩] scope pos) (some (.Name y py)) spos.line X.env = pure true) (hi : PI X tg iter wi) (ok : BlkOk X.N X.env.scope scope own)
    (hg : ∀ (s : Shared) (H : Hp) (C : Addr) (cl : List (Str × Addr)) (fp : List Addr), PG (X.blk s H scope (compEnvC scope cl C X.env) fp) tg g) (ht : ∀ (s : Shared) (H : Hp) (C : Addr) (cl : List (Str × Addr)) (fp : List Addr), PTs (X.blk s H scope (compEnvC scope cl C X.env) fp) ifs tt)
    (he : ∀ (s : Shared) (H : Hp) (C : Addr) (cl : List (Str × Addr)) (fp : List Addr), PE (X.blk s H scope (compEnvC scope cl C X.env) fp) elt te) (hs : ∀ x, foldedSetIterable iter X.env x = pure x := by intro _; rfl) :
    PS X (.Assign [.Name y py] (.ListComp elt [⟨tg, iter, ifs, 0⟩] scope pos) spos) (tAsg (tLcz wi g tt te (own.map (·.2))) (gName i)) :=
  ps_w (ps_setLc hc hN hy hyl hsw (pi_mon hi) ok (fun s H C cl fp => pg_mon (hg s H C cl fp)) (fun s H C cl fp => pts_mon (ht s H C cl fp)) (fun s H C cl fp => pe_mon (he s H C cl fp)) hs) fun D σ H h => tLcz_of h
/-- a comprehension over known items: the invariant by the turn and the list so far -/
theorem lc_w {J : It} {items : List V} {S : Hp → Prop} (wk : Wk J items S) (hz : items.length ≤ 1000000) {g : TG} {tt : TT} {te : TE} {vs : List Nat} {σ : L2.St} {H1 : Hp} {D : Addr} {Qd : Hp → Prop} (Pv : Nat → List V → Hp → Prop) (h0 : ∀ H2, Nw H1 D (.lst []) H2 → Pv 0 [] H2)
    (hS : ∀ i acc H, Pv i acc H → S H) (hL : ∀ i acc H, Pv i acc H → acc.length ≤ i)
    (hs : ∀ i x acc H, items[i]? = some x → H D = some (.lst acc) → Pv i acc H → g x (wipe σ vs) H fun σ2 H2 => wipe σ2 vs = wipe σ vs ∧ tt σ2 H2 fun b H3 =>
      if b = true then te σ2 H3 fun y H4 => H4 D = some (.lst acc) ∧ ∀ H5, Wr H4 D (.lst (acc ++ [y])) H5 → Pv (i + 1) (acc ++ [y]) H5 else H3 D = some (.lst acc) ∧ Pv (i + 1) acc H3)
    (hd : ∀ acc H, acc.length ≤ items.length → H D = some (.lst acc) → Pv items.length acc H → Qd H) :
    ∃ W : Nat → Nat → List V → Hp → Prop, (∃ m, ∀ H2, Nw H1 D (.lst []) H2 → W 0 m [] H2) ∧
  ∀ i m acc H, H D = some (.lst acc) → W i m acc H → (J.stop i H ∧ Qd H) ∨
    (acc.length < sizeLine ∧ J.go i H ∧ ∃ Nx : List V → Hp → Prop, (∀ a' H', Nx a' H' → ∃ m', m' < m ∧ W (i + 1) m' a' H') ∧ ∀ x H', J.yld i H x H' → g x (wipe σ vs) H' fun σ2 H2 => wipe σ2 vs = wipe σ vs ∧ tt σ2 H2 fun b H3 =>
      if b = true then te σ2 H3 fun y H4 => H4 D = some (.lst acc) ∧ ∀ H5, Wr H4 D (.lst (acc ++ [y])) H5 → Nx (acc ++ [y]) H5 else H3 D = some (.lst acc) ∧ Nx acc H3) := by
  have hs1 : 1000000 < sizeLine := by decide
  -- the list is never longer than the turns done
  refine ⟨fun i m acc H => m = items.length - i ∧ i ≤ items.length ∧ Pv i acc H, ⟨items.length, fun H2 n => ⟨by omega, Nat.zero_le _, h0 H2 n⟩⟩, ?_⟩
  rintro i m acc H hacc ⟨rfl, hi, p⟩
  have hl := hL i acc H p
  have s := hS i acc H p
  rcases Nat.lt_or_ge i items.length with hlt | hge
  · refine .inr ⟨by omega, wk.go i H s hlt, Pv (i + 1), fun a' H' p' => ⟨items.length - (i + 1), by omega, rfl, hlt, p'⟩, fun x H' y => ?_⟩
    obtain ⟨rfl, hx⟩ := wk.yld i H x H' s hlt y
    exact hs i x acc _ hx hacc p
  · have e : i = items.length := Nat.le_antisymm hi hge
    subst e
    exact .inl ⟨wk.stop H s, hd acc H hl hacc p⟩

/-! ### constants of the module, permutations -/
theorem pe_gk {X : Cx} {x : Str} {v : V} {pos : Pos} (h : ∃ u, X.mg x = some u ∧ RelV v u) (hg : Gl X x := by rfl) (hd : (x == ("__debug__" : Str)) = false := by decide) : PE X (.Name x pos) (tC v) := by
  obtain ⟨u, hm, r⟩ := h
  exact pe_glob hg hm r hd
def zNeg : V → Hp → VK → Prop := fun x H Q => match x with
  | .int i => Q (.int (-i)) H
  | _ => False
theorem un_negZ {X : Cx} : UnR X (unaryOp .USub) zNeg :=
  fun pins s σ H x v Q I r h => by
    unfold zNeg at h
    split at h
    · exact un_neg pins s σ H _ v Q I r ⟨_, rfl, h⟩
    · exact h.elim
def perm_0 {α : Type} (l : List α) : List α := l
theorem perm_0_ok {zs : List V} {ws : List Value} (r : Vals zs ws) : Vals (perm_0 zs) (perm_0 ws) := r
def perm_1_0 {α : Type} : List α → List α
  | [a, b] => [b, a]
  | _ => []
theorem perm_1_0_ok {zs : List V} {ws : List Value} (r : Vals zs ws) : Vals (perm_1_0 zs) (perm_1_0 ws) := by
  match zs, ws, r with
  | [], [], _ => exact .nil
  | [_], [_], _ => exact .nil
  | [_, _], [_, _], .cons a (.cons b .nil) => exact .cons b (.cons a .nil)
  | _ :: _ :: _ :: _, _ :: _ :: _ :: _, _ => exact .nil

/-! ### the same rules over the written part by its own name (a block's rules must not speak of the block) -/
section
variable {X : Cx} (K : PySem.W.Frag)
theorem k_add (hK : X.K = K := by rfl) : OpR X (binaryOp .Add) (zAdd K) := hK ▸ o_add
theorem k_eq (hu : X.A.units + 64 < cLine) (hK : X.K = K := by rfl) : OpR X (compareOp .Eq) (zEq K false) := hK ▸ o_eq hu
theorem k_ne (hu : X.A.units + 64 < cLine) (hK : X.K = K := by rfl) : OpR X (compareOp .NotEq) (zEq K true) := hK ▸ o_ne hu
theorem k_in (hK : X.K = K := by rfl) : OpR X (compareOp .In) (zIn K false) := hK ▸ o_in
theorem k_nin (hK : X.K = K := by rfl) : OpR X (compareOp .NotIn) (zIn K true) := hK ▸ o_nin
theorem k_ix (hK : X.K = K := by rfl) : IxR X (zIx K) := hK ▸ o_ix
theorem k_sl (hK : X.K = K := by rfl) : SlR X (zSl K) := hK ▸ o_sl
theorem k_len (hK : X.K = K := by rfl) : CallR X (.builtin "len") (zLen K) := hK ▸ c_len
theorem k_sum (hc : X.calm = true) (hK : X.K = K := by rfl) : CallR X (.builtin "sum") (zSum K) := hK ▸ c_sum hc
theorem k_all (hc : X.calm = true) (hK : X.K = K := by rfl) : CallR X (.builtin "all") (zAll K) := hK ▸ c_all hc
theorem k_list (hK : X.K = K := by rfl) : CallR X (.type "list") (zList K) := hK ▸ c_list
theorem k_tuple (hK : X.K = K := by rfl) : CallR X (.type "tuple") (zTuple K) := hK ▸ c_tuple
theorem k_isi (hK : X.K = K := by rfl) : CallR X (.builtin "isinstance") (zIsi K) := hK ▸ c_isi
theorem mk_join (hK : X.K = K := by rfl) : MtR X "str.join" (ofS (zJoin K)) := hK ▸ m_join
theorem pt_trK {a : Expr} {ta : TE} (h : PE X a ta) (hK : X.K = K := by rfl) (he : ∀ whole, isTrue a X.env whole = (do let v ← whole; standAt a.pos; holding [v] (truthy v)) := by intro _; rfl) : PT X a (tTr K ta) := hK ▸ pt_tr h he
theorem pi_lzK {tg e : Expr} {te : TE} (h : PE X e te) (hK : X.K = K := by rfl) : PI X tg e (tItL K te) := hK ▸ pi_lz h
theorem pi_tzK {tg e : Expr} {te : TE} (h : PE X e te) (hK : X.K = K := by rfl) : PI X tg e (tItT K te) := hK ▸ pi_tz h
theorem pg_tzK {es : List Expr} {k : Nat} {pos : Pos} {t : TGs} {n : Nat} (hc : X.calm = true) (h : PGs X es t) (hK : X.K = K := by rfl) (hn : (assignEach es X.env).length = n := by rfl) (hst : (assignEach es X.env).findIdx? (·.1) = none := by rfl) : PG X (.Tuple es k pos) (gTz K n t) :=
  hK ▸ pg_tz hc h hn hst
theorem pe_mlK {e o : Expr} {es : List Expr} {to : TE} {t : TA} {name : Str} {apos cpos : Pos} {id : String} {r : Addr → List V → Hp → VK → Prop} (slot : Slot "list" name id) (hty : typeOf (.builtin id) = pure (.type "method_descriptor")) (hm : MtR X id (ofL r)) (ho : PE X o to) (ha : PA X (e :: es) t)
    (hK : X.K = K := by rfl) (hbase : attributeBase o name X.env (eval o X.env) = eval o X.env := by rfl)
    (hfew : ((backTo cpos (starEach (e :: es) X.env)).all (fun x => !x.1) && (backToKw cpos (keywordEach [] X.env)).all (fun x => x.1.isSome)
      && decide ((e :: es).length + ([] : List Keyword).length + (if ([] : List Keyword).isEmpty then 0 else 1) < 30)) = true := by rfl)
    (hline : (apos.endLine == cpos.line) = true := by rfl) (hs : starEach (e :: es) X.env = (false, eval e X.env) :: starEach es X.env := by rfl) (hplain : (backTo cpos (starEach es X.env)).any (·.1) = false := by rfl) :
    PE X (.Call (.Attribute o name apos) (e :: es) [] cpos) (tMl K r to t) := hK ▸ pe_ml slot hty hm ho ha hbase hfew hline hs hplain
end

/-! ### items at a place -/
theorem atI_some {α : Type} {xs : List α} {r : Int} (h0 : 0 ≤ r) (h : r < (xs.length : Int)) : ∃ v, atI xs r = some v ∧ v ∈ xs ∧ xs[r.toNat]? = some v := by
  have hl : r.toNat < xs.length := by omega
  have q := atI_nat (List.getElem?_eq_getElem hl)
  rw [Int.toNat_of_nonneg h0] at q
  exact ⟨xs[r.toNat], q, List.getElem_mem hl, List.getElem?_eq_getElem hl⟩
/-- an int of a written list -/
theorem menuI (ms : List Int) {r : Int} (h0 : 0 ≤ r) (h : r < (ms.length : Int)) : ∃ v, atI (ms.map V.int) r = some (.int v) ∧ v ∈ ms := by
  obtain ⟨v, h1, h2, _⟩ := atI_some (xs := ms.map V.int) h0 (by rw [List.length_map]; exact h)
  obtain ⟨i, hi, rfl⟩ := List.mem_map.mp h2
  exact ⟨i, h1, hi⟩
theorem iteY {c : Bool} {A B : Prop} (h : c = true) (a : A) : if c = true then A else B := by
  rw [if_pos h]
  exact a
theorem iteN {c : Bool} {A B : Prop} (h : c = false) (b : B) : if c = true then A else B := by
  rw [if_neg (by rw [h]; exact Bool.false_ne_true)]
  exact b
/-- one of two walks -/
def tIor (a b : TI) : TI := fun σ H R => a σ H R ∨ b σ H R
theorem pi_or {X : Cx} {tg e : Expr} {a b : TI} (ha : PI X tg e a) (hb : PI X tg e b) : PI X tg e (tIor a b) := ⟨fun pins s σ H R I h => by
  rcases h with h | h
  · exact ha.run pins s σ H R I h
  · exact hb.run pins s σ H R I h⟩
theorem dT {p : Prop} [Decidable p] (h : decide p = true) : p := of_decide_eq_true h
theorem dF {p : Prop} [Decidable p] (h : ¬ decide p = true) : ¬ p := fun q => h (decide_eq_true q)
theorem signsV_len (x : Str) : (signsV x).length = x.length := by
  rw [signsV, List.length_map, Array.length_toList]
  rfl
theorem signsV_at {x : Str} {i : Nat} {v : V} (h : (signsV x)[i]? = some v) : ∃ c, x.cps.toList[i]? = some c ∧ v = signV c := by
  rw [signsV, List.getElem?_map] at h
  cases e : x.cps.toList[i]? with
  | none => rw [e] at h; cases h
  | some c =>
    rw [e] at h
    exact ⟨c, rfl, (Option.some.inj h).symm⟩

/-! ### the end -/
section
variable {P : Program} {w : World} {K : PySem.W.Frag} {mg : Str → Option Value} {base : Heap}
theorem df_mk {h : Heap} (X : K.In h) (G : h.Ns mainGlobals mg) {x : Str} {st : Stmt} {ps : List Str} {f : Addr} {oc : Value} {od an : Option Addr} {osl : Array (Option Value)} {kV doc pm cdv ct : Value} (a : PySem.W.nsIn K mainGlobals x = some (some (.ref f)))
    (l : K.lookup f = some ⟨oc, od, .func (PySem.W.fnOf x x (defArgs st) (defBody st) (defScope st) .none kV doc pm an cdv ct), osl⟩) (c : PySem.W.codeIn K cdv x = true) (k : PySem.W.keepIn K (.ref f) = true)
    (b : ∀ (kV doc pm : Value) (an : Option Addr) (cdv ct : Value) (us : List Value), us.length = ps.length → bindArgs (PySem.W.fnOf x x (defArgs st) (defBody st) (defScope st) .none kV doc pm an cdv ct) ⟨us, []⟩ = pure (ps.zip us)) : Df K mg x st ps :=
  ⟨f, _, fun_mk l c k, PySem.W.mg_of X G a, (fun_mk l c k).binds b⟩
theorem law_fn {CX : CXT} {k : Nat} {x : Str} {ps : List Str} {sp : Sp} {fa : Addr} {fd : FuncData} {oc : Value} {od : Option Addr} {osl : Array (Option Value)} (C : Ct P w K mg base CX k x ps sp) (hfa : mg x = some (.ref fa))
    (l : K.lookup fa = some ⟨oc, od, .func fd, osl⟩) : FnOk P w K mg base CX k fa fd ps sp := by
  obtain ⟨f, fd', hm, _, _, F, oc', od', osl', hl⟩ := C.ex
  have e : f = fa := by
    rw [hm] at hfa
    cases hfa
    rfl
  subst e
  have e2 : fd' = fd := by
    rw [hl] at l
    cases l
    rfl
  subst e2
  exact F
end
end Z

/-! G: defs that call repr: what the room says of the guards is known. -/
namespace Z
open PySem PySem.Spec PyProof.Rows L2

/-- room, and nothing is being shown -/
structure RoomG (k : Nat) (A : Around) : Prop where
  room : Room k A
  free : A.guards = some []
theorem RoomG.mono {j k : Nat} {A : Around} (r : RoomG k A) (h : j ≤ k) : RoomG j A := ⟨r.room.mono h, r.free⟩
theorem RoomG.down {k : Nat} {A : Around} (r : RoomG (k + 1) A) (env : Env) : RoomG k (A.deeper env) := ⟨r.room.deeper env, r.free⟩
/-- one call of a def, at one place -/
theorem one_call {CX : CXT} {P : Program} {w : World} {K : PySem.W.Frag} {mg : Str → Option Value} {base : Heap} {k : Nat} {x qual : Str} {st : Stmt} {f : Addr} {fd : FuncData} {N ps : List Str} (F : Fun K x qual st f fd) (S : FnScope N ps (defScope st))
    {A : Around} {outer : List Env} {s : Shared} {H : Hp} {args : Args} {us : List Value} {vs : List V} {Q : VK} {E : XK} (hr : Room (k + 1) A) (e0 : Env0 P w K mg base A outer s H) (hb : BindsTo s fd args (ps.zip us)) (r : Vals vs us) (hl : vs.length = ps.length)
    (body : ∀ cdv : Value, ∃ t, PSs (cxOf CX P w K mg base N qual (defScope st) f cdv A outer s H E) (defBody st) t ∧ t { nx := fun _ H' => Q .non H', rt := Q } (start N vs) H) :
    codeAny (model P w) A (.call (.ref f) args) (CR CX outer P w H s Q E) s := by
  obtain ⟨oc, od, kV, doc, pm, an, cdv, ct, osl, e, lk, hcd⟩ := F.ex
  subst e
  obtain ⟨t, ht, hq⟩ := body cdv
  have grow : ∀ b o, base.get? b = some o → s.heap.get? b = some o := fun b o q => (e0.bs b o q).1
  have inK := e0.mod.kin.keeps grow
  have seen : ∀ y ∈ ps.zip us, (defScope st).names.lookup y.1 = some .local ∨ ((defScope st).names.lookup y.1 = some .cell ∧ ((cellsFrom (s.heap.objs.size + 1) (defScope st).names []).lookup y.1).isSome = true) := by
    intro y hy
    exact (S.par y.1 (List.of_mem_zip (a := y.1) (b := y.2) hy).1).imp_right fun q => ⟨q, PySem.W.cellsFrom_some _ _ _ (.inl q)⟩
  apply codeAny_call_function hr.depth (inK _ _ lk) rfl S.co S.gen rfl (PySem.W.codeRec_of inK hcd)
  apply hb
  apply wpAny_newFunctionEnv_cells S.kind seen
  rintro env rfl s1 x1
  refine And.intro ((e0.mod.nolimit.keeps grow).keeps x1.toInCall.keep) (codeAny_func ?_)
  have I := inv_start (CX := CX) (E := E) S hr.hd e0 hl r x1
  refine wpAny_mono (ht.run [] s1 (start N vs) H _ I hq) ?_ (fun _ _ z => z)
  have out : ∀ (s' : Shared) (σ' : L2.St) (H' : Hp) (v : V) (u : Value), Inv (cxOf CX P w K mg base N qual (defScope st) f cdv A outer s H E) [] σ' H' s' → RelV v u → Q v H' → CE outer P w H s Q u s' :=
    fun s' σ' H' v u J rv z => ⟨v, H', J.os, J.bare, J.base, J.hok, rv, z⟩
  intro fl s' hs
  match fl, hs with
  | .ret u, ⟨v, σ', H', J, rv, z⟩ => exact out s' σ' H' v u J rv z
  | .next, ⟨σ', H', J, z⟩ => exact out s' σ' H' .non .none J rfl z
  | .brk, ⟨_, _, _, z⟩ => exact z.elim
  | .cont, ⟨_, _, _, z⟩ => exact z.elim
/-- a def's promise where nothing is being shown -/
structure FnG (P : Program) (w : World) (K : PySem.W.Frag) (mg : Str → Option Value) (base : Heap) (CX : CXT) (k : Nat) (f : Addr) (fd : FuncData) (ps : List Str) (sp : Sp) : Prop where
  many : ∀ vs H Q E, sp vs H Q E → vs.length = ps.length
  call : ∀ (A : Around) (outer : List Env) (s : Shared) (H : Hp) (args : Args) (us : List Value) (vs : List V) (Q : VK) (E : XK), RoomG k A → Env0 P w K mg base A outer s H → BindsTo s fd args (ps.zip us) → Vals vs us → sp vs H Q E →
    codeAny (model P w) A (.call (.ref f) args) (CR CX outer P w H s Q E) s
structure Cg (P : Program) (w : World) (K : PySem.W.Frag) (mg : Str → Option Value) (base : Heap) (CX : CXT) (k : Nat) (x : Str) (ps : List Str) (sp : Sp) : Prop where
  ex : ∃ f fd, mg x = some (.ref f) ∧ PySem.W.keepIn K (.ref f) = true ∧ Binds K fd ps [] ∧ FnG P w K mg base CX k f fd ps sp ∧ ∃ oc od osl, K.lookup f = some ⟨oc, od, .func fd, osl⟩
theorem Ct.g {P : Program} {w : World} {K : PySem.W.Frag} {mg : Str → Option Value} {base : Heap} {CX : CXT} {k : Nat} {x : Str} {ps : List Str} {sp : Sp} (C : Ct P w K mg base CX k x ps sp) : Cg P w K mg base CX k x ps sp := by
  obtain ⟨f, fd, a, b, c, F, d⟩ := C.ex
  exact ⟨f, fd, a, b, c, ⟨F.len, fun A outer s H args us vs Q E r => F.run A outer s H args us vs Q E r.room⟩, d⟩
section
variable {X : Cx} {CX : CXT} {k : Nat} {x : Str} {ps : List Str} {sp : Sp} {E : XK} {p pos : Pos} {e : Expr} {es : List Expr} {t : TA}
/-- the callee runs -/
theorem fng_at {f : Addr} {fd : FuncData} {pins : List (Addr × Obj)} {σ : L2.St} {H : Hp} {s : Shared} {Q : VK} {us : List Value} {vs : List V} (F : FnG X.prog X.w X.K X.mg X.base CX k f fd ps sp) (hr : RoomG k X.A) (hb : Binds X.K fd ps []) (hx : Passes CX X E)
    (I : Inv X pins σ H s) (r : Vals vs us) (h : sp vs H Q E) : wpAny (model X.prog X.w) X.A (call (.ref f) us) (EP X pins σ Q) X.xe s := by
  have hl : us.length = ps.length := r.length.symm.trans (F.many _ _ _ _ h)
  have b := hb s us I.kIn (by simpa using hl)
  rw [List.append_nil] at b
  refine wpAny_call (codeAny_mono (F.call X.A X.stack s H ⟨us, []⟩ us vs Q E hr I.env0 b r h) ?_)
  intro r s' hq
  match r, hq with
  | .error e, hq => exact hx pins σ H s e s' I hq
  | .ok (.ret u), hq => exact I.after hq
  | .ok .next, hq => exact False.elim hq
  | .ok .brk, hq => exact False.elim hq
  | .ok .cont, hq => exact False.elim hq
theorem pe_cg (C : Cg X.prog X.w X.K X.mg X.base CX k x ps sp) (hr : RoomG k X.A) (hx : Passes CX X E) (ha : PA X (e :: es) t) (hg : Gl X x := by rfl)
    (hdb : (x == ("__debug__" : Str)) = false := by decide)
    (he : starEach (e :: es) X.env = (false, eval e X.env) :: starEach es X.env := by rfl) (hpl : (backTo pos (starEach es X.env)).any (·.1) = false := by rfl) : PE X (.Call (.Name x p) (e :: es) [] pos) (tCl sp E t) := by
  obtain ⟨f, fd, hm, hk, hb, F, _⟩ := C.ex
  exact ⟨fun pins s σ H Q I h => wpAny_Call_Name_kw (ld_glob I hg hm (PySem.W.callWith_K (h₀ := X.base) I.ok.mod.kin hk (thn (ha.run pos pins s σ H _ I h) fun us s1 ⟨vs, H1, I1, r, q⟩ => ⟨I1.kIn, fng_at F hr hb hx I1 r q⟩) he hpl) hdb)⟩
end
section
variable {P : Program} {w : World} {K : PySem.W.Frag} {mg : Str → Option Value} {base : Heap}
theorem fng {x : Str} {st : Stmt} {f : Addr} {fd : FuncData} {N ps : List Str} {k : Nat} {sp : Sp} (F : Fun K x x st f fd) (S : FnScope N ps (defScope st)) (len : ∀ vs H Q E, sp vs H Q E → vs.length = ps.length)
    (body : ∀ (cdv : Value) (A : Around) (outer : List Env) (s : Shared) (H : Hp) (vs : List V) (Q : VK) (E : XK), RoomG k (A.deeper (envOfC x (defScope st) s.heap.objs.size f cdv)) → sp vs H Q E →
      ∃ t, PSs (cxOf CX0 P w K mg base N x (defScope st) f cdv A outer s H E).nox (defBody st) t ∧ t { nx := fun _ H' => Q .non H', rt := Q } (start N vs) H) : FnG P w K mg base CX0 (k + 1) f fd ps sp :=
  ⟨len, fun A outer s H args us vs Q E hr e0 hb r h => one_call F S hr.room e0 hb r (len _ _ _ _ h) fun cdv => by
    obtain ⟨t, a, b⟩ := body cdv A outer s H vs Q E (hr.down _) h
    exact ⟨t, a.nox, b⟩⟩
theorem cg0 {x : Str} {st : Stmt} {N : List Str} {k : Nat} {p : Hp → VK → XK → Prop} (D : Df K mg x st []) (S : FnScope N [] (defScope st))
    (body : ∀ (f : Addr) (cdv : Value) (A : Around) (outer : List Env) (s : Shared) (H : Hp) (Q : VK) (E : XK), RoomG k (A.deeper (envOfC x (defScope st) s.heap.objs.size f cdv)) → p H Q E →
      ∃ t, PSs (cxOf CX0 P w K mg base N x (defScope st) f cdv A outer s H E).nox (defBody st) t ∧ t { nx := fun _ H' => Q .non H', rt := Q } (start N []) H) : Cg P w K mg base CX0 (k + 1) x [] (fun vs H Q E => vs = [] ∧ p H Q E) := by
  obtain ⟨f, fd, F, hm, hb⟩ := D.ex
  refine ⟨f, fd, hm, F.kp, hb, fng F S (fun vs H Q E h => by rw [h.1]; rfl) (fun cdv A outer s H vs Q E hr h => ?_), fun_at F⟩
  obtain ⟨rfl, h⟩ := h
  exact body f cdv A outer s H Q E hr h
theorem cg1 {x : Str} {st : Stmt} {a : Str} {N : List Str} {k : Nat} {p : V → Hp → VK → XK → Prop} (D : Df K mg x st [a]) (S : FnScope N [a] (defScope st))
    (body : ∀ (f : Addr) (cdv : Value) (A : Around) (outer : List Env) (s : Shared) (H : Hp) (u : V) (Q : VK) (E : XK), RoomG k (A.deeper (envOfC x (defScope st) s.heap.objs.size f cdv)) → p u H Q E →
      ∃ t, PSs (cxOf CX0 P w K mg base N x (defScope st) f cdv A outer s H E).nox (defBody st) t ∧ t { nx := fun _ H' => Q .non H', rt := Q } (start N [u]) H) : Cg P w K mg base CX0 (k + 1) x [a] (sp1 p) := by
  obtain ⟨f, fd, F, hm, hb⟩ := D.ex
  refine ⟨f, fd, hm, F.kp, hb, fng F S (fun vs H Q E h => ?_) (fun cdv A outer s H vs Q E hr h => ?_), fun_at F⟩
  · obtain ⟨u, rfl, _⟩ := sp1_of h
    rfl
  · obtain ⟨u, rfl, h⟩ := sp1_of h
    exact body f cdv A outer s H u Q E hr h
theorem cg2 {x : Str} {st : Stmt} {a b : Str} {N : List Str} {k : Nat} {p : V → V → Hp → VK → XK → Prop} (D : Df K mg x st [a, b]) (S : FnScope N [a, b] (defScope st))
    (body : ∀ (f : Addr) (cdv : Value) (A : Around) (outer : List Env) (s : Shared) (H : Hp) (u v : V) (Q : VK) (E : XK), RoomG k (A.deeper (envOfC x (defScope st) s.heap.objs.size f cdv)) → p u v H Q E →
      ∃ t, PSs (cxOf CX0 P w K mg base N x (defScope st) f cdv A outer s H E).nox (defBody st) t ∧ t { nx := fun _ H' => Q .non H', rt := Q } (start N [u, v]) H) : Cg P w K mg base CX0 (k + 1) x [a, b] (sp2 p) := by
  obtain ⟨f, fd, F, hm, hb⟩ := D.ex
  refine ⟨f, fd, hm, F.kp, hb, fng F S (fun vs H Q E h => ?_) (fun cdv A outer s H vs Q E hr h => ?_), fun_at F⟩
  · obtain ⟨u, v, rfl, _⟩ := sp2_of h
    rfl
  · obtain ⟨u, v, rfl, h⟩ := sp2_of h
    exact body f cdv A outer s H u v Q E hr h
theorem cg3 {x : Str} {st : Stmt} {a b c : Str} {N : List Str} {k : Nat} {p : V → V → V → Hp → VK → XK → Prop} (D : Df K mg x st [a, b, c]) (S : FnScope N [a, b, c] (defScope st))
    (body : ∀ (f : Addr) (cdv : Value) (A : Around) (outer : List Env) (s : Shared) (H : Hp) (u v v3 : V) (Q : VK) (E : XK), RoomG k (A.deeper (envOfC x (defScope st) s.heap.objs.size f cdv)) → p u v v3 H Q E →
      ∃ t, PSs (cxOf CX0 P w K mg base N x (defScope st) f cdv A outer s H E).nox (defBody st) t ∧ t { nx := fun _ H' => Q .non H', rt := Q } (start N [u, v, v3]) H) : Cg P w K mg base CX0 (k + 1) x [a, b, c] (sp3 p) := by
  obtain ⟨f, fd, F, hm, hb⟩ := D.ex
  refine ⟨f, fd, hm, F.kp, hb, fng F S (fun vs H Q E h => ?_) (fun cdv A outer s H vs Q E hr h => ?_), fun_at F⟩
  · obtain ⟨u, v, v3, rfl, _⟩ := sp3_of h
    rfl
  · obtain ⟨u, v, v3, rfl, h⟩ := sp3_of h
    exact body f cdv A outer s H u v v3 Q E hr h
end
end Z

/-! D: data with dicts, as it stands in the abstract heap; repr. -/
namespace Z
open PySem PySem.Spec PyProof.V PyProof.Rows L2

def keyD : Key → PyData
  | .inl i => .int i
  | .inr x => .str x
mutual
/-- a value as data; g: the lists do not lie where the modules do (what is asked where a dict is shown, too) -/
inductive Dz (g : Bool) (H : Hp) : V → PyData → Prop
  | non : Dz g H .non .none
  | bl (b : Bool) : Dz g H (.bl b) (.bool b)
  | int (i : Int) : Dz g H (.int i) (.int i)
  | str (x : Str) : Dz g H (.str x) (.str x)
  | lst {a : Addr} {xs : List V} {ds : List PyData} : H a = some (.lst xs) → (g = true → a ≠ sysModules) → DzAll g H xs ds → Dz g H (.ref a) (.list ds)
  | tup {a : Addr} {xs : List V} {ds : List PyData} : H a = some (.tup xs) → DzAll g H xs ds → Dz g H (.ref a) (.tuple ds)
  | dic {a : Addr} {kvs : List (Key × V)} {D : List (PyData × PyData)} : H a = some (.dK kvs) → DzKv g H kvs D → Dz g H (.ref a) (.dict D)
inductive DzAll (g : Bool) (H : Hp) : List V → List PyData → Prop
  | nil : DzAll g H [] []
  | cons {v : V} {vs : List V} {d : PyData} {ds : List PyData} : Dz g H v d → DzAll g H vs ds → DzAll g H (v :: vs) (d :: ds)
inductive DzKv (g : Bool) (H : Hp) : List (Key × V) → List (PyData × PyData) → Prop
  | nil : DzKv g H [] []
  | cons {k : Key} {v : V} {kvs : List (Key × V)} {d : PyData} {D : List (PyData × PyData)} : Dz g H v d → DzKv g H kvs D → DzKv g H ((k, v) :: kvs) ((keyD k, d) :: D)
end
mutual
theorem Dz.same {g : Bool} {H H2 : Hp} (s : Same H H2) : ∀ {v : V} {d : PyData}, Dz g H v d → Dz g H2 v d
  | _, _, .non => .non
  | _, _, .bl b => .bl b
  | _, _, .int i => .int i
  | _, _, .str x => .str x
  | _, _, .lst h n a => .lst (s _ _ h) n (DzAll.same s a)
  | _, _, .tup h a => .tup (s _ _ h) (DzAll.same s a)
  | _, _, .dic h a => .dic (s _ _ h) (DzKv.same s a)
theorem DzAll.same {g : Bool} {H H2 : Hp} (s : Same H H2) : ∀ {vs : List V} {ds : List PyData}, DzAll g H vs ds → DzAll g H2 vs ds
  | _, _, .nil => .nil
  | _, _, .cons h t => .cons (Dz.same s h) (DzAll.same s t)
theorem DzKv.same {g : Bool} {H H2 : Hp} (s : Same H H2) : ∀ {kvs : List (Key × V)} {D : List (PyData × PyData)}, DzKv g H kvs D → DzKv g H2 kvs D
  | _, _, .nil => .nil
  | _, _, .cons h t => .cons (Dz.same s h) (DzKv.same s t)
end
theorem key_reads {h : Heap} : ∀ (k : Key) (key : Value), keyIs k key = true → Reads h key (keyD k) [] := fun k key e => by
  rcases keyIs_shape e with ⟨i, t, rfl, rfl⟩ | ⟨x, t, rfl, rfl⟩
  · exact .int i t
  · exact .str x t
section
variable {g : Bool} {X : Cx} {pins : List (Addr × Obj)} {σ : L2.St} {H : Hp} {s : Shared}
mutual
theorem Dz.reads (I : Inv X pins σ H s) : ∀ {v : V} {d : PyData} (u : Value), Dz g H v d → RelV v u → ∃ as, Reads s.heap u d as ∧ (g = true → sysModules ∉ as)
  | _, _, u, .non, r => by
    cases r
    exact ⟨_, .none, fun _ => by simp⟩
  | _, _, u, .bl b, r => by
    cases r
    exact ⟨_, .bool b, fun _ => by simp⟩
  | _, _, u, .int i, r => by
    obtain ⟨t, rfl⟩ := r
    exact ⟨_, .int i t, fun _ => by simp⟩
  | _, _, u, .str x, r => by
    obtain ⟨t, rfl⟩ := r
    exact ⟨_, .str x t, fun _ => by simp⟩
  | _, _, u, .lst h n a, r => by
    cases r
    obtain ⟨_, its, m, rv, e⟩ := I.hok _ _ h
    obtain ⟨as, q, w⟩ := DzAll.reads I its a rv
    exact ⟨_, .list e rfl rfl (by simpa using q), fun e => by simp only [List.mem_cons, not_or]; exact ⟨fun z => n e z.symm, w e⟩⟩
  | _, _, u, .tup h a, r => by
    cases r
    obtain ⟨_, its, rv, o, ho, hc, m, hd⟩ := I.hok _ _ h
    obtain ⟨as, q, w⟩ := DzAll.reads I its a rv
    exact ⟨_, .tuple ho hc hd (by simpa using q), w⟩
  | _, _, u, .dic h a, r => by
    cases r
    obtain ⟨_, n, vs, rv, e⟩ := I.hok _ _ h
    obtain ⟨bs, q, w⟩ := DzKv.reads I vs a rv
    exact ⟨_, reads_dictOf key_reads e q, fun e => by simp only [List.mem_cons, not_or]; exact ⟨fun z => by rw [← z] at n; exact absurd n (by decide), w e⟩⟩
theorem DzAll.reads (I : Inv X pins σ H s) : ∀ {vs : List V} {ds : List PyData} (us : List Value), DzAll g H vs ds → Vals vs us → ∃ as, ReadsAll s.heap us ds as ∧ (g = true → sysModules ∉ as)
  | _, _, us, .nil, r => by
    cases r
    exact ⟨_, .nil, fun _ => by simp⟩
  | _, _, us, .cons h t, r => by
    cases r with
    | cons r1 r2 =>
      obtain ⟨as, q1, w1⟩ := Dz.reads I _ h r1
      obtain ⟨bs, q2, w2⟩ := DzAll.reads I _ t r2
      exact ⟨_, .cons q1 q2, fun e z => (List.mem_append.mp z).elim (w1 e) (w2 e)⟩
theorem DzKv.reads (I : Inv X pins σ H s) : ∀ {kvs : List (Key × V)} {D : List (PyData × PyData)} (vs : List (Key × Value)), DzKv g H kvs D → KV kvs vs → ∃ as, PairsRead s.heap keyD vs D as ∧ (g = true → sysModules ∉ as)
  | _, _, vs, .nil, r => by
    cases r
    exact ⟨_, .nil, fun _ => by simp⟩
  | _, _, vs, .cons h t, r => by
    cases r with
    | @cons _ b _ _ r1 r2 =>
      obtain ⟨k, u⟩ := b
      obtain ⟨rfl, r1⟩ := r1
      obtain ⟨as, q1, w1⟩ := Dz.reads I _ h r1
      obtain ⟨bs, q2, w2⟩ := DzKv.reads I _ t r2
      exact ⟨_, .cons q1 q2, fun e z => (List.mem_append.mp z).elim (w1 e) (w2 e)⟩
end
end
/-- repr(x) of data -/
def zRepr : List V → Hp → VK → Prop := fun vs H Q => match vs with
  | [v] => ∃ g d, Dz g H v d ∧ (d.hasDict = true → g = true) ∧ d.showable = true ∧ d.depth ≤ 60 ∧ d.shown.length ≤ sizeLine ∧ Q (.str d.shown) H
  | _ => False
theorem c_repr {X : Cx} {k : Nat} (hr : RoomG k X.A) : CallR X (.builtin "repr") zRepr := by
  intro pins s σ H xs us Q I r h
  unfold zRepr at h
  split at h
  · obtain ⟨g, d, hd, hg, hs, hp, hz, q⟩ := h
    obtain ⟨u, rfl, ru⟩ := vals1 r
    have un := hr.room.un
    obtain ⟨as, rd, w⟩ := Dz.reads I u hd ru
    have keep : ∀ {t : Nat} {h' : Heap}, (∀ b o, s.heap.get? b = some o → h'.get? b = some o) → ∀ t', EP X pins σ Q (.str d.shown t') { s with heap := h', toks := t } := fun hk t' => ⟨.str d.shown, H, I.kept hk, ⟨_, rfl⟩, q⟩
    cases rd with
    | none => exact PySem.P.repr_of_none ⟨.str _, H, I.tok _, ⟨_, rfl⟩, q⟩
    | bool b => exact PySem.P.repr_of_bool ⟨.str _, H, I.tok _, ⟨_, rfl⟩, by cases b <;> exact q⟩
    | int i t => exact PySem.P.repr_of_int (by simpa [PyData.showable] using hs) ⟨.str _, H, I.tok _, ⟨_, rfl⟩, q⟩
    | str x t => exact PySem.P.repr_of_str ⟨.str _, H, I.tok _, ⟨_, rfl⟩, q⟩ hz
    | list a b c e => exact repr_of_reads' (Reads.list a b c e) hs (fun z => w (hg z)) hr.free (by omega) (fun _ _ z => z) (fun h' u tk hk => keep hk _) hz
    | tuple a b c e => exact repr_of_reads' (Reads.tuple a b c e) hs (fun z => w (hg z)) hr.free (by omega) (fun _ _ z => z) (fun h' u tk hk => keep hk _) hz
    | dict a b c e f => exact repr_of_reads' (Reads.dict a b c e f) hs (fun z => w (hg z)) hr.free (by omega) (fun _ _ z => z) (fun h' u tk hk => keep hk _) hz
  · exact h.elim
/-- a list display, not where the modules are -/
def tLzS (t : TA) : TE := fun σ H Q => t σ H fun xs H1 => xs.length ≤ sizeLine ∧ ∀ p H2, Nw H1 p (.lst xs) H2 → p ≠ sysModules → Q (.ref p) H2
theorem pe_lzS {X : Cx} {es : List Expr} {t : TA} {pos : Pos} (h : PA X es t) : PE X (.List es pos) (tLzS t) := by
  constructor
  intro pins s σ H Q I hq
  refine wpAny_List_spliced (thn (h.run pos pins s σ H _ I hq) ?_)
  rintro us s1 ⟨xs, H1, I1, r, z, q⟩
  have free : H1 s1.heap.objs.size = none := I1.hok.fresh (Nat.le_refl _)
  have far : s1.heap.objs.size ≠ sysModules := Nat.ne_of_gt I1.big
  refine ⟨by rw [← r.length]; exact z, .ref _, _, I1.laid (t' := s1.toks) (o := .lst xs) (fun b u e => Heap.get?_push_of_some _ e) (Nat.le_refl _) ⟨z, us, 0, r, Heap.get?_push_size _ rfl⟩, rfl, q _ _ (nw free) far⟩
end Z

/-! E: the end of a law whose def calls repr. -/
namespace Z
open PySem PySem.Spec PyProof.Rows L2

/-- the script alone is tracked, if the object does not know it -/
def scriptH (K : PySem.W.Frag) (a : Addr) (o : Obj) (ns : List Int) : Hp := fun b => if b = a ∧ (K.lookup a).isNone = true then some (.frz o (.lst (ns.map V.int))) else none
theorem scriptH_at {K : PySem.W.Frag} {a b : Addr} {o : Obj} {ns : List Int} {u : HO} (h : scriptH K a o ns b = some u) : b = a ∧ K.lookup a = none ∧ u = .frz o (.lst (ns.map V.int)) := by
  unfold scriptH at h
  split at h
  · rename_i c
    exact ⟨c.1, Option.isNone_iff_eq_none.mp c.2, (Option.some.inj h).symm⟩
  · cases h
theorem walk_g {l : PySem.W.OpenLaw} {n k : Nat} {q : Program} {loose : List Str} {XP : (Str → Option Value) → Heap → Prop} {YP : World → Heap → Prop} {d : DefRec} {K : Params → PySem.W.Frag} {CX : CXT} {sp : World → Sp} {x : Str}
    (hn : l.most = some n) (hn2 : n ≤ sizeLine) (hdf : d.params.defaults = []) (hr : RoomG k callerA) (hY : ∀ (w : World) (h : Heap), YP w h → (K w.params).In h)
    (F : ∀ (w : World) (mg : Str → Option Value) (fa : Addr) (h : Heap), (K w.params).In h → h.Ns mainGlobals mg → mg d.name = some (.ref fa) →
      ∃ fd : FuncData, (∀ (s : Shared) (u : Value), BindsTo s fd ⟨[u], []⟩ [(x, u)]) ∧ ∀ base : Heap, (K w.params).In base → base.Ns mainGlobals mg → FnG l.prog w (K w.params) mg base CX k fa fd [x] (sp w))
    (hsp : ∀ (w : World) (H : Hp) (a : Addr) (ns : List Int), ns.length ≤ n → SqL (K w.params) H a (ns.map V.int) → sp w [.ref a] H (fun v _ => v = .bl true) fun _ _ _ => False)
    (hCX : ∀ (H : Hp) (s : Shared) (e : Value) (s' : Shared), CX [] H s (fun _ _ _ => False) e s' → False) :
    PySem.W.WalkO q loose XP YP l.row.toRowW d [] (fun f vs => PySem.call f vs) := by
  refine Att.attach_call hn hdf ?_
  intro w s₀ s₁ mg mb fa o pm cd doc a vs ns G Y _ _ _ hmg ha hints hlen hg
  have KX := hY w _ Y
  obtain ⟨fd, hbind, hF⟩ := F w mg fa _ KX G.T.g hmg
  have hspw := hsp w
  generalize K w.params = K at *
  generalize eo : ({ cls := .type "list", data := .seq vs.toArray } : Obj) = obj at ha
  have rv := vals_ints hints
  have lenV := hints.length
  have hS : SqL K (scriptH K a obj ns) a (ns.map V.int) := by
    cases hk : K.lookup a with
    | none => exact .inl (.inr ⟨obj, if_pos ⟨rfl, by rw [hk]; rfl⟩⟩)
    | some o2 =>
      have e2 := KX a o2 hk
      rw [ha] at e2
      cases e2
      subst eo
      exact .inr ⟨_, vs.toArray, _, hk, rfl, rfl, rfl, by rw [List.size_toArray, lenV]; exact Nat.le_trans hlen hn2, by simpa using rv⟩
  have seen : ∀ {b : Addr} {u : Obj}, s₁.heap.get? b = some u → (b = a → K.lookup a = some u ∨ False) → (hidT s₁.heap (scriptH K a obj ns)).get? b = some u := fun {b u} e c => hidT_get e (by
    cases z : scriptH K a obj ns b with
    | none => rfl
    | some v =>
      obtain ⟨e1, e2, _⟩ := scriptH_at z
      rcases c e1 with c | c
      · rw [e2] at c; cases c
      · exact c.elim)
  have inK : K.In (hidT s₁.heap (scriptH K a obj ns)) := fun b u e => seen (KX b u e) fun z => .inl (by rw [← z]; exact e)
  have names : ∀ {b : Addr} {m : Str → Option Value}, s₁.heap.Ns b m → (hidT s₁.heap (scriptH K a obj ns)).Ns b m := fun {b m} ⟨u, es, ep, e, dd, rest⟩ => ⟨u, es, ep, seen e (fun z => by
    subst z
    rw [ha] at e
    cases e
    subst eo
    exact nomatch dd), dd, rest⟩
  obtain ⟨mc, lim1, lim2⟩ := G.T.nolimit
  have world : Env0 l.prog w K mg (hidT s₁.heap (scriptH K a obj ns)) callerA [] s₁ (scriptH K a obj ns) := by
    constructor
    · rfl
    · exact ⟨inK, names G.T.g, ⟨mb, names G.T.b, G.T.builtins⟩, ⟨mc, names lim1, lim2⟩⟩
    · exact fun b u e => of_hidT e
    · exact Nat.le_of_eq (hidT_size _ _)
    · trivial
    · exact fun b z => absurd (show b ∈ ([] : List Addr) from z) List.not_mem_nil
    · intro b u e
      obtain ⟨rfl, _, rfl⟩ := scriptH_at e
      exact ⟨ha, by rw [List.length_map]; exact Nat.le_trans hlen hn2, vs, 0, rv, by rw [ha, ← eo]⟩
    · exact .of_eq hg
  have run := (hF _ inK (names G.T.g)).call callerA [] s₁ (scriptH K a obj ns) ⟨[.ref a], []⟩ [.ref a] [.ref a] (fun v _ => v = .bl true) (fun _ _ _ => False) hr world (hbind s₁ (.ref a)) (.cons rfl .nil) (hspw _ a ns hlen hS)
  refine codeAny_mono run ?_
  intro r s' h
  match r, h with
  | .error e, h => exact (hCX _ _ e s' h).elim
  | .ok .next, h => exact False.elim h
  | .ok .brk, h => exact False.elim h
  | .ok .cont, h => exact False.elim h
  | .ok (.ret u), ⟨v, H', os, bare, un, hok', r', hv⟩ =>
    have hv : v = .bl true := hv
    subst hv
    have r' : u = Value.bool true := r'
    subst r'
    refine ⟨rfl, OldK.of_keep ?_, os, bare⟩
    intro b u e
    cases z : scriptH K a obj ns b with
    | none => exact un.keep b u e z (fun c => absurd (show b ∈ ([] : List Addr) from c) List.not_mem_nil) List.not_mem_nil
    | some v =>
      obtain ⟨rfl, _, rfl⟩ := scriptH_at z
      have e2 := (hok' _ _ (un.frzs _ _ _ z)).1
      rw [ha] at e
      cases e
      exact e2
/-- dict(..) of a list of pairs, of a dict -/
def zDict (K : PySem.W.Frag) : List V → Hp → VK → Prop := fun vs H Q => match vs with
  | [.ref a] => (∃ (ps : List Addr) (kvs : List (Key × V)), SqL K H a (ps.map V.ref) ∧ Paired (fun p kv => SqT K H p [kV kv.1, kv.2]) ps kvs ∧ ∀ p H2, Nw H p (.dK (mergeK [] kvs)) H2 → Q (.ref p) H2) ∨
    ∃ kvs, H a = some (.dK kvs) ∧ ∀ p H2, Nw H p (.dK kvs) H2 → Q (.ref p) H2
  | _ => False
theorem c_dict {X : Cx} (hc : X.calm = true) : CallR X (.type "dict") (zDict X.K) := by
  intro pins s σ H xs us Q I r h
  unfold zDict at h
  split at h
  · rename_i a
    rcases h with ⟨ps, kvs, h1, h2, q⟩ | ⟨kvs, h1, q⟩
    · exact call_dictP hc pins s σ H _ us Q I r ⟨a, ps, kvs, rfl, h1, h2, fun p hp => q p _ (nw hp)⟩
    · obtain ⟨u, rfl, ru⟩ := vals1 r
      cases ru
      exact d_copyOf I (.inl h1) fun p s' hp J => ⟨.ref p, _, J, rfl, q p _ (nw hp)⟩
  · exact h.elim
theorem k_dict {X : Cx} (K : PySem.W.Frag) (hc : X.calm = true) (hK : X.K = K := by rfl) : CallR X (.type "dict") (zDict K) := hK ▸ c_dict hc
theorem law_gn {P : Program} {w : World} {K : PySem.W.Frag} {mg : Str → Option Value} {base : Heap} {CX : CXT} {k : Nat} {x : Str} {ps : List Str} {sp : Sp} {fa : Addr} {fd : FuncData} {oc : Value} {od : Option Addr} {osl : Array (Option Value)} (C : Cg P w K mg base CX k x ps sp) (hfa : mg x = some (.ref fa))
    (l : K.lookup fa = some ⟨oc, od, .func fd, osl⟩) : FnG P w K mg base CX k fa fd ps sp := by
  obtain ⟨f, fd', hm, _, _, F, oc', od', osl', hl⟩ := C.ex
  obtain rfl : f = fa := by
    rw [hm] at hfa
    cases hfa
    rfl
  obtain rfl : fd' = fd := by
    rw [hl] at l
    cases l
    rfl
  exact F
end Z

/-! X: own errors over an own class over Exception. -/
namespace Z
open PySem PySem.Spec PyProof.Rows L2

abbrev tailE : List Value := [.type "Exception", .type "BaseException", .type "object"]
/-- the classes of an error: its own, the package's, Exception's -/
def mroE (C B : Addr) : List Value := .ref C :: .ref B :: tailE
theorem mroE_has (C B : Addr) (Y : String) : (mroE C B).contains (.type Y) = tailE.contains (.type Y) := by
  unfold mroE
  rw [List.contains_cons, List.contains_cons]
  rfl
theorem mroE_pass (C B : Addr) (self : Value) : refuseLoop self "__setattr__" (mroE C B) = pure () := by
  unfold mroE
  rw [refuseLoop_ref, refuseLoop_ref]
  exact PySem.F.store_Exception.passes self
/-- what the written part says of an error's class -/
structure ErrC (K : PySem.W.Frag) (C B : Addr) : Prop where
  cls : ∃ nm q N bs sn sub ab col dd k0 k1 k2 k3 k5, K.lookup C = some (excClassObj nm q C N bs (.ref B :: tailE) true sn sub ab col dd k0 k1 k2 k3 k5 "Exception.__new__")
  sa : PySem.W.findIn K (.ref C) "__setattr__" = some (some (.builtin "object.__setattr__"))
  exC : PySem.W.subIn K (.ref C) (.type "BaseException") = some true
  tyC : PySem.W.typeIn K (.ref C) = some (.type "type")
  kC : PySem.W.keepIn K (.ref C) = true
section
open PySem.W PySem.Calls PySem.HandSPX Builtin Builtin.ObjectAttr
variable {prog : Program} {w : World} {A : Around} {R : Result → Shared → Prop} {hp : Heap} {g : Array GenState} {d : Drawn} {t : Nat} {os : OsState}
/-- the first field of an error -/
theorem first_field {K : PySem.W.Frag} {nm : Str} {tk : Tok} {v : Value} {x C B : Addr} {fv : Array Value} {cd : ClassData} (inK : K.In hp) (here : hp.get? x = some { cls := .ref C, data := .fields fv }) (kd : PySem.W.clsIn K C = some cd) (mro : cd.mro = mroE C B) (has : cd.hasDict = true)
    (own : PySem.W.findIn K (.ref C) nm = some none)
    (done : ∀ h' tk' dx, (∀ b o, b ≠ x → hp.get? b = some o → h'.get? b = some o) → hp.objs.size ≤ dx → dx ≠ x → h'.get? x = some { cls := .ref C, dict := some dx, data := .fields fv } → h'.Ns1 dx (fun y => if y = nm then some v else none) →
      R (.ok (.ret .none)) ⟨h', g, d, tk', os⟩) : codeAny (model prog w) A (.call (.builtin "object.__setattr__") ⟨[.ref x, .str nm tk, v], []⟩) R ⟨hp, g, d, t, os⟩ := by
  have at0 : PySem.W.InstAt hp x { cls := .ref C, data := .fields fv } C none := ⟨here, rfl, rfl, trivial⟩
  have far : x ≠ hp.objs.size := Nat.ne_of_lt (Heap.lt_size here)
  have obj : cd.mro.contains (.type "object") = true := by rw [mro, mroE_has]; decide +kernel
  have isObj : PySem.W.Looks (model prog w) hp (isInstance (.ref x) (.type "object")) true :=
    at0.type.andThen (PySem.W.looks_mroIn inK (by unfold PySem.W.mroIn; rw [kd, Option.bind_some, if_neg (by rw [mro]; exact Bool.false_ne_true), obj]))
  have St := PySem.F.store_object
  apply codeAny_call_builtin St.slot.plain St.entry
  apply @PySem.W.check_slot (model prog w) _ _ ⟨hp, g, d, t, os⟩ "object.__setattr__" "object" "__setattr__" (.ref x) [.str nm tk, v] [] _ St.kind St.split isObj (St.args (.ref x) (.str nm tk) v)
  have theMro : PySem.W.Looks (model prog w) hp (mroOf (.ref C)) cd.mro := PySem.W.Looks.andThen (PySem.W.looks_clsIn inK kd) .now
  have noTaker : PySem.W.Looks (model prog w) hp (storeTaker? none) none := .now
  have theCls : PySem.W.Looks (model prog w) hp (classData C) cd := PySem.W.looks_clsIn inK kd
  rw [PySem.W.osa_eq, refuse_eq]
  apply wpAny_bind
  apply wpAny_bind
  apply at0.type.at
  apply wpAny_bind
  apply theMro.at
  rw [mro, mroE_pass]
  apply wpAny_pure
  apply wpAny_bind
  apply at0.type.at
  apply wpAny_bind
  apply PySem.W.Looks.at (PySem.W.looks_findIn inK own)
  apply wpAny_bind
  apply noTaker.at
  show wpAny _ _ (storeInOwnDict (.ref x) (.ref C) (.str nm tk) nm v false) _ _ _
  cases cd with
  | mk n1 n2 n3 n4 n5 n6 n7 n8 n9 n10 n11 =>
    have n6t : n6 = true := has
    subst n6t
    unfold storeInOwnDict ownDictForStores
    repeat (first | with_reducible refine store_in_new ?_ ?_ | with_reducible refine wpAny_loadPart_at here ?_ | with_reducible refine theCls.at ?_ | wp_step)
    · exact ⟨_, #[], _, (Heap.get?_update_ne _ _ _ _ far.symm).trans (Heap.get?_push_at rfl rfl), rfl, fun e z => absurd z (by simp), fun _ => rfl⟩
    · intro h' tk' names but
      have there := Heap.get?_push_of_some { cls := .type "dict", data := .dict #[] } here
      refine done h' tk' hp.objs.size ?_ (Nat.le_refl _) far.symm ((but.2 x far).trans (Heap.get?_update_self _ there rfl)) names
      intro b o nb ob
      exact ((but.2 b (Nat.ne_of_lt (Heap.lt_size ob))).trans (Heap.get?_update_ne _ _ _ _ nb)).trans (Heap.get?_push_of_some _ ob)
end
section
variable {X : Cx} {pins : List (Addr × Obj)} {σ : L2.St} {H : Hp} {s : Shared} {a C B : Addr} {E : Value → Shared → Prop} {A : Around}
/-- the base's own part of the making: nothing of it is seen -/
theorem base_init {us : List Value} {Q : Value → Shared → Prop} (T : ErrC X.K C B) (I : Inv X pins σ H s) (e : H a = some (exo a C none)) (hl : us.length ≤ sizeLine) (h : ∀ s', Inv X pins σ H s' → Q .none s') :
    wpAny (model X.prog X.w) A (call (.builtin "Exception.__init__") (.ref a :: us)) Q E s := by
  obtain ⟨_, _, _, _, _, _, _, _, _, _, _, _, _, _, cl⟩ := T.cls
  obtain ⟨old, here⟩ := exo_at I.hok e
  cases s with
  | mk hp g d t os =>
    apply wpAny_call
    apply PySem.HandSPX.init_base PySem.F.excBase_Exception (fun Y => by rw [List.contains_cons]; rfl) (I.kIn _ _ cl) here hl
    intro h' new keep now
    have same : upd H a (exo a C none) = H := funext fun b => by
      unfold upd
      split
      · rename_i z
        rw [z, e]
      · rfl
    have J := I.write (t' := t) (x := a) (e := a) (o := exo a C none) (by rw [e]; exact True.intro) (Or.inl rfl) keep ⟨_, now⟩ (exo_ok now)
    rw [same] at J
    exact h _ J
/-- what is tracked as another kind stands elsewhere -/
theorem apart {b c : Addr} {o u : HO} (p : H b = some o) (q : H c = some u) (d : o ≠ u) : c ≠ b := fun z => d (by
  rw [z, p] at q
  exact Option.some.inj q)
/-- self.f = y, the first field -/
theorem err_set {f : Str} {y : V} {u : Value} {Q : Unit → Shared → Prop} (T : ErrC X.K C B) (I : Inv X pins σ H s) (e : H a = some (exo a C none)) (own : PySem.W.findIn X.K (.ref C) f = some none) (ry : RelV y u)
    (h : ∀ dx s', H dx = none → dx ≠ a → Inv X pins σ (upd (upd H dx (exd dx [(f, y)])) a (exo a C (some dx))) s' → Q () s') : wpAny (model X.prog X.w) A (setAttr (.ref a) f u) Q E s := by
  obtain ⟨m1, m2, m3, m4, m5, m6, m7, m8, m9, m10, m11, m12, m13, m14, cl⟩ := T.cls
  have kd : PySem.W.clsIn X.K C = some ⟨m1, m4, mroE C B, m3, m2, true, m5, m6, m7, m8, false⟩ := by
    unfold PySem.W.clsIn
    rw [cl]
    rfl
  obtain ⟨old, here⟩ := exo_at I.hok e
  cases s with
  | mk hp g d t os =>
    apply PySem.W.set_plain I.kIn (ox := { cls := .ref C, dict := none, data := .fields #[.ref old, .none, .none, .none, .bool false, .none] }) (od := none) ⟨here, rfl, rfl, trivial⟩ T.sa
    apply first_field I.kIn here kd rfl rfl own
    intro h' tk' dx keep big nd now names
    have none1 : H dx = none := I.hok.fresh big
    have off : ∀ {b : Addr} {o : Obj}, hp.get? b = some o → b ≠ dx := fun q => Nat.ne_of_lt (Nat.lt_of_lt_of_le (Heap.lt_size q) big)
    have offA : ∀ {b : Addr}, H b = none → b ≠ a := fun q z => by rw [z, e] at q; cases q
    have stays : ∀ {b : Addr} {o : HO}, H b = some o → o ≠ exo a C none → (upd (upd H dx (exd dx [(f, y)])) a (exo a C (some dx))) b = some o := fun {b o} q k => by
      rw [upd_ne (apart e q (fun z => k z.symm)), upd_ne (ne_of_none q none1)]
      exact q
    refine h dx _ none1 nd (I.un (t' := tk') ?_ ?_)
    · constructor
      · intro b o q n _ _
        exact keep b o (offA n) q
      · intro b o q n _ _
        exact ⟨o.slots, keep b o (offA n) q⟩
      · intro b o q n _
        rw [upd_ne (offA n), upd_ne (off q)]
        exact n
      · intro b o q _
        rcases Nat.decEq b a with z | z
        · exact ⟨o, keep b o z q⟩
        · exact ⟨_, z ▸ now⟩
      · intro b xs q
        exact stays q (fun z => exo_tup z.symm)
      · intro b o v q
        exact stays q (fun z => exo_frz z.symm)
      · intro b ps q
        exact ⟨#[], by rw [stays q (fun z => exo_tbl z.symm)]; simp⟩
    · intro b o q
      rcases Nat.decEq b a with z | z
      · rw [upd_ne z] at q
        rcases Nat.decEq b dx with zd | zd
        · rw [upd_ne zd] at q
          refine (I.hok b o q).stay ?_ (fun c k => stays k (fun z => exo_own z.symm)) fun c xs k => stays k (fun z => exo_tup z.symm)
          intro c v k p
          refine keep c v ?_ p
          rcases k with k | k
          · rw [k]; exact z
          · exact apart e k exo_own
        · subst zd
          rw [upd_same] at q
          cases q
          exact exd_ok names (relO_put (fs := []) ry fun _ => True.intro)
      · subst z
        rw [upd_same] at q
        cases q
        exact exo_ok now
end
section
variable {X : Cx} {C B : Addr}
/-- C(e, ..) where C's own __init__ keeps sp -/
theorem pmk_err {CX : CXT} {x : Str} {fI : Addr} {k : Nat} {fd : FuncData} {ps : List Str} {sp : Sp} {e : Expr} {es : List Expr} {ta : TA} {p pos : Pos} (T : ErrC X.K C B) (iC : PySem.W.findIn X.K (.ref C) "__init__" = some (some (.ref fI))) (tI : PySem.W.typeIn X.K (.ref fI) = some (.type "function"))
    (F1 : FnOk X.prog X.w X.K X.mg X.base CX k fI fd ps sp) (hr : Room (k + 1) X.A) (hb : Binds X.K fd ps []) (hx : Passes CX X (fun _ _ _ => False)) (hm : X.mg x = some (.ref C)) (ha : PA X (e :: es) ta) (hg : Gl X x := by rfl) (hdb : (x == ("__debug__" : Str)) = false := by decide)
    (he : starEach (e :: es) X.env = (false, eval e X.env) :: starEach es X.env := by rfl) (hpl : (backTo pos (starEach es X.env)).any (·.1) = false := by rfl) : PMk X (.Call (.Name x p) (e :: es) [] pos) (tMkO C sp [] ta) := by
  intro pins s σ H Q I h
  obtain ⟨_, _, _, _, _, _, _, _, _, _, _, _, _, _, cl⟩ := T.cls
  apply wpAny_Call_Name_kw
  refine ld_glob I hg hm (PySem.W.callWith_K (h₀ := X.base) I.ok.mod.kin T.kC ?_ he hpl) hdb
  · apply thn (ha.run pos pins s σ H _ I h)
    rintro us ⟨hp, g, dr, tk, os⟩ ⟨vs, H1, I1, r1, few, q1⟩
    refine ⟨I1.kIn, ?_⟩
    have later : hp.objs.size ≤ hp.objs.size + 1 := Nat.le_succ _
    have q2 := q1 _ (I1.hok.fresh later)
    rw [List.append_nil] at q2
    have more : ∀ b o, hp.get? b = some o → ((hp.push (PySem.W.kdv_tup us)).push (PySem.HandSPX.excO C hp.objs.size)).get? b = some o := fun _ _ z => Heap.get?_push_of_some _ (Heap.get?_push_of_some _ z)
    have new : ((hp.push (PySem.W.kdv_tup us)).push (PySem.HandSPX.excO C hp.objs.size)).get? (hp.objs.size + 1) = some (PySem.HandSPX.excO C hp.objs.size) := by heap_get
    have I2 := I1.laid (t' := tk) (o := exo (hp.objs.size + 1) C none) more later (exo_ok new)
    have r2 : Vals (V.ref (hp.objs.size + 1) :: vs) (Value.ref (hp.objs.size + 1) :: us) := .cons rfl r1
    have len : (Value.ref (hp.objs.size + 1) :: us).length = ps.length := r2.length.symm.trans (F1.len _ _ _ _ q2)
    have bind := hb _ (Value.ref (hp.objs.size + 1) :: us) I2.kIn (by simpa using len)
    rw [List.append_nil] at bind
    have fit : us.length ≤ sizeLine := by
      rw [← Paired.length r1, sizeLine_eq]
      omega
    apply wpAny_call
    apply PySem.HandSPX.call_own PySem.F.excBase_Exception (fun Y => by rw [List.contains_cons]; rfl) (I1.kIn _ _ cl) (PySem.W.looks_findIn I1.kIn iC) (fun self => PySem.W.bind_fn I1.kIn self tI) fit
    refine codeAny_mono (F1.run _ X.stack _ _ ⟨Value.ref (hp.objs.size + 1) :: us, []⟩ _ _ _ (fun _ _ _ => False) (hr.make C us []) (I2.env0.make C us []) bind r2 q2) ?_
    intro r s' z
    match r, s', z with
    | .error er, s', z => exact hx pins σ _ _ er s' I2 z
    | .ok (.ret u), ⟨h2, g2, d2, t2, os'⟩, ⟨v, H2, sos, sbare, sun, sok, rv, ev, d, fs, ea, ed, hd1, q3⟩ =>
      subst ev
      exact ⟨rv, mk_end (raises_own T.exC T.tyC) I1 later more sun sok sos sbare ea ed hd1 q3⟩
    | .ok .next, _, z => exact False.elim z
    | .ok .brk, _, z => exact False.elim z
    | .ok .cont, _, z => exact False.elim z
/-- self.f = e, the first field of an error -/
def tErr (K : PySem.W.Frag) (f : Str) (to te : TE) : TS := fun D σ H => te σ H fun y H1 => to σ H1 fun x H2 => ∃ a C B : Addr, x = .ref a ∧ ErrC K C B ∧ PySem.W.findIn K (.ref C) f = some none ∧ H2 a = some (exo a C none) ∧
  ∀ dx, H2 dx = none → dx ≠ a → D.nx σ (upd (upd H2 dx (exd dx [(f, y)])) a (exo a C (some dx)))
theorem ps_err {o e : Expr} {to te : TE} {f : Str} {p' pos : Pos} (ho : PE X o to) (he : PE X e te) (hs : swapsWith e (some (.Attribute o f p')) pos.line X.env = pure false := by rfl) : PS X (.Assign [.Attribute o f p'] e pos) (tErr X.K f to te) := by
  constructor
  intro pins s σ H D I h
  apply plainObj_wpAny_Assign_Attribute _ hs
  apply thn (he.run pins s σ H _ I h)
  rintro v s1 ⟨y, H1, I1, r1, q1⟩
  apply thn (ho.run pins s1 σ H1 _ I1 q1)
  rintro u s2 ⟨x, H2, I2, r2, a, C, B, rfl, T, own, ea, q⟩
  obtain rfl : u = Value.ref a := r2
  exact err_set T I2 ea own r1 fun dx s' n ne J => ⟨σ, _, J, q dx n ne⟩
/-- Base.__init__(self, ..) by the class's name -/
def tBI (K : PySem.W.Frag) (ta : TA) : TE := fun σ H Q => ta σ H fun vs H1 => ∃ (a C B : Addr) (ws : List V), vs = .ref a :: ws ∧ ws.length ≤ 1000 ∧ ErrC K C B ∧ H1 a = some (exo a C none) ∧ Q .non H1
theorem pe_binit {x : Str} {D : Addr} {mc : Value} {e : Expr} {es : List Expr} {ta : TA} {p1 p2 pos : Pos} {pl : Sem Bool} (hm : X.mg x = some (.ref D)) (sg : PySem.W.specialIn X.K (.ref D) "__getattribute__" = some (some (.builtin "type.__getattribute__"))) (rd : PySem.W.readsIn X.K D mc = true)
    (fv : PySem.W.findCls X.K (.ref D) mc "__init__" = some (.val (.builtin "Exception.__init__"))) (ha : PA X (e :: es) ta) (hg : Gl X x := by rfl) (hdb : (x == ("__debug__" : Str)) = false := by decide)
    (hc : eval (.Call (.Attribute (.Name x p1) "__init__" p2) (e :: es) [] pos) X.env = (do
      let ov ← eval (.Name x p1) X.env
      standAt p2.atName
      let (f, first) ← holding [ov] (getMethod ov "__init__" pl)
      callWith pos f first (backTo pos (starEach (e :: es) X.env)) (backToKw pos (keywordEach [] X.env))) := by rfl)
    (he : starEach (e :: es) X.env = (false, eval e X.env) :: starEach es X.env := by rfl) (hpl : (backTo pos (starEach es X.env)).any (·.1) = false := by rfl) : PE X (.Call (.Attribute (.Name x p1) "__init__" p2) (e :: es) [] pos) (tBI X.K ta) := by
  constructor
  intro pins s σ H Q I h
  refine PySem.W.methodCall_KW (ld_glob I hg hm ?_ hdb) hc
  refine PySem.W.method_cls I.kIn sg (PySem.W.cls_value I.kIn rd fv (by decide +kernel) ?_)
  refine callWith_method1 (thn (ha.run pos pins _ σ H _ (I.tok _) h) ?_) he hpl
  rintro us s1 ⟨vs, H1, I1, r1, a, C, B, ws, rfl, few, T, ea, q⟩
  cases r1 with
  | @cons _ u0 _ ur ra rest =>
    obtain rfl : u0 = Value.ref a := ra
    exact base_init T I1 ea (by rw [← Paired.length rest, sizeLine_eq]; omega) fun s' J => ⟨.non, H1, J, rfl, q⟩
end
end Z

/-! Y: defs that raise own errors, and try around them. -/
namespace Z
open PySem PySem.Spec PyProof.Rows L2

/-! ### defs that may raise -/
section
variable {P : Program} {w : World} {K : PySem.W.Frag} {mg : Str → Option Value} {base : Heap}
theorem cx1 {x : Str} {st : Stmt} {a : Str} {N : List Str} {k : Nat} {p : V → Hp → VK → XK → Prop} (D : Df K mg x st [a]) (S : FnScope N [a] (defScope st))
    (body : ∀ (f : Addr) (cdv : Value) (A : Around) (outer : List Env) (s : Shared) (H : Hp) (u : V) (Q : VK) (E : XK), Room k (A.deeper (envOfC x (defScope st) s.heap.objs.size f cdv)) → p u H Q E →
      ∃ t, PSs (cxOf (L2.CX P w) P w K mg base N x (defScope st) f cdv A outer s H E) (defBody st) t ∧ t { nx := fun _ H' => Q .non H', rt := Q } (start N [u]) H) : Ct P w K mg base (L2.CX P w) (k + 1) x [a] (sp1 p) := by
  obtain ⟨f, fd, F, hm, hb⟩ := D.ex
  refine ⟨f, fd, hm, F.kp, hb, F.okX S ?_ ?_, fun_at F⟩
  · intro vs H Q E h
    obtain ⟨u, rfl, _⟩ := sp1_of h
    rfl
  · intro cdv A outer s H vs Q E hr h
    obtain ⟨u, rfl, h⟩ := sp1_of h
    exact body f cdv A outer s H u Q E hr h
theorem cx2 {x : Str} {st : Stmt} {a b : Str} {N : List Str} {k : Nat} {p : V → V → Hp → VK → XK → Prop} (D : Df K mg x st [a, b]) (S : FnScope N [a, b] (defScope st))
    (body : ∀ (f : Addr) (cdv : Value) (A : Around) (outer : List Env) (s : Shared) (H : Hp) (u v : V) (Q : VK) (E : XK), Room k (A.deeper (envOfC x (defScope st) s.heap.objs.size f cdv)) → p u v H Q E →
      ∃ t, PSs (cxOf (L2.CX P w) P w K mg base N x (defScope st) f cdv A outer s H E) (defBody st) t ∧ t { nx := fun _ H' => Q .non H', rt := Q } (start N [u, v]) H) : Ct P w K mg base (L2.CX P w) (k + 1) x [a, b] (sp2 p) := by
  obtain ⟨f, fd, F, hm, hb⟩ := D.ex
  refine ⟨f, fd, hm, F.kp, hb, F.okX S ?_ ?_, fun_at F⟩
  · intro vs H Q E h
    obtain ⟨u, v, rfl, _⟩ := sp2_of h
    rfl
  · intro cdv A outer s H vs Q E hr h
    obtain ⟨u, v, rfl, h⟩ := sp2_of h
    exact body f cdv A outer s H u v Q E hr h
/-- an __init__ of two parameters -/
theorem ini2 {q : Str} {st : Stmt} {f : Addr} {fd : FuncData} {a b : Str} {N : List Str} {k : Nat} {p : V → V → Hp → VK → XK → Prop} (F : Fun K "__init__" q st f fd) (S : FnScope N [a, b] (defScope st))
    (body : ∀ (cdv : Value) (A : Around) (outer : List Env) (s : Shared) (H : Hp) (u v : V) (Q : VK) (E : XK), Room k (A.deeper (envOfC q (defScope st) s.heap.objs.size f cdv)) → p u v H Q E →
      ∃ t, PSs (cxOf CX0 P w K mg base N q (defScope st) f cdv A outer s H E).nox (defBody st) t ∧ t { nx := fun _ H' => Q .non H', rt := Q } (start N [u, v]) H) : FnOk P w K mg base CX0 (k + 1) f fd [a, b] (sp2 p) := by
  refine F.ok S ?_ ?_
  · intro vs H Q E h
    obtain ⟨u, v, rfl, _⟩ := sp2_of h
    rfl
  · intro cdv A outer s H vs Q E hr h
    obtain ⟨u, v, rfl, h⟩ := sp2_of h
    exact body cdv A outer s H u v Q E hr h
end
/-- what an error's own __init__ leaves: its one field -/
def spIni (C : Addr) (f : Str) : Sp := sp2 fun u v H Q _ => ∃ a, u = .ref a ∧ H a = some (exo a C none) ∧ ∀ dx, H dx = none → dx ≠ a → Q .non (upd (upd H dx (exd dx [(f, v)])) a (exo a C (some dx)))
/-- an error's class, under its name -/
structure Er (P : Program) (w : World) (K : PySem.W.Frag) (mg : Str → Option Value) (base : Heap) (k : Nat) (x f : Str) (C : Addr) : Prop where
  name : mg x = some (.ref C)
  ex : ∃ (B fI : Addr) (fd : FuncData) (ps : List Str), ErrC K C B ∧ PySem.W.findIn K (.ref C) "__init__" = some (some (.ref fI)) ∧ PySem.W.typeIn K (.ref fI) = some (.type "function") ∧ FnOk P w K mg base CX0 k fI fd ps (spIni C f) ∧ Binds K fd ps []
/-- what is asked of a caught error -/
structure Es (K : PySem.W.Frag) (C : Addr) : Prop where
  xf : XfC K C
  ty : PySem.W.typeIn K (.ref C) = some (.type "type")
  ha : PySem.W.findIn K (.ref C) "__class__" = some (some (.builtin "object.__class__"))
  hn : PySem.W.specialIn K (.builtin "object.__class__") "__get__" = some (some (.builtin "getset_descriptor.__get__"))
  ht : PySem.W.takesIn K (.builtin "object.__class__") = some true
  hm : PySem.W.mroIn K C (.type "object") = some true
theorem Es.exm {K : PySem.W.Frag} {C : Addr} {c : Value} {b : Bool} (S : Es K C) (h : PySem.W.subIn K c (.ref C) = some b) : PySem.W.exmOne K c (.ref C) = some b := PySem.W.exm_ref S.xf.exC S.xf.hdC S.ty h
section
variable {X : Cx}
/-- raise C(e) -/
def tRz (C : Addr) (f : Str) (t : TA) (W : WX) : TS := fun _ σ H => t σ H fun vs H1 => match vs with
  | [v] => ∀ d H2, Nw H1 d (.xd [(f, v)]) H2 → W (.ref C) (some d) σ H2
  | _ => False
theorem ps_rz {W : WX} {k : Nat} {x f : Str} {C : Addr} {e : Expr} {t : TA} {p p2 pos : Pos} (hc : X.calm = true) (tk : Takes X W) (R : Er X.prog X.w X.K X.mg X.base k x f C) (hr : Room (k + 1) X.A) (ha : PA X [e] t) (hg : Gl X x := by rfl) (hdb : (x == ("__debug__" : Str)) = false := by decide)
    (he : starEach [e] X.env = (false, eval e X.env) :: starEach [] X.env := by rfl) (hpl : (backTo p2 (starEach [] X.env)).any (·.1) = false := by rfl) : PS X (.Raise (some (.Call (.Name x p) [e] [] p2)) none pos) (tRz C f t W) := by
  obtain ⟨B, fI, fd, ps, T, iC, tI, F, hb⟩ := R.ex
  refine ps_w (ps_raise hc tk (pmk_err T iC tI F hr hb pass0 R.name (pa_mon ha) hg hdb he hpl)) ?_
  intro D σ H h
  refine ⟨_, h, ?_⟩
  intro vs H1 h1
  split at h1
  · rename_i v
    refine ⟨by show 1 ≤ 1000; decide, fun a na => ?_⟩
    refine ⟨a, rfl, upd_same, fun dx nd ne => ⟨rfl, dx, [(f, v)], upd_same, ?_, ?_, ?_⟩⟩
    · rw [upd_ne ne, upd_same]
    · rw [upd_ne ne] at nd
      exact nd
    · rw [upd_ne ne] at nd
      have e : upd (del (upd (upd (upd H1 a (exo a C none)) dx (exd dx [(f, v)])) a (exo a C (some dx))) a) dx (.xd [(f, v)]) = upd H1 dx (.xd [(f, v)]) := by
        funext b
        by_cases z : b = dx
        · rw [z, upd_same, upd_same]
        · rw [upd_ne z, upd_ne z]
          by_cases y : b = a
          · rw [y, del_same, na]
          · rw [del_ne y, upd_ne y, upd_ne z, upd_ne y]
      rw [e]
      exact h1 dx _ (nw nd)
  · exact h1.elim
/-- a call that may let an error out -/
theorem pe_clS {W : WX} {k : Nat} {x : Str} {ps : List Str} {sp : Sp} {p pos : Pos} {e : Expr} {es : List Expr} {t : TA} (C : Ct X.prog X.w X.K X.mg X.base (L2.CX X.prog X.w) k x ps sp) (hr : Room k X.A) (tk : Takes X W) (ha : PA X (e :: es) t) (hg : Gl X x := by rfl)
    (hdb : (x == ("__debug__" : Str)) = false := by decide) (he : starEach (e :: es) X.env = (false, eval e X.env) :: starEach es X.env := by rfl) (hpl : (backTo pos (starEach es X.env)).any (·.1) = false := by rfl) : PE X (.Call (.Name x p) (e :: es) [] pos) (tCallS sp (WE W) t) := by
  obtain ⟨f, fd, hm, hk, hb, F, _⟩ := C.ex
  exact pe_callS F hr hg hm hk hb (passAt tk) ha hdb he hpl
def tClKS (g : {α : Type} → List α → List α) (sp : Sp) (E : L2.St → XK) (t : TA) : TE := fun σ H Q => t σ H fun zs H1 => sp (g zs) H1 Q (E σ)
theorem pe_clKS {W : WX} {k : Nat} {x : Str} {ps ks : List Str} {g : {α : Type} → List α → List α} {sp : Sp} {p pos : Pos} {kws : List Keyword} {t : TA} (C : CtK X.prog X.w X.K X.mg X.base (L2.CX X.prog X.w) k x ps ks g sp) (hr : Room k X.A) (tk : Takes X W)
    (hkw : PK X kws t) (hg : Gl X x := by rfl) (hall : (backToKw pos (keywordEach kws X.env)).all (·.1.isSome) = true := by rfl) (hks : (backToKw pos (keywordEach kws X.env)).filterMap (·.1) = ks := by rfl)
    (hdb : (x == ("__debug__" : Str)) = false := by decide) (hpl : ((backTo pos (starEach [] X.env)).any (·.1) || (backToKw pos (keywordEach kws X.env)).any (·.1.isNone)) = false := by rfl) :
    PE X (.Call (.Name x p) [] kws pos) (tClKS g sp (WE W) t) := by
  obtain ⟨f, fd, hm, hk, hb, hrel, F⟩ := C.ex
  constructor
  intro pins s σ H Q I h
  apply wpAny_Call_Name_kw
  refine ld_glob I hg hm (PySem.W.callWith_KW0 (h₀ := X.base) I.ok.mod.kin hk hall ?_ hpl) hdb
  apply thn (hkw.run pos pins s σ H _ I h)
  rintro ws s1 ⟨zs, H1, I1, rz, q⟩
  refine ⟨I1.kIn, ?_⟩
  rw [hks]
  have r2 := hrel rz
  have hl : (g ws).length = ps.length := r2.length.symm.trans (F.len _ _ _ _ q)
  apply wpAny_call
  refine codeAny_mono (F.run X.A X.stack s1 H1 ⟨[], ks.zip ws⟩ (g ws) (g zs) Q (WE W σ) hr I1.env0 (hb s1 ws hl) r2 q) ?_
  intro r s' z
  match r, z with
  | .error er, z => exact passAt tk σ pins H1 s1 er s' I1 z
  | .ok (.ret u), z => exact I1.after z
  | .ok .next, z => exact False.elim z
  | .ok .brk, z => exact False.elim z
  | .ok .cont, z => exact False.elim z
end

/-! ### try with several clauses, each with a name -/
/-- behind a clause its name is gone -/
def gone (i : Nat) (D : Ends) : Ends := { nx := fun σ' H' => D.nx (σ'.set i none) H', rt := D.rt, bk := fun σ' H' => D.bk (σ'.set i none) H', ct := fun σ' H' => D.ct (σ'.set i none) H' }
/-- what the clauses wish of an error: its class, the place of its name, what is read there -/
def wClauses (K : PySem.W.Frag) (Wout : WX) (D : Ends) : List (Value × Nat × (Addr → Value → Option Addr → TS)) → WX
  | [] => Wout
  | (c, i, ts) :: r => fun cls d σ H => ∃ b, PySem.W.exmOne K cls c = some b ∧ (b = true → ∀ a, H a = none → ts a cls d (gone i D) (σ.set i (some (.ref a))) H) ∧ (b = false → wClauses K Wout D r cls d σ H)
inductive Clauses (X : Cx) : List ExceptHandler → List (Value × Nat × (Addr → Value → Option Addr → TS)) → Prop
  | nil : Clauses X [] []
  | cons {x n : Str} {c : Value} {i : Nat} {ts : Addr → Value → Option Addr → TS} {first : Stmt} {more : List Stmt} {np hp : Pos} {hds : List ExceptHandler} {l : List (Value × Nat × (Addr → Value → Option Addr → TS))} (names : Names X x c) (slot : X.N[i]? = some n) (loc : X.env.kindOf n = some .local)
      (suite : ∀ (a : Addr) (oe : Obj) (cls : Value) (d : Option Addr) (pn : List (Addr × Obj)), Zc cls d oe → (∃ vs, oe.data = .fields vs) → PSs (X.suite a ((a, oe) :: pn)) (first :: more) (ts a cls d)) (rest : Clauses X hds l) :
      Clauses X (.ExceptHandler (some (.Name x np)) (some n) (first :: more) hp :: hds) ((c, i, ts) :: l)
section
variable {X : Cx} {body : List Stmt} {h1 : ExceptHandler} {hds : List ExceptHandler} {l : List (Value × Nat × (Addr → Value → Option Addr → TS))} {pos : Pos} {tb : WX → TS} {Wout : WX}
theorem ps_tryC (hs : X.stack = X.env :: X.outer) (hf : X.env.frame = some X.env.locals) (hN : X.N.Nodup) (tk : Takes X Wout)
    (hb : ∀ (W : WX) (pn : List (Addr × Obj)) (xe : Value → Shared → Prop), Takes (X.tr pn xe) W → PassesOwn (model X.prog X.w) X.A X.env xe → PSs (X.tr pn xe) body (tb W))
    (cl : Clauses X (h1 :: hds) l) : PS X (.Try body (h1 :: hds) [] [] pos) (fun D σ H => tb (wClauses X.K Wout D l) D σ H) := by
  constructor
  intro pins s σ H D I h
  have ok := I.ok
  have frames : X.A.frames = some (X.env :: X.outer) := by
    rw [ok.frames, hs]
  apply wpAny_Try_except
  refine wpAny_mono ((hb (wClauses X.K Wout D l) (X.pn ++ pins) (fun e z1 => wpAny (model X.prog X.w) X.A (noteFrame e X.env) (fun _ z2 => wpAny (model X.prog X.w) X.A (setFlight e none) (fun _ z3 =>
    wpAny (model X.prog X.w) X.A (handleBy e X.env (h1 :: hds)) (SP X pins D) X.xe z3) X.xe z2) X.xe z1) ?_ PassesOwn.looking).run [] s σ H D (I.toTry _) h) ?_ (fun _ _ z => z)
  · rintro u s' ⟨a, G, sI, pins', σ1, Ha, cls, d, rfl, Jt, apart, up, sky, na, os, ag, wish⟩
    have J : Inv X pins σ1 Ha sI := Jt.ofTry ok
    rw [show (X.tr (X.pn ++ pins) _).stack = X.stack from rfl, hs] at sky
    show wpAny (model X.prog X.w) X.A (noteFrame (.ref a) X.env) _ _ _
    apply Sky.land Zc.steady frames hf sky
    intro hp fly upp
    have Jh : Inv X pins σ1 Ha { s' with heap := hp } := J.landed apart fly.1 (up.trans upp) os ag
    obtain ⟨oe, fv, here, hz, hd⟩ := fly.there
    have noFrame : a ∉ frs (X.env :: X.outer) := by
      intro m
      obtain ⟨_, o', e', nf⟩ := fly.2.2.1.mem m
      rw [here] at e'
      cases e'
      exact nf _ hd
    have offL : a ≠ X.env.locals := by
      intro z
      apply noFrame
      apply List.mem_filterMap.mpr
      exact ⟨X.env, List.mem_cons_self, by rw [hf, z]⟩
    have offF : a ∉ X.fs := by
      intro m
      obtain ⟨e, he, q⟩ := List.mem_filterMap.mp m
      exact noFrame (List.mem_filterMap.mpr ⟨e, List.mem_cons_of_mem _ he, q⟩)
    have Js := Jh.suite here hd na offL offF
    have all : ∀ {hds' : List ExceptHandler} {l' : List (Value × Nat × (Addr → Value → Option Addr → TS))}, Clauses X hds' l' → wClauses X.K Wout D l' cls d σ1 Ha → wpAny (model X.prog X.w) X.A (handleBy (.ref a) X.env hds') (SP X pins D) X.xe { s' with heap := hp } := by
      intro hds' l' c
      induction c with
      | nil =>
        intro wish
        apply wpAny_handleBy_nil
        obtain ⟨_, _, _, _, _, T, _, _, there, _, dd, one, _⟩ := id fly
        unfold PySem.passOn
        apply wpAny_bind
        apply wpAny_field there dd one
        rw [if_neg (show ¬ ((Value.ref T == Value.none) = true) by simp)]
        have fin : wpAny (model X.prog X.w) X.A (setFlight (.ref a) X.env.frame) (fun _ z => wpAny (model X.prog X.w) X.A (throw (.ref a) : Sem Flow) (SP X pins D) X.xe z) X.xe { s' with heap := hp } := by
          rw [hf]
          apply HandSPX.setFlight_upZ fly
          intro h4 held upq
          apply wpAny_throw
          apply tk
          exact ⟨a, G, sI, pins, σ1, Ha, cls, d, rfl, J, apart, (up.trans upp).trans upq, .inr (.inr (by rw [hs]; exact held)), na, os, ag, wish⟩
        first
          | exact wpAny_bind (wpAny_pure (wpAny_bind fin))
          | exact wpAny_bind fin
      | @cons x n c i ts first more np hpos hds2 l2 names slot loc suite rest ih =>
        rintro ⟨b, ask, yes, no⟩
        apply wpAny_handleBy_cons _ (by intro q; cases q)
        apply codeAny_handlers_test
        have looks : PySem.W.Looks (model X.prog X.w) hp (typeOf (.ref a)) cls := fun A Q E z k q => wpAny_typeOf_ref (k _ _ here) (by rw [hz.1]; exact q)
        have named : ∀ {Q : Value → Shared → Prop} {E : Value → Shared → Prop}, Q c { s' with heap := hp } → wpAny (model X.prog X.w) (X.A.mark (some (.ref a))) (eval (.Name x np) X.env) Q E { s' with heap := hp } := by
          intro Q E q
          obtain ⟨hg, hdb, hm | ⟨hm, hv, hnn⟩⟩ := names
          · exact ld_glob (X := X.suite a ((a, oe) :: (X.pn ++ pins))) Js hg hm q hdb
          · exact ld_blt (X := X.suite a ((a, oe) :: (X.pn ++ pins))) Js hg hm hv q hnn hdb
        apply named
        apply (PySem.W.exm_one (M := model X.prog X.w) Jh.kIn looks ask).here
        cases b with
        | false => exact ih (no rfl)
        | true =>
          apply codeAny_handlers_suite_as
          apply HandSPX.lands_againZ fly
          intro h4 fly4 up4
          have J4 : Inv X pins σ1 Ha { s' with heap := h4 } := J.landed apart fly4.1 ((up.trans upp).trans up4) os ag
          obtain ⟨oe4, fv4, here4, hz4, hd4⟩ := fly4.there
          have S4 := J4.suite here4 hd4 na offL offF
          refine store_ok (X := X.suite a ((a, oe4) :: (X.pn ++ pins))) (v := .ref a) S4 hN slot (.inl loc) rfl ?_ (.inr loc)
          intro s5 S5
          have fin : ∀ {σ6 : L2.St} {H6 : Hp} {s6 : Shared} {Q : Shared → Prop}, Inv (X.suite a ((a, oe4) :: (X.pn ++ pins))) [] σ6 H6 s6 → (∀ s7, Inv X pins (σ6.set i none) H6 s7 → Q s7) →
              wpAny (model X.prog X.w) X.A (do bindName X.env n .none; unbindBehindTheSuite X.env n hpos) (fun _ s7 => Q s7) X.xe s6 := fun S6 hq => gone_ok (S6.unsuite ok) hN slot loc hq
          refine wpAny_mono ((suite a oe4 cls d (X.pn ++ pins) hz4 ⟨_, hd4⟩).run [] s5 _ Ha _ S5 (yes rfl a na)) ?_ (fun _ _ z => False.elim z)
          intro f s6 out
          cases f with
          | next =>
            obtain ⟨_, _, S6, q⟩ := out
            exact fin S6 fun _ J7 => ⟨_, _, J7, q⟩
          | brk =>
            obtain ⟨_, _, S6, q⟩ := out
            exact fin S6 fun _ J7 => ⟨_, _, J7, q⟩
          | cont =>
            obtain ⟨_, _, S6, q⟩ := out
            exact fin S6 fun _ J7 => ⟨_, _, J7, q⟩
          | ret u =>
            obtain ⟨_, _, _, S6, rv, q⟩ := out
            exact fin S6 fun _ J7 => ⟨_, _, _, J7, rv, q⟩
    exact all cl wish
  · intro f s1 out
    cases f with
    | next =>
      obtain ⟨_, _, Jt, q⟩ := out
      exact wpAny_execs_nil ⟨_, _, Jt.ofTry ok, q⟩
    | brk =>
      obtain ⟨_, _, Jt, q⟩ := out
      exact ⟨_, _, Jt.ofTry ok, q⟩
    | cont =>
      obtain ⟨_, _, Jt, q⟩ := out
      exact ⟨_, _, Jt.ofTry ok, q⟩
    | ret u =>
      obtain ⟨_, _, _, Jt, rv, q⟩ := out
      exact ⟨_, _, _, Jt.ofTry ok, rv, q⟩
end
/-- isinstance(e, c) of the error that a clause holds -/
def rIsC (K : PySem.W.Frag) (cls : Value) (d : Option Addr) (a : Addr) : List V → Hp → VK → Prop := fun xs H Q => match xs with
  | [.ref a', .ref c] => ∃ (C dd : Addr) (fs : List (Str × V)) (b : Bool), a' = a ∧ cls = .ref C ∧ d = some dd ∧ H dd = some (.xd fs) ∧ Es K C ∧ PySem.W.kitOne K (.ref C) (.ref c) = some b ∧ Q (.bl b) H
  | _ => False
theorem c_isC {X : Cx} {a : Addr} {oe : Obj} {cls : Value} {d : Option Addr} {pn : List (Addr × Obj)} (hz : Zc cls d oe) (hf : ∃ vs, oe.data = .fields vs) : CallR (X.suite a ((a, oe) :: pn)) (.builtin "isinstance") (rIsC X.K cls d a) := by
  intro pins s σ H xs us Q I r h
  unfold rIsC at h
  split at h
  · rename_i a' c
    obtain ⟨C, dd, fs, b, rfl, rfl, rfl, hx, S, ask, q⟩ := h
    cases r with
    | cons r1 rr =>
      cases rr with
      | cons r2 rr =>
        cases rr
        cases r1
        cases r2
        obtain ⟨here, _⟩ := I.pin (a', oe) (List.mem_append.mpr (.inl List.mem_cons_self))
        obtain ⟨vs, hd⟩ := hf
        obtain ⟨mA, ns, _⟩ := (show ObjOk X.prog X.w H s.heap dd (.xd fs) from I.hok dd _ hx)
        obtain ⟨od, ho, _⟩ := lookIn_ns ns
        have J : PySem.W.InstAt s.heap a' oe C (some od) := ⟨here, hz.1, by unfold PySem.W.notCls; rw [hd] <;> rfl, by rw [hz.2]; exact ho⟩
        have cl : (PySem.W.clsIn X.K C).isSome = true := by
          obtain ⟨cd, hc, _⟩ := PySem.W.any_some S.xf.hdC
          rw [hc]
          rfl
        exact PySem.W.kia_one (PySem.W.kitx_exc cl S.xf.ga S.xf.gg S.xf.exC S.ha S.hn S.ht S.hm) I.kIn J ask (fun z => nomatch z) fun tk => ⟨.bl b, H, I.tok _, rfl, q⟩
  · exact h.elim
theorem k_isC {X : Cx} (K : PySem.W.Frag) {a : Addr} {oe : Obj} {cls : Value} {d : Option Addr} {pn : List (Addr × Obj)} (hz : Zc cls d oe) (hf : ∃ vs, oe.data = .fields vs) (hK : X.K = K := by rfl) : CallR (X.suite a ((a, oe) :: pn)) (.builtin "isinstance") (rIsC K cls d a) := hK ▸ c_isC hz hf
/-- the class of that name at the top -/
def clsAt (K : PySem.W.Frag) (x : Str) (C : Addr) : Prop := PySem.W.nsIn K mainGlobals x = some (some (.ref C))
theorem clsAt.one {K : PySem.W.Frag} {x : Str} {C D : Addr} (a : clsAt K x C) (b : clsAt K x D) : C = D := by
  unfold clsAt at a b
  rw [a] at b
  cases b
  rfl
/-- what is asked of the base whose __init__ is called by its name -/
structure BaseC (K : PySem.W.Frag) (B : Addr) : Prop where
  ex : ∃ mc, PySem.W.specialIn K (.ref B) "__getattribute__" = some (some (.builtin "type.__getattribute__")) ∧ PySem.W.readsIn K B mc = true ∧ PySem.W.findCls K (.ref B) mc "__init__" = some (.val (.builtin "Exception.__init__"))
/-- an error of the class x with this field leaves -/
def Rz (K : PySem.W.Frag) (x f : Str) (v : V) (H : Hp) (E : XK) : Prop := ∀ C d H2, clsAt K x C → Same H H2 → H2 d = some (.xd [(f, v)]) → E (.ref C) (some d) H2
theorem Rz.go {K : PySem.W.Frag} {x f : Str} {v : V} {H H1 H2 : Hp} {E : XK} {C d : Addr} (h : Rz K x f v H E) (c : clsAt K x C) (s : Same H H1) (n : Nw H1 d (.xd [(f, v)]) H2) : E (.ref C) (some d) H2 := h C d H2 c (s.trans n.same) n.here
/-- a list some times over -/
def zRepL : R2 := fun x y H Q => match x, y with
  | .ref l, .int k => ∃ xs, H l = some (.lst xs) ∧ -(2 ^ 63) ≤ k ∧ k < 2 ^ 63 ∧ xs.length * k.toNat ≤ sizeLine ∧ ∀ p H2, Nw H p (.lst (List.replicate k.toNat xs).flatten) H2 → Q (.ref p) H2
  | _, _ => False
theorem o_repL {X : Cx} : OpR X (binaryOp .Mult) zRepL := by
  intro pins s σ H x y v u Q I rx ry h
  unfold zRepL at h
  split at h
  · obtain ⟨xs, h1, h2, h3, h4, q⟩ := h
    exact op_rep pins s σ H _ _ v u Q I rx ry ⟨_, _, xs, rfl, rfl, h1, h2, h3, h4, fun p hp => q p _ (nw hp)⟩
  · exact h.elim
/-- what stands in a class -/
def clsB : Stmt → List Stmt
  | .ClassDef (body := inside) .. => inside
  | _ => []
theorem ct0 {P : Program} {w : World} {K : PySem.W.Frag} {mg : Str → Option Value} {base : Heap} {x : Str} {st : Stmt} {N : List Str} {k : Nat} {p : Hp → VK → XK → Prop} (D : Df K mg x st []) (S : FnScope N [] (defScope st))
    (body : ∀ (f : Addr) (cdv : Value) (A : Around) (outer : List Env) (s : Shared) (H : Hp) (Q : VK) (E : XK), Room k (A.deeper (envOfC x (defScope st) s.heap.objs.size f cdv)) → p H Q E →
      ∃ t, PSs (cxOf CX0 P w K mg base N x (defScope st) f cdv A outer s H E).nox (defBody st) t ∧ t { nx := fun _ H' => Q .non H', rt := Q } (start N []) H) : Ct P w K mg base CX0 (k + 1) x [] (fun vs H Q E => vs = [] ∧ p H Q E) := by
  obtain ⟨f, fd, F, hm, hb⟩ := D.ex
  refine ⟨f, fd, hm, F.kp, hb, F.ok S ?_ ?_, fun_at F⟩
  · intro vs H Q E h
    rw [h.1]
    rfl
  · intro cdv A outer s H vs Q E hr h
    obtain ⟨rfl, h⟩ := h
    exact body f cdv A outer s H Q E hr h
/-- d[k] = v -/
def zSetD : V → V → V → Hp → (Hp → Prop) → Prop := fun o i v H Q => match o with
  | .ref a => ∃ kvs k, H a = some (.dK kvs) ∧ i = kV k ∧ kvs.length < sizeLine ∧ ∀ H2, Wr H a (.dK (putK kvs k v)) H2 → Q H2
  | _ => False
theorem s_dict {X : Cx} (hu : X.A.units + 1 < cLine) : PSet X zSetD := by
  intro pins s σ H o i v ov iv u Q I ro ri rv h
  unfold zSetD at h
  split at h
  · obtain ⟨kvs, k, ea, rfl, hl, q⟩ := h
    cases ro
    exact d_setItem hu I (DPut.k ea hl) ri rv fun s' J => ⟨_, J, q _ wr⟩
  · exact h.elim
/-- range(a, b) -/
def tRng2 (ta : TA) : TI := fun σ H R => ta σ H fun vs H1 => match vs with
  | [.int i, .int j] => -(2 ^ 62) ≤ i ∧ i < 2 ^ 62 ∧ -(2 ^ 62) ≤ j ∧ j < 2 ^ 62 ∧ R (Itr i (j - i).toNat) H1
  | _ => False
theorem pi_rng2 {X : Cx} {tg a b : Expr} {ta : TA} {p pos : Pos} (hg : Gl X "range") (hm : X.mg "range" = none) (ha : PA X [a, b] ta) (hs : starEach [a, b] X.env = [(false, eval a X.env), (false, eval b X.env)] := by rfl) (hs2 : starEach [b] X.env = [(false, eval b X.env)] := by rfl) :
    PI X tg (.Call (.Name "range" p) [a, b] [] pos) (tRng2 ta) :=
  pi_w (pi_range2 hg hm (pa_mon ha) hs hs2) fun σ H R h => ⟨_, h, fun vs H1 h1 => by
    split at h1
    · obtain ⟨a1, a2, a3, a4, q⟩ := h1
      exact ⟨_, _, rfl, ⟨a1, a2, a3, a4⟩, q⟩
    · exact h1.elim⟩
/-! ### lists that may be shown beside a dict: they do not lie where the modules do -/
def zAddS (K : PySem.W.Frag) : R2 := fun x y H Q => match x, y with
  | .ref l, .ref b => ∃ xs zs, H l = some (.lst xs) ∧ H b = some (.lst zs) ∧ xs.length + zs.length ≤ sizeLine ∧ ∀ p H2, Nw H p (.lst (xs ++ zs)) H2 → p ≠ sysModules → Q (.ref p) H2
  | x, y => zAdd K x y H Q
theorem o_addS {X : Cx} : OpR X (binaryOp .Add) (zAddS X.K) := by
  intro pins s σ H x y v u Q I rx ry h
  unfold zAddS at h
  split at h
  · rename_i l b
    obtain ⟨xs, zs, h1, h2, hz, q⟩ := h
    cases rx
    cases ry
    obtain ⟨z1, its, n, r, hl, e⟩ := I.lstM h1
    obtain ⟨z2, its2, n2, r2, hl2, e2⟩ := I.lstM h2
    refine PySem.P.add_list e e2 ?_ (by rw [List.size_toArray, List.size_toArray]; omega)
    rw [show its.toArray ++ its2.toArray = (its ++ its2).toArray by simp]
    exact ⟨.ref _, _, I.lnew (t' := s.toks) (r.append r2) (by rw [List.length_append]; omega), rfl, q _ _ (nw I.fresh) (Nat.ne_of_gt I.big)⟩
  · exact o_add pins s σ H _ _ v u Q I rx ry h
theorem k_addS {X : Cx} (K : PySem.W.Frag) (hK : X.K = K := by rfl) : OpR X (binaryOp .Add) (zAddS K) := hK ▸ o_addS
def zListS (K : PySem.W.Frag) : List V → Hp → VK → Prop := fun vs H Q => match vs with
  | [.ref p] => ∃ ys, (SqL K H p ys ∨ SqT K H p ys) ∧ ∀ l H2, Nw H l (.lst ys) H2 → l ≠ sysModules → Q (.ref l) H2
  | _ => False
theorem c_listS {X : Cx} : CallR X (.type "list") (zListS X.K) := by
  intro pins s σ H xs us Q I r h
  unfold zListS at h
  split at h
  · rename_i p
    obtain ⟨ys, hq, q⟩ := h
    obtain ⟨u, rfl, ru⟩ := vals1 r
    cases ru
    have put : ∀ (its : List Value), Vals ys its → ys.length ≤ sizeLine → ∀ (h' : Heap) (n : Nat), (∀ b o, s.heap.get? b = some o → h'.get? b = some o) →
        h'.get? s.heap.objs.size = some { cls := .type "list", dict := none, data := .seq its.toArray n, slots := #[] } → EP X pins σ Q (.ref s.heap.objs.size) { s with heap := h' } := by
      intro its rv hz h' n kp e
      exact ⟨.ref _, _, I.laid (t' := s.toks) kp (Nat.le_refl _) (show ObjOk X.prog X.w _ h' _ (.lst ys) from ⟨hz, its, n, rv, e⟩), rfl, q _ _ (nw (I.hok.fresh (Nat.le_refl _))) (Nat.ne_of_gt I.big)⟩
    rcases hq with hq | hq
    · obtain ⟨its, rv, pl, hz⟩ := I.list hq
      have ll := rv.length
      obtain ⟨o, ho, hc, n, hd⟩ := pl.isList
      refine call_list_seq p (.inl rfl) ho hc hd (fun h' n' kp e => put its rv hz h' n' kp e) ?_
      simp only [List.size_toArray] <;> omega
    · obtain ⟨its, rv, ⟨o, ho, hc, n, hd⟩, hz⟩ := I.tuple hq
      have ll := rv.length
      refine call_list_seq p (.inr rfl) ho hc hd (fun h' n' kp e => put its rv hz h' n' kp e) ?_
      simp only [List.size_toArray] <;> omega
  · exact h.elim
theorem k_listS {X : Cx} (K : PySem.W.Frag) (hK : X.K = K := by rfl) : CallR X (.type "list") (zListS K) := hK ▸ c_listS
/-- isinstance of an error, by what the classes say of each other -/
theorem kit_sub {K : PySem.W.Frag} {C D : Addr} {b : Bool} (h : PySem.W.subIn K (.ref C) (.ref D) = some b) (self : PySem.W.subIn K (.ref C) (.ref C) = some true) (hd : PySem.W.hasDictIn K D = true) (ty : PySem.W.typeIn K (.ref D) = some (.type "type")) : PySem.W.kitOne K (.ref C) (.ref D) = some b := by
  unfold PySem.W.kitOne
  split
  · rename_i e
    have e : C = D := Value.ref.inj (eq_of_beq e)
    subst e
    rw [self] at h
    exact h
  · obtain ⟨cd, hc, _⟩ := PySem.W.any_some hd
    have e2 : ((PySem.W.clsIn K D).isSome && PySem.W.typeIn K (.ref D) == some (.type "type")) = true := by rw [hc, ty] <;> rfl
    show (if ((PySem.W.clsIn K D).isSome && PySem.W.typeIn K (.ref D) == some (.type "type")) = true then PySem.W.subIn K (.ref C) (.ref D) else none) = some b
    rw [if_pos e2]
    exact h
end Z

/-! C: own classes: their methods, which may raise, by place and by name. -/
namespace Z
open PySem PySem.Spec PyProof.Rows L2

/-- a method's contract -/
structure Mt (P : Program) (w : World) (K : PySem.W.Frag) (mg : Str → Option Value) (base : Heap) (CX : CXT) (k : Nat) (C : Addr) (m : Str) (ps : List Str) (sp : Sp) : Prop where
  ex : ∃ f fd, Cls K C ∧ Meth K C m f ∧ Binds K fd ps [] ∧ FnOk P w K mg base CX k f fd ps sp ∧ ∃ oc od osl, K.lookup f = some ⟨oc, od, .func fd, osl⟩
/-- a method's def as it stands -/
structure Dm (K : PySem.W.Frag) (C : Addr) (m qual : Str) (st : Stmt) (ps : List Str) : Prop where
  ex : ∃ f fd, Fun K m qual st f fd ∧ Cls K C ∧ Meth K C m f ∧ Binds K fd ps []
section
variable {P : Program} {w : World} {K : PySem.W.Frag} {mg : Str → Option Value} {base : Heap} {C : Addr} {m qual : Str} {st : Stmt}
theorem mt_of {N ps : List Str} {k : Nat} {sp : Sp} (D : Dm K C m qual st ps) (S : FnScope N ps (defScope st)) (len : ∀ vs H Q E, sp vs H Q E → vs.length = ps.length)
    (body : ∀ (f : Addr) (cdv : Value) (A : Around) (outer : List Env) (s : Shared) (H : Hp) (vs : List V) (Q : VK) (E : XK), Room k (A.deeper (envOfC qual (defScope st) s.heap.objs.size f cdv)) → sp vs H Q E →
      ∃ t, PSs (cxOf CX0 P w K mg base N qual (defScope st) f cdv A outer s H E).nox (defBody st) t ∧ t { nx := fun _ H' => Q .non H', rt := Q } (start N vs) H) : Mt P w K mg base CX0 (k + 1) C m ps sp := by
  obtain ⟨f, fd, F, hc, hm, hb⟩ := D.ex
  exact ⟨f, fd, hc, hm, hb, F.ok S len fun cdv A outer s H vs Q E hr h => body f cdv A outer s H vs Q E hr h, fun_at F⟩
theorem mx_of {N ps : List Str} {k : Nat} {sp : Sp} (D : Dm K C m qual st ps) (S : FnScope N ps (defScope st)) (len : ∀ vs H Q E, sp vs H Q E → vs.length = ps.length)
    (body : ∀ (f : Addr) (cdv : Value) (A : Around) (outer : List Env) (s : Shared) (H : Hp) (vs : List V) (Q : VK) (E : XK), Room k (A.deeper (envOfC qual (defScope st) s.heap.objs.size f cdv)) → sp vs H Q E →
      ∃ t, PSs (cxOf (L2.CX P w) P w K mg base N qual (defScope st) f cdv A outer s H E) (defBody st) t ∧ t { nx := fun _ H' => Q .non H', rt := Q } (start N vs) H) : Mt P w K mg base (L2.CX P w) (k + 1) C m ps sp := by
  obtain ⟨f, fd, F, hc, hm, hb⟩ := D.ex
  exact ⟨f, fd, hc, hm, hb, F.okX S len fun cdv A outer s H vs Q E hr h => body f cdv A outer s H vs Q E hr h, fun_at F⟩
theorem len1 {p : V → Hp → VK → XK → Prop} {a : Str} (vs : List V) (H : Hp) (Q : VK) (E : XK) (h : sp1 p vs H Q E) : vs.length = [a].length := by
  obtain ⟨u, rfl, _⟩ := sp1_of h
  rfl
theorem len2 {p : V → V → Hp → VK → XK → Prop} {a b : Str} (vs : List V) (H : Hp) (Q : VK) (E : XK) (h : sp2 p vs H Q E) : vs.length = [a, b].length := by
  obtain ⟨u, v, rfl, _⟩ := sp2_of h
  rfl
theorem len3 {p : V → V → V → Hp → VK → XK → Prop} {a b c : Str} (vs : List V) (H : Hp) (Q : VK) (E : XK) (h : sp3 p vs H Q E) : vs.length = [a, b, c].length := by
  obtain ⟨u, v, y, rfl, _⟩ := sp3_of h
  rfl
/-- methods of one to three parameters, self first -/
theorem mt1 {a : Str} {N : List Str} {k : Nat} {p : V → Hp → VK → XK → Prop} (D : Dm K C m qual st [a]) (S : FnScope N [a] (defScope st))
    (body : ∀ (f : Addr) (cdv : Value) (A : Around) (outer : List Env) (s : Shared) (H : Hp) (u : V) (Q : VK) (E : XK), Room k (A.deeper (envOfC qual (defScope st) s.heap.objs.size f cdv)) → p u H Q E →
      ∃ t, PSs (cxOf CX0 P w K mg base N qual (defScope st) f cdv A outer s H E).nox (defBody st) t ∧ t { nx := fun _ H' => Q .non H', rt := Q } (start N [u]) H) : Mt P w K mg base CX0 (k + 1) C m [a] (sp1 p) :=
  mt_of D S len1 fun f cdv A outer s H vs Q E hr h => by
    obtain ⟨u, rfl, h⟩ := sp1_of h
    exact body f cdv A outer s H u Q E hr h
theorem mt2 {a b : Str} {N : List Str} {k : Nat} {p : V → V → Hp → VK → XK → Prop} (D : Dm K C m qual st [a, b]) (S : FnScope N [a, b] (defScope st))
    (body : ∀ (f : Addr) (cdv : Value) (A : Around) (outer : List Env) (s : Shared) (H : Hp) (u v : V) (Q : VK) (E : XK), Room k (A.deeper (envOfC qual (defScope st) s.heap.objs.size f cdv)) → p u v H Q E →
      ∃ t, PSs (cxOf CX0 P w K mg base N qual (defScope st) f cdv A outer s H E).nox (defBody st) t ∧ t { nx := fun _ H' => Q .non H', rt := Q } (start N [u, v]) H) : Mt P w K mg base CX0 (k + 1) C m [a, b] (sp2 p) :=
  mt_of D S len2 fun f cdv A outer s H vs Q E hr h => by
    obtain ⟨u, v, rfl, h⟩ := sp2_of h
    exact body f cdv A outer s H u v Q E hr h
theorem mx1 {a : Str} {N : List Str} {k : Nat} {p : V → Hp → VK → XK → Prop} (D : Dm K C m qual st [a]) (S : FnScope N [a] (defScope st))
    (body : ∀ (f : Addr) (cdv : Value) (A : Around) (outer : List Env) (s : Shared) (H : Hp) (u : V) (Q : VK) (E : XK), Room k (A.deeper (envOfC qual (defScope st) s.heap.objs.size f cdv)) → p u H Q E →
      ∃ t, PSs (cxOf (L2.CX P w) P w K mg base N qual (defScope st) f cdv A outer s H E) (defBody st) t ∧ t { nx := fun _ H' => Q .non H', rt := Q } (start N [u]) H) : Mt P w K mg base (L2.CX P w) (k + 1) C m [a] (sp1 p) :=
  mx_of D S len1 fun f cdv A outer s H vs Q E hr h => by
    obtain ⟨u, rfl, h⟩ := sp1_of h
    exact body f cdv A outer s H u Q E hr h
theorem mx2 {a b : Str} {N : List Str} {k : Nat} {p : V → V → Hp → VK → XK → Prop} (D : Dm K C m qual st [a, b]) (S : FnScope N [a, b] (defScope st))
    (body : ∀ (f : Addr) (cdv : Value) (A : Around) (outer : List Env) (s : Shared) (H : Hp) (u v : V) (Q : VK) (E : XK), Room k (A.deeper (envOfC qual (defScope st) s.heap.objs.size f cdv)) → p u v H Q E →
      ∃ t, PSs (cxOf (L2.CX P w) P w K mg base N qual (defScope st) f cdv A outer s H E) (defBody st) t ∧ t { nx := fun _ H' => Q .non H', rt := Q } (start N [u, v]) H) : Mt P w K mg base (L2.CX P w) (k + 1) C m [a, b] (sp2 p) :=
  mx_of D S len2 fun f cdv A outer s H vs Q E hr h => by
    obtain ⟨u, v, rfl, h⟩ := sp2_of h
    exact body f cdv A outer s H u v Q E hr h
theorem mx3 {a b c : Str} {N : List Str} {k : Nat} {p : V → V → V → Hp → VK → XK → Prop} (D : Dm K C m qual st [a, b, c]) (S : FnScope N [a, b, c] (defScope st))
    (body : ∀ (f : Addr) (cdv : Value) (A : Around) (outer : List Env) (s : Shared) (H : Hp) (u v y : V) (Q : VK) (E : XK), Room k (A.deeper (envOfC qual (defScope st) s.heap.objs.size f cdv)) → p u v y H Q E →
      ∃ t, PSs (cxOf (L2.CX P w) P w K mg base N qual (defScope st) f cdv A outer s H E) (defBody st) t ∧ t { nx := fun _ H' => Q .non H', rt := Q } (start N [u, v, y]) H) : Mt P w K mg base (L2.CX P w) (k + 1) C m [a, b, c] (sp3 p) :=
  mx_of D S len3 fun f cdv A outer s H vs Q E hr h => by
    obtain ⟨u, v, y, rfl, h⟩ := sp3_of h
    exact body f cdv A outer s H u v y Q E hr h
/-- the same method called by names behind self: g puts the values in the parameters' order -/
structure MtK (P : Program) (w : World) (K : PySem.W.Frag) (mg : Str → Option Value) (base : Heap) (CX : CXT) (k : Nat) (C : Addr) (m : Str) (ps ks : List Str) (g : {α : Type} → List α → List α) (sp : Sp) : Prop where
  ex : ∃ f fd, Cls K C ∧ Meth K C m f ∧ (∀ (s : Shared) (u : Value) (ws : List Value), (u :: g ws).length = ps.length → BindsTo s fd ⟨[u], ks.zip ws⟩ (ps.zip (u :: g ws))) ∧ (∀ {zs : List V} {ws : List Value}, Vals zs ws → Vals (g zs) (g ws)) ∧ FnOk P w K mg base CX k f fd ps sp
theorem Mt.kw {CX : CXT} {k : Nat} {ps ks : List Str} {g : {α : Type} → List α → List α} {sp : Sp} (M : Mt P w K mg base CX k C m ps sp) (D : Dm K C m qual st ps)
    (h : ∀ (kV doc pm : Value) (an : Option Addr) (cdv ct : Value) (u : Value) (ws : List Value), (u :: g ws).length = ps.length → bindArgs (PySem.W.fnOf m qual (defArgs st) (defBody st) (defScope st) .none kV doc pm an cdv ct) ⟨[u], ks.zip ws⟩ = pure (ps.zip (u :: g ws)))
    (hg : ∀ {zs : List V} {ws : List Value}, Vals zs ws → Vals (g zs) (g ws)) : MtK P w K mg base CX k C m ps ks g sp := by
  obtain ⟨f, fd, hc, hm, hb, F, oc, od, osl, hl⟩ := M.ex
  obtain ⟨f', fd', F', _, hm', _⟩ := D.ex
  have e : f = f' := by
    have a := hm.at_
    rw [hm'.at_] at a
    cases a
    rfl
  subst e
  obtain ⟨oc', od', kV, doc, pm, an, cdv, ct, osl', rfl, hl', _⟩ := F'.ex
  have e2 : fd = PySem.W.fnOf m qual (defArgs st) (defBody st) (defScope st) .none kV doc pm an cdv ct := by
    rw [hl] at hl'
    cases hl'
    rfl
  subst e2
  exact ⟨f, _, hc, hm, fun s u ws hlen => .of_eq (h kV doc pm an cdv ct u ws hlen), hg, F⟩
end
/-- o.m(..): the receiver, then the values -/
def tMt (C : Addr) (m : Str) (sp : Sp) (E : L2.St → XK) (ta : TE) (t : TA) : TE := fun σ H Q => ta σ H fun x H1 => match x with
  | .ref a => ∃ dx fs, H1 a = some (.ins C dx fs) ∧ fs.lookup m = none ∧ t σ H1 fun vs H2 => sp (.ref a :: vs) H2 Q (E σ)
  | _ => False
def tMtK (C : Addr) (m : Str) (g : {α : Type} → List α → List α) (sp : Sp) (E : L2.St → XK) (ta : TE) (t : TA) : TE := fun σ H Q => ta σ H fun x H1 => match x with
  | .ref a => ∃ dx fs, H1 a = some (.ins C dx fs) ∧ fs.lookup m = none ∧ t σ H1 fun vs H2 => sp (.ref a :: g vs) H2 Q (E σ)
  | _ => False
section
variable {X : Cx} {CX : CXT} {k : Nat} {C : Addr} {m : Str} {ps ks : List Str} {sp : Sp} {E : L2.St → XK} {pos apos : Pos} {e o : Expr} {es : List Expr} {ta : TE} {t : TA} {kws : List Keyword}
theorem pe_mtA {pl : Sem Bool} (M : Mt X.prog X.w X.K X.mg X.base CX k C m ps sp) (hr : Room k X.A) (hx : ∀ σ, PassesAt CX X σ (E σ)) (ho : PE X o ta) (ha : PA X (e :: es) t)
    (hst : starEach (e :: es) X.env = (false, eval e X.env) :: starEach es X.env := by rfl) (hpl : (backTo pos (starEach es X.env)).any (·.1) = false := by rfl)
    (ht : eval (.Call (.Attribute o m apos) (e :: es) [] pos) X.env = (do
      let ov ← eval o X.env
      standAt apos.atName
      let (f, first) ← holding [ov] (getMethod ov m pl)
      callWith pos f first (backTo pos (starEach (e :: es) X.env)) (backToKw pos (keywordEach [] X.env))) := by rfl) : PE X (.Call (.Attribute o m apos) (e :: es) [] pos) (tMt C m sp E ta t) := by
  obtain ⟨f, fd, hc, hm, hb, F, _⟩ := M.ex
  constructor
  intro pins s σ H Q I h
  refine PySem.W.methodCall_KW (pl := pl) (thn (ho.run pins s σ H _ I h) ?_) ht
  rintro u s1 ⟨x, H1, I1, rx, h1⟩
  split at h1
  · rename_i a
    obtain ⟨dx, fs, ea, l, q⟩ := h1
    obtain rfl : u = Value.ref a := rx
    apply getmeth_ok I1 ea hc hm l
    refine PySem.W.callWith_K (first := [.ref a]) (h₀ := X.base) I.ok.mod.kin hm.kp (thn (ha.run pos pins s1 σ H1 _ I1 q) ?_) hst hpl
    rintro us s2 ⟨vs, H2, I2, r, q2⟩
    exact ⟨I2.kIn, run_fnS (us := .ref a :: us) (vs := .ref a :: vs) F hr hb (hx σ) I2 (.cons rfl r) q2⟩
  · exact h1.elim
theorem pe_mtA0 {pl : Sem Bool} (M : Mt X.prog X.w X.K X.mg X.base CX k C m ps sp) (hr : Room k X.A) (hx : ∀ σ, PassesAt CX X σ (E σ)) (ho : PE X o ta)
    (ht : eval (.Call (.Attribute o m apos) [] [] pos) X.env = (do
      let ov ← eval o X.env
      standAt apos.atName
      let (f, first) ← holding [ov] (getMethod ov m pl)
      callWith pos f first (backTo pos (starEach [] X.env)) (backToKw pos (keywordEach [] X.env))) := by rfl) : PE X (.Call (.Attribute o m apos) [] [] pos) (tMt C m sp E ta tNil) := by
  obtain ⟨f, fd, hc, hm, hb, F, _⟩ := M.ex
  constructor
  intro pins s σ H Q I h
  refine PySem.W.methodCall_KW (pl := pl) (thn (ho.run pins s σ H _ I h) ?_) ht
  rintro u s1 ⟨x, H1, I1, rx, h1⟩
  split at h1
  · rename_i a
    obtain ⟨dx, fs, ea, l, q⟩ := h1
    obtain rfl : u = Value.ref a := rx
    apply getmeth_ok I1 ea hc hm l
    exact PySem.W.callWith_K0 (first := [.ref a]) I1.kIn hm.kp (run_fnS (us := [.ref a]) (vs := [.ref a]) F hr hb (hx σ) I1 (.cons rfl .nil) q)
  · exact h1.elim
theorem pe_mtK {pl : Sem Bool} {g : {α : Type} → List α → List α} (M : MtK X.prog X.w X.K X.mg X.base CX k C m ps ks g sp) (hr : Room k X.A) (hx : ∀ σ, PassesAt CX X σ (E σ)) (ho : PE X o ta) (hkw : PK X kws t)
    (hall : (backToKw pos (keywordEach kws X.env)).all (·.1.isSome) = true := by rfl) (hks : (backToKw pos (keywordEach kws X.env)).filterMap (·.1) = ks := by rfl)
    (hpl : ((backTo pos (starEach [] X.env)).any (·.1) || (backToKw pos (keywordEach kws X.env)).any (·.1.isNone)) = false := by rfl)
    (ht : eval (.Call (.Attribute o m apos) [] kws pos) X.env = (do
      let ov ← eval o X.env
      standAt apos.atName
      let (f, first) ← holding [ov] (getMethod ov m pl)
      callWith pos f first (backTo pos (starEach [] X.env)) (backToKw pos (keywordEach kws X.env))) := by rfl) : PE X (.Call (.Attribute o m apos) [] kws pos) (tMtK C m g sp E ta t) := by
  obtain ⟨f, fd, hc, hm, hb, hrel, F⟩ := M.ex
  constructor
  intro pins s σ H Q I h
  refine PySem.W.methodCall_KW (pl := pl) (thn (ho.run pins s σ H _ I h) ?_) ht
  rintro u s1 ⟨x, H1, I1, rx, h1⟩
  split at h1
  · rename_i a
    obtain ⟨dx, fs, ea, l, q⟩ := h1
    obtain rfl : u = Value.ref a := rx
    apply getmeth_ok I1 ea hc hm l
    refine PySem.W.callWith_KW0 (first := [.ref a]) (h₀ := X.base) I.ok.mod.kin hm.kp hall (thn (hkw.run pos pins s1 σ H1 _ I1 q) ?_) hpl
    rintro ws s2 ⟨zs, H2, I2, rz, q2⟩
    refine ⟨I2.kIn, ?_⟩
    rw [hks]
    have r2 : Vals (V.ref a :: g zs) (Value.ref a :: g ws) := .cons rfl (hrel rz)
    have hl : (Value.ref a :: g ws).length = ps.length := r2.length.symm.trans (F.len _ _ _ _ q2)
    apply wpAny_call
    refine codeAny_mono (F.run X.A X.stack s2 H2 ⟨[.ref a], ks.zip ws⟩ (.ref a :: g ws) (.ref a :: g zs) Q (E σ) hr I2.env0 (hb s2 (.ref a) ws hl) r2 q2) ?_
    intro r s' z
    match r, z with
    | .error er, z => exact hx σ pins H2 s2 er s' I2 z
    | .ok (.ret u), z => exact I2.after z
    | .ok .next, z => exact False.elim z
    | .ok .brk, z => exact False.elim z
    | .ok .cont, z => exact False.elim z
  · exact h1.elim
/-- nothing is let out, of a def that may not; of a def that may, but does not here -/
theorem at0 (σ : L2.St) : PassesAt CX0 X σ ((fun _ => E0) σ) := fun _ _ _ _ _ _ h => h.elim
theorem atL (σ : L2.St) : PassesAt (L2.CX X.prog X.w) X σ ((fun _ => E0) σ) := fun _ _ _ _ _ _ h => by
  obtain ⟨_, _, _, _, _, _, _, _, _, _, _, _, z⟩ := h
  exact z.elim
/-- C(): the class under its name, its __init__ alone of self -/
structure Kn (P : Program) (w : World) (K : PySem.W.Frag) (mg : Str → Option Value) (base : Heap) (k : Nat) (x : Str) (C : Addr) (sp : Sp) : Prop where
  ex : ∃ f fd ps, Mk K C f ∧ FnOk P w K mg base CX0 k f fd ps sp ∧ mg x = some (.ref C) ∧ Binds K fd ps []
def tNew (C : Addr) (sp : Sp) : TE := fun _ H Q => ∀ a dx, H a = none → H dx = none → dx ≠ a → sp [.ref a] (upd (upd H dx (.own a)) a (.ins C dx [])) (fun v H2 => v = .non ∧ Q (.ref a) H2) E0
theorem pe_new0 {x : Str} {p : Pos} (c : Kn X.prog X.w X.K X.mg X.base k x C sp) (hr : Room (k + 1) X.A) (hg : Gl X x := by rfl) (hdb : (x == ("__debug__" : Str)) = false := by decide) : PE X (.Call (.Name x p) [] [] pos) (tNew C sp) := by
  obtain ⟨f, fd, ps, M, F, hm, b⟩ := c.ex
  refine pe_w (pe_make0 (E := E0) M F hr hg hm b .nil pass0 hdb) ?_
  intro σ H Q h a dx na nd ne
  exact h a dx na nd ne
end
/-! ### fields -/
section
variable {X : Cx} {C : Addr} {f : Str} {o e value : Expr} {pos pos' tpos : Pos} {ta tv : TE}
def tFdC (C : Addr) (ta : TE) (f : Str) : TE := fun σ H Q => ta σ H fun x H1 => match x with
  | .ref a => ∃ dx fs v, H1 a = some (.ins C dx fs) ∧ fs.lookup f = some v ∧ Q v H1
  | _ => False
theorem pe_fdC (c : Cls X.K C) (n : NoAttr X.K C f) (he : PE X e ta) (hb : attributeBase e f X.env (eval e X.env) = eval e X.env := by rfl) : PE X (.Attribute e f pos) (tFdC C ta f) :=
  pe_w (pe_fld (pe_mon he) hb) fun σ H Q h => ⟨_, h, fun x H1 h1 => by
    split at h1
    · obtain ⟨dx, fs, v, ea, l, q⟩ := h1
      exact ⟨_, C, dx, fs, v, rfl, ea, c, n, l, q⟩
    · exact h1.elim⟩
def sFdC (C : Addr) (ta tv : TE) (f : Str) : TS := fun D σ H => tv σ H fun y H1 => ta σ H1 fun x H2 => match x with
  | .ref a => ∃ dx fs, H2 a = some (.ins C dx fs) ∧ fs.length < 1000 ∧ ∀ H3, Wr H2 a (.ins C dx (putF f y fs)) H3 → D.nx σ H3
  | _ => False
theorem ps_fdC (c : Cls X.K C) (n : NoAttr X.K C f) (ha : PE X o ta) (hv : PE X value tv) (hs : swapsWith value (some (.Attribute o f pos')) pos.line X.env = pure false := by rfl) : PS X (.Assign [.Attribute o f pos'] value pos) (sFdC C ta tv f) :=
  ps_w (ps_fld (pe_mon ha) (pe_mon hv) hs) fun D σ H h => ⟨_, h, fun y H1 h1 => ⟨_, h1, fun x H2 h2 => by
    split at h2
    · obtain ⟨dx, fs, ea, l, q⟩ := h2
      exact ⟨_, C, dx, fs, rfl, ea, c, n, l, q _ wr⟩
    · exact h2.elim⟩⟩
def sFaC (C : Addr) (ta tv : TE) (rd : V → V → Hp → VK → Prop) (f : Str) : TS := fun D σ H => ta σ H fun x H1 => match x with
  | .ref a => ∃ dx fs v, H1 a = some (.ins C dx fs) ∧ fs.lookup f = some v ∧ tv σ H1 fun y H2 => rd v y H2 fun z H3 => ∃ dx' fs', H3 a = some (.ins C dx' fs') ∧ fs'.length < 1000 ∧ ∀ H4, Wr H3 a (.ins C dx' (putF f z fs')) H4 → D.nx σ H4
  | _ => False
end
section
variable {X : Cx} {C : Addr} {f : Str} {o value : Expr} {pos tpos : Pos} {ta tv : TE}
theorem inop_mon {op : Operator} {rd : V → V → Hp → VK → Prop} (h : InOp X op rd) : InOp X op (fun x y H Q => ∃ Q0 : VK, rd x y H Q0 ∧ ∀ z H1, Q0 z H1 → Q z H1) := fun pins s σ H x y u v Q I rx ry ⟨Q0, q, i⟩ =>
  thn (h pins s σ H x y u v Q0 I rx ry q) fun w s' ⟨z, H', J, r, q'⟩ => ⟨z, H', J, r, i z H' q'⟩
theorem ps_faC {op : Operator} {rd : V → V → Hp → VK → Prop} (c : Cls X.K C) (n : NoAttr X.K C f) (ha : PE X o ta) (hv : PE X value tv) (hop : InOp X op rd) : PS X (.AugAssign (.Attribute o f tpos) op value pos) (sFaC C ta tv rd f) :=
  ps_w (ps_fldaug (pe_mon ha) (pe_mon hv) (inop_mon hop)) fun D σ H h => ⟨_, h, fun x H1 h1 => by
    split at h1
    · obtain ⟨dx, fs, v, ea, l, q⟩ := h1
      exact ⟨_, C, dx, fs, v, rfl, ea, c, n, l, _, q, fun y H2 q2 => ⟨_, q2, fun z H3 q3 => by
        obtain ⟨dx', fs', e3, l3, q3⟩ := q3
        exact ⟨dx', fs', e3, l3, q3 _ wr⟩⟩⟩
    · exact h1.elim⟩
end
/-! ### dicts -/
section
variable {X : Cx} {o i e f : Expr} {td ty tx : TE} {pos apos cpos : Pos}
def tDG (td ty : TE) : TE := fun σ H Q => td σ H fun x H1 => match x with
  | .ref a => (∃ kvs, H1 a = some (.dK kvs)) ∧ ty σ H1 fun y H2 => ∃ kvs k v, H2 a = some (.dK kvs) ∧ y = kV k ∧ valV kvs k = some v ∧ Q v H2
  | _ => False
theorem pe_dg (hu : X.A.units + 1 < cLine) (ho : PE X o td) (hi : PE X i ty) (hs : NoSl i) : PE X (.Subscript o i pos) (tDG td ty) :=
  pe_w (pe_dget hu (pe_mon ho) (pe_mon hi) hs) fun σ H Q h => ⟨_, h, fun x H1 h1 => by
    split at h1
    · obtain ⟨⟨kvs, e⟩, q⟩ := h1
      exact ⟨_, q, fun y H2 q2 => by
        obtain ⟨kvs2, k, v, e2, rfl, hv, q2⟩ := q2
        exact ⟨_, v, rfl, hv ▸ DGet.k e2, q2⟩⟩
    · exact h1.elim⟩
def tDG2 (td ty tx : TE) : TE := fun σ H Q => td σ H fun x H1 => match x with
  | .ref a => (∃ kvs, H1 a = some (.dK kvs)) ∧ ty σ H1 fun y H2 => tx σ H2 fun z H3 => ∃ kvs k, H3 a = some (.dK kvs) ∧ y = kV k ∧ Q ((valV kvs k).getD z) H3
  | _ => False
theorem pe_dg2 (hu : X.A.units + 1 < cLine) (ho : PE X o td) (he : PE X e ty) (hf : PE X f tx) (m : M2 X o "get" apos e f cpos) : PE X (.Call (.Attribute o "get" apos) [e, f] [] cpos) (tDG2 td ty tx) :=
  pe_w (pe_dget2 hu (pe_mon ho) (pe_mon he) (pe_mon hf) m) fun σ H Q h => ⟨_, h, fun x H1 h1 => by
    split at h1
    · obtain ⟨⟨kvs, e⟩, q⟩ := h1
      exact ⟨_, rfl, .inl ⟨kvs, .inl e⟩, _, q, fun y H2 q2 => ⟨_, q2, fun z H3 q3 => by
        obtain ⟨kvs2, k, e3, rfl, q3⟩ := q3
        exact ⟨_, DGet.k e3, q3⟩⟩⟩
    · exact h1.elim⟩
def zInD (neg : Bool) : R2 := fun x y H Q => match y with
  | .ref a => ∃ kvs k, H a = some (.dK kvs) ∧ x = kV k ∧ Q (.bl (neg ^^ (valV kvs k).isSome)) H
  | _ => False
theorem o_inZ (hu : X.A.units + 1 < cLine) : OpR X (compareOp .In) (zInD false) := by
  intro pins s σ H x y v u Q I rx ry h
  unfold zInD at h
  split at h
  · obtain ⟨kvs, k, e, rfl, q⟩ := h
    cases ry
    exact d_in hu I (DGet.k e) rx fun s' J => ⟨.bl _, H, J, rfl, by simpa using q⟩
  · exact h.elim
theorem o_ninZ (hu : X.A.units + 1 < cLine) : OpR X (compareOp .NotIn) (zInD true) := by
  intro pins s σ H x y v u Q I rx ry h
  unfold zInD at h
  split at h
  · obtain ⟨kvs, k, e, rfl, q⟩ := h
    cases ry
    exact d_notIn hu I (DGet.k e) rx fun s' J => ⟨.bl _, H, J, rfl, by simpa using q⟩
  · exact h.elim
def zListD : List V → Hp → VK → Prop := fun vs H Q => match vs with
  | [.ref a] => ∃ kvs, H a = some (.dK kvs) ∧ ∀ p H2, Nw H p (.lst (kvs.map fun kv => kV kv.1)) H2 → Q (.ref p) H2
  | _ => False
theorem c_listD (hc : X.calm = true) : CallR X (.type "list") zListD := callr_w (call_listD hc) fun vs H Q h => by
  unfold zListD at h
  split at h
  · obtain ⟨kvs, e, q⟩ := h
    exact ⟨_, kvs, rfl, .inl e, fun p hp => q p _ (nw hp)⟩
  · exact h.elim
def zSortS (K : PySem.W.Frag) : List V → Hp → VK → Prop := fun vs H Q => match vs with
  | [.ref a] => ∃ xs : List Str, SqL K H a (xs.map V.str) ∧ xs.length < 64 ∧ ∀ (ys : List Str) (p : Addr) (H2 : Hp), ys.Perm xs → sortedS ys = true → Nw H p (.lst (ys.map V.str)) H2 → Q (.ref p) H2
  | _ => False
theorem c_sortS : CallR X (.builtin "sorted") (zSortS X.K) := callr_w cr_sortedS fun vs H Q h => by
  unfold zSortS at h
  split at h
  · obtain ⟨xs, e, l, q⟩ := h
    exact ⟨_, xs, rfl, e, l, fun ys p a b hp => q ys p _ a b (nw hp)⟩
  · exact h.elim
theorem k_sortS (K : PySem.W.Frag) (hK : X.K = K := by rfl) : CallR X (.builtin "sorted") (zSortS K) := hK ▸ c_sortS
def tRv (K : PySem.W.Frag) (te : TE) : TE := fun σ H Q => te σ H fun x H1 => match x with
  | .ref a => ∃ xs, SqL K H1 a xs ∧ ∀ p H2, Nw H1 p (.lst xs.reverse) H2 → Q (.ref p) H2
  | _ => False
theorem pe_rv {k : Nat} {p1 p2 p3 : Pos} (K : PySem.W.Frag) (he : PE X e td) (hK : X.K = K := by rfl) : PE X (.Subscript e (.Slice none none (some (.UnaryOp .USub (.Constant (.int 1) k p1) p2)) p3) pos) (tRv K td) :=
  hK ▸ pe_w (pe_revL (pe_mon he)) fun σ H Q h => ⟨_, h, fun x H1 h1 => by
    split at h1
    · obtain ⟨xs, e, q⟩ := h1
      exact ⟨_, xs, rfl, e, fun p hp => q p _ (nw hp)⟩
    · exact h1.elim⟩
end
/-- an __init__ of self alone -/
theorem ini1 {P : Program} {w : World} {K : PySem.W.Frag} {mg : Str → Option Value} {base : Heap} {q : Str} {st : Stmt} {f : Addr} {fd : FuncData} {a : Str} {N : List Str} {k : Nat} {p : V → Hp → VK → XK → Prop} (F : Fun K "__init__" q st f fd) (S : FnScope N [a] (defScope st))
    (body : ∀ (cdv : Value) (A : Around) (outer : List Env) (s : Shared) (H : Hp) (u : V) (Q : VK) (E : XK), Room k (A.deeper (envOfC q (defScope st) s.heap.objs.size f cdv)) → p u H Q E →
      ∃ t, PSs (cxOf CX0 P w K mg base N q (defScope st) f cdv A outer s H E).nox (defBody st) t ∧ t { nx := fun _ H' => Q .non H', rt := Q } (start N [u]) H) : FnOk P w K mg base CX0 (k + 1) f fd [a] (sp1 p) := by
  refine F.ok S len1 ?_
  intro cdv A outer s H vs Q E hr h
  obtain ⟨u, rfl, h⟩ := sp1_of h
  exact body cdv A outer s H u Q E hr h

/-! ### a < b < c as a test, five parameters -/
section
variable {X : Cx} {ta tb tc : TE} {a b c : Expr} {pos : Pos}
theorem pt_chT {op op' : CmpOp} {r r' : R2} (ho : OpR X (compareOp op) r) (ho' : OpR X (compareOp op') r') (ha : PE X a ta) (hb : PE X b tb) (hc : PE X c tc) (hm : lastMarks [op, op'] [b, c] = false := by with_unfolding_all rfl) :
    PT X (.Compare a [op, op'] [b, c] pos) (tBz (tChZ r r' ta tb tc)) :=
  pt_w (pt_chain (opr_mon ho) (opr_mon ho') (pe_mon ha) (pe_mon hb) (pe_mon hc) hm) fun σ H Q h => ⟨_, h, fun x H1 h1 => ⟨_, h1, fun y H2 h2 => ⟨_, h2, fun z H3 h3 => by
    obtain ⟨k, e, h4⟩ := zB_of h3
    refine ⟨k, e, ?_⟩
    cases k with
    | false => exact zB_of h4
    | true => exact ⟨_, h4, fun w' H4 h5 => ⟨_, h5, fun z' H5 h6 => zB_of h6⟩⟩⟩⟩⟩
end
def sp5 (p : V → V → V → V → V → Hp → VK → XK → Prop) : Sp := fun vs H Q E => match vs with
  | [a, b, c, d, e] => p a b c d e H Q E
  | _ => False
theorem sp5_of {p : V → V → V → V → V → Hp → VK → XK → Prop} {vs : List V} {H : Hp} {Q : VK} {E : XK} (h : sp5 p vs H Q E) : ∃ a b c d e, vs = [a, b, c, d, e] ∧ p a b c d e H Q E := by
  unfold sp5 at h
  split at h
  · exact ⟨_, _, _, _, _, rfl, h⟩
  · exact h.elim
section
variable {P : Program} {w : World} {K : PySem.W.Frag} {mg : Str → Option Value} {base : Heap}
theorem ct5 {x : Str} {st : Stmt} {a b c d e : Str} {N : List Str} {k : Nat} {p : V → V → V → V → V → Hp → VK → XK → Prop} (D : Df K mg x st [a, b, c, d, e]) (S : FnScope N [a, b, c, d, e] (defScope st))
    (body : ∀ (f : Addr) (cdv : Value) (A : Around) (outer : List Env) (s : Shared) (H : Hp) (u v y z q : V) (Q : VK) (E : XK), Room k (A.deeper (envOfC x (defScope st) s.heap.objs.size f cdv)) → p u v y z q H Q E →
      ∃ t, PSs (cxOf CX0 P w K mg base N x (defScope st) f cdv A outer s H E).nox (defBody st) t ∧ t { nx := fun _ H' => Q .non H', rt := Q } (start N [u, v, y, z, q]) H) : Ct P w K mg base CX0 (k + 1) x [a, b, c, d, e] (sp5 p) := by
  obtain ⟨f, fd, F, hm, hb⟩ := D.ex
  refine ⟨f, fd, hm, F.kp, hb, F.ok S (fun vs H Q E h => ?_) (fun cdv A outer s H vs Q E hr h => ?_), fun_at F⟩
  · obtain ⟨u, v, y, z, q, rfl, _⟩ := sp5_of h
    rfl
  · obtain ⟨u, v, y, z, q, rfl, h⟩ := sp5_of h
    exact body f cdv A outer s H u v y z q Q E hr h
end
end Z

/-! M9: texts as lists of codes: signs, frames, their reading. -/
namespace M9
open PySem PySem.Spec PyProof.Rows L2 Z SX PySem.NumText

/-! ### signs -/
def Pr (l : List Nat) : Prop := ∀ c ∈ l, 32 ≤ c ∧ c ≤ 126
theorem pr_nil : Pr [] := fun _ h => by cases h
theorem pr_cons {c : Nat} {l : List Nat} (h : 32 ≤ c ∧ c ≤ 126) (t : Pr l) : Pr (c :: l) := fun d hd => by
  rcases List.mem_cons.mp hd with rfl | hd
  · exact h
  · exact t d hd
theorem pr_app {l m : List Nat} (a : Pr l) (b : Pr m) : Pr (l ++ m) := fun c hc => (List.mem_append.mp hc).elim (a c) (b c)
theorem pr_take {l : List Nat} (n : Nat) (a : Pr l) : Pr (l.take n) := fun c hc => a c (List.mem_of_mem_take hc)
theorem pr_drop {l : List Nat} (n : Nat) (a : Pr l) : Pr (l.drop n) := fun c hc => a c (List.mem_of_mem_drop hc)
theorem pr_rep {l : List Nat} (n : Nat) (a : Pr l) : Pr (List.replicate n l).flatten := fun c hc => by
  obtain ⟨m, hm, hc⟩ := List.mem_flatten.mp hc
  rw [(List.mem_replicate.mp hm).2] at hc
  exact a c hc
theorem pr_flat {ls : List (List Nat)} (a : ∀ l ∈ ls, Pr l) : Pr ls.flatten := fun c hc => by
  obtain ⟨m, hm, hc⟩ := List.mem_flatten.mp hc
  exact a m hm c hc
theorem pr_of {l : List Nat} (h : (l.all fun c => decide (32 ≤ c) && decide (c ≤ 126)) = true) : Pr l := fun c hc => by
  have q := (List.all_eq_true.mp h) c hc
  simpa using q
theorem printable_all : ∀ c : _root_.Fin 127, 32 ≤ c.val → Unicode.isPrintable c.val = true := by decide +kernel
theorem isascii_S {l : List Nat} (h : Pr l) : Txt.isascii (S l) = true := by
  show (l.toArray.all fun c => decide (c < 128)) = true
  rw [← Array.all_toList, List.all_eq_true]
  intro c hc
  have := h c (by simpa using hc)
  exact decide_eq_true (by omega)
theorem isprintable_S {l : List Nat} (h : Pr l) : Txt.isprintable (S l) = true := by
  show (l.toArray.all Unicode.isPrintable) = true
  rw [← Array.all_toList, List.all_eq_true]
  intro c hc
  have q := h c (by simpa using hc)
  exact printable_all ⟨c, by omega⟩ q.1
theorem S_lit {s : Str} {l : List Nat} (h : s.cps.toList = l) : s = S l := by
  rw [← h]
theorem length_S (l : List Nat) : (S l).length = l.length := S_len l
theorem cps_S (l : List Nat) : (S l).cps.toList = l := by simp [S]
theorem cut_S (l : List Nat) (lo hi : Option Int) : cutS (S l) lo hi = S ((l.drop (HT.sIx l.length 0 lo)).take (HT.sIx l.length l.length hi - HT.sIx l.length 0 lo)) := by
  unfold cutS
  rw [length_S]
theorem sIx_pos {n d : Nat} {i : Int} (h : 0 ≤ i) : HT.sIx n d (some i) = min i.toNat n := by
  show (if i < 0 then (i + (n : Int)).toNat else min i.toNat n) = min i.toNat n
  rw [if_neg (by omega)]
/-- l[a:b] for counts -/
theorem cut_nn {l : List Nat} {a b : Nat} : cutS (S l) (some (a : Int)) (some (b : Int)) = S ((l.drop a).take (b - a)) := by
  rw [cut_S, sIx_pos (by omega), sIx_pos (by omega), Int.toNat_natCast, Int.toNat_natCast]
  congr 1
  rcases Nat.le_total a l.length with h | h
  · rw [Nat.min_eq_left h]
    rcases Nat.le_total b l.length with h2 | h2
    · rw [Nat.min_eq_left h2]
    · rw [Nat.min_eq_right h2, List.take_of_length_le (by rw [List.length_drop]; omega), List.take_of_length_le (by rw [List.length_drop]; omega)]
  · rw [Nat.min_eq_right h, List.drop_of_length_le (Nat.le_refl _), List.drop_of_length_le h]
    simp
theorem cut_n {l : List Nat} {b : Nat} : cutS (S l) none (some (b : Int)) = S (l.take b) := by
  rw [cut_S, sIx_pos (by omega), Int.toNat_natCast]
  show S ((l.drop 0).take (min b l.length - 0)) = S (l.take b)
  rw [List.drop_zero, Nat.sub_zero]
  rcases Nat.le_total b l.length with h | h
  · rw [Nat.min_eq_left h]
  · rw [Nat.min_eq_right h, List.take_of_length_le (Nat.le_refl _), List.take_of_length_le h]
theorem cut_from {l : List Nat} {a : Nat} : cutS (S l) (some (a : Int)) none = S (l.drop a) := by
  rw [cut_S, sIx_pos (by omega), Int.toNat_natCast]
  show S ((l.drop (min a l.length)).take (l.length - min a l.length)) = S (l.drop a)
  rcases Nat.le_total a l.length with h | h
  · rw [Nat.min_eq_left h, List.take_of_length_le (by rw [List.length_drop]; omega)]
  · rw [Nat.min_eq_right h, List.drop_of_length_le (Nat.le_refl _), List.drop_of_length_le h]
    simp
theorem rep_S (l : List Nat) (n : Int) : rep (S l) n = S (List.replicate n.toNat l).flatten := by
  unfold rep
  rw [cps_S]
theorem rep_one (c : Nat) (n : Nat) : (List.replicate n [c]).flatten = List.replicate n c := by
  induction n with
  | zero => rfl
  | succ n ih => rw [List.replicate_succ, List.flatten_cons, ih]; rfl
theorem joinL_nil (ls : List (List Nat)) : TL.joinL [] ls = ls.flatten := by
  induction ls with
  | nil => rfl
  | cons a r ih =>
    cases r with
    | nil => simp [TL.joinL]
    | cons b r => rw [TL.joinL, ih]; simp
theorem join_flat {e : Str} (he : e = S []) (ls : List (List Nat)) : Txt.join e (ls.map S) = S ls.flatten := by
  rw [he, join_S, joinL_nil]

/-! ### frames -/
def frL (l : List Nat) : List Nat := List.replicate (5 - (TL.numL l.length).length) 48 ++ TL.numL l.length ++ [58] ++ l ++ [59]
theorem numL5 {n : Nat} (h : n < 100000) : (TL.numL n).length ≤ 5 ∧ 1 ≤ (TL.numL n).length := by
  refine ⟨TL.numL_len (by decide) (by simpa using h), ?_⟩
  rcases Nat.eq_zero_or_pos (TL.numL n).length with e | e
  · exact absurd (List.length_eq_zero_iff.mp e) (TL.numL_ne n)
  · exact e
theorem frL_len {l : List Nat} (h : l.length < 100000) : (frL l).length = l.length + 7 := by
  obtain ⟨h1, h2⟩ := numL5 h
  unfold frL
  simp only [List.length_append, List.length_replicate, List.length_singleton]
  omega
theorem numL_pr (n : Nat) : Pr (TL.numL n) := fun c hc => by
  have := TL.numL_digits n c hc
  omega
theorem frL_pr {l : List Nat} (h : Pr l) : Pr (frL l) := by
  unfold frL
  refine pr_app (pr_app (pr_app (pr_app (fun c hc => ?_) (numL_pr _)) (pr_of (by decide))) h) (pr_of (by decide))
  rw [(List.mem_replicate.mp hc).2]
  omega
/-- str(n).zfill(5) -/
theorem zfill_S {n : Nat} (h : n < 100000) : Txt.zfill (S (TL.numL n)) 5 = S (List.replicate (5 - (TL.numL n).length) 48 ++ TL.numL n) := by
  obtain ⟨h1, h2⟩ := numL5 h
  unfold Txt.zfill
  rw [length_S]
  by_cases h5 : (TL.numL n).length = 5
  · rw [if_pos (by omega), h5]
    rfl
  · rw [if_neg (by omega)]
    have e : (5 : Int).toNat - (TL.numL n).length = 5 - (TL.numL n).length := rfl
    rw [e]
    obtain ⟨c, r, hc⟩ : ∃ c r, TL.numL n = c :: r := by
      cases q : TL.numL n with
      | nil => exact absurd q (TL.numL_ne n)
      | cons c r => exact ⟨c, r, rfl⟩
    have hd := TL.numL_digits n c (by rw [hc]; exact List.mem_cons_self)
    unfold zfilled
    have e0 : (S (TL.numL n)).cps[0]? = some c := by
      rw [hc]
      simp [S]
    rw [e0]
    have pad : Builtin.Str.padded (S (TL.numL n)) (5 - (TL.numL n).length) 0 48 = S (List.replicate (5 - (TL.numL n).length) 48 ++ TL.numL n) := by
      unfold Builtin.Str.padded
      simp [S]
    split
    · rename_i q; cases q; omega
    · rename_i q; cases q; omega
    · exact pad

/-! ### reading frames -/
def digs (l : List Nat) : Bool := l.all fun c => decide (48 ≤ c) && decide (c ≤ 57)
/-- the number of a head -/
def headN (h : List Nat) : Option Nat := if h.length < 6 ∨ h[5]? ≠ some 58 ∨ digs (h.take 5) = false then none else some (digitsVal (h.take 5))
/-- the end of the frame that begins at i -/
def fEnd (l : List Nat) (i : Nat) : Option Nat := match headN ((l.drop i).take 6) with
  | none => none
  | some n => if n ≤ 80000 ∧ (l.drop (i + 6 + n)).take 1 = [59] then some (i + 6 + n + 1) else none
theorem take1 {l : List Nat} {i c : Nat} (h : (l.drop i).take 1 = [c]) : i < l.length ∧ l[i]? = some c := by
  have hl : i < l.length := by
    rcases Nat.lt_or_ge i l.length with q | q
    · exact q
    · rw [List.drop_of_length_le q] at h
      cases h
  rw [List.drop_eq_getElem_cons hl] at h
  have h2 : [l[i]] = [c] := h
  refine ⟨hl, ?_⟩
  rw [List.getElem?_eq_getElem hl]
  cases h2
  rfl
theorem fEnd_bounds {l : List Nat} {i e : Nat} (h : fEnd l i = some e) : i + 7 ≤ e ∧ e ≤ l.length := by
  unfold fEnd at h
  split at h
  · cases h
  · split at h
    · rename_i q
      cases h
      obtain ⟨h1, _⟩ := take1 q.2
      omega
    · cases h
def scan : Nat → List Nat → Nat → List (List Nat) × Nat
  | 0, _, i => ([], i)
  | f + 1, l, i => match fEnd l i with
    | none => ([], i)
    | some e => ((l.drop (i + 6)).take (e - 1 - (i + 6)) :: (scan f l e).1, (scan f l e).2)
theorem scan_stable : ∀ (f f' : Nat) (l : List Nat) (i : Nat), l.length + 1 ≤ i + f → l.length + 1 ≤ i + f' → scan f l i = scan f' l i
  | 0, 0, _, _, _, _ => rfl
  | 0, f' + 1, l, i, h, _ => by
    unfold scan
    cases q : fEnd l i with
    | none => rfl
    | some e => have := fEnd_bounds q; omega
  | f + 1, 0, l, i, _, h => by
    unfold scan
    cases q : fEnd l i with
    | none => rfl
    | some e => have := fEnd_bounds q; omega
  | f + 1, f' + 1, l, i, h, h' => by
    unfold scan
    cases q : fEnd l i with
    | none => rfl
    | some e =>
      have := fEnd_bounds q
      simp only
      rw [scan_stable f f' l e (by omega) (by omega)]
/-- the frames from i on -/
def sc (l : List Nat) (i : Nat) : List (List Nat) × Nat := scan (l.length + 1) l i
theorem sc_none {l : List Nat} {i : Nat} (h : fEnd l i = none) : sc l i = ([], i) := by
  unfold sc scan
  rw [h]
theorem sc_some {l : List Nat} {i e : Nat} (h : fEnd l i = some e) : sc l i = ((l.drop (i + 6)).take (e - 1 - (i + 6)) :: (sc l e).1, (sc l e).2) := by
  have b := fEnd_bounds h
  have e1 : scan l.length l e = scan (l.length + 1) l e := scan_stable _ _ _ _ (by omega) (by omega)
  show scan (l.length + 1) l i = _
  rw [scan, h]
  simp only
  rw [e1]
  rfl
theorem sc_le : ∀ (f : Nat) (l : List Nat) (i : Nat), i ≤ l.length → i ≤ (scan f l i).2 ∧ (scan f l i).2 ≤ l.length ∧ (scan f l i).1.length * 7 + i ≤ (scan f l i).2
  | 0, l, i, h => ⟨Nat.le_refl _, h, by simp [scan]⟩
  | f + 1, l, i, h => by
    unfold scan
    cases q : fEnd l i with
    | none => exact ⟨Nat.le_refl _, h, by simp⟩
    | some e =>
      have b := fEnd_bounds q
      have r := sc_le f l e b.2
      refine ⟨by simp only; omega, r.2.1, ?_⟩
      simp only [List.length_cons]
      omega
theorem sc_bounds {l : List Nat} {i : Nat} (h : i ≤ l.length) : i ≤ (sc l i).2 ∧ (sc l i).2 ≤ l.length ∧ (sc l i).1.length * 7 + i ≤ (sc l i).2 := sc_le _ l i h
theorem digitsVal_lt : ∀ (l : List Nat), digs l = true → digitsVal l < 10 ^ l.length := by
  intro l
  have gen : ∀ (l : List Nat) (a k : Nat), digs l = true → a < 10 ^ k → l.foldl (fun acc c => acc * 10 + (c - 48)) a < 10 ^ (k + l.length) := by
    intro l
    induction l with
    | nil => intro a k _ h; exact h
    | cons c r ih =>
      intro a k hd h
      have hd' : (decide (48 ≤ c) && decide (c ≤ 57) && digs r) = true := hd
      simp only [Bool.and_eq_true, decide_eq_true_eq] at hd'
      rw [List.foldl_cons, List.length_cons]
      have q := ih (a * 10 + (c - 48)) (k + 1) hd'.2 (by rw [Nat.pow_succ]; omega)
      rw [show k + (r.length + 1) = k + 1 + r.length by omega]
      exact q
  intro h
  have q := gen l 0 0 h (by decide)
  simpa [digitsVal] using q
theorem intText_head {h : List Nat} (h5 : h.length = 5) (hd : digs h = true) : intText? (S h) = some ((digitsVal h : Nat) : Int) := int_S hd (fun e => by rw [e] at h5; cases h5) (by omega)

/-! ### texts as data -/
def strsV (ls : List (List Nat)) : List V := (ls.map S).map V.str
theorem strsV_len (ls : List (List Nat)) : (strsV ls).length = ls.length := by simp [strsV]
theorem strsV_app (ls : List (List Nat)) (l : List Nat) : strsV (ls ++ [l]) = strsV ls ++ [.str (S l)] := by simp [strsV]
theorem strsV_at {ls : List (List Nat)} {i : Nat} {x : V} (h : (strsV ls)[i]? = some x) : ∃ l, ls[i]? = some l ∧ x = .str (S l) ∧ l ∈ ls := by
  unfold strsV at h
  rw [List.getElem?_map, List.getElem?_map] at h
  cases e : ls[i]? with
  | none => rw [e] at h; cases h
  | some l =>
    rw [e] at h
    exact ⟨l, rfl, (Option.some.inj h).symm, List.mem_of_getElem? e⟩
def strsD (ls : List (List Nat)) : PyData := .list (ls.map fun l => .str (S l))
theorem dpAll_strs {K : PySem.W.Frag} {H : Hp} : ∀ ls : List (List Nat), DpAll K H (strsV ls) (ls.map fun l => .str (S l))
  | [] => .nil
  | l :: r => .cons (.str (S l)) (dpAll_strs r)
theorem dp_strs {K : PySem.W.Frag} {H : Hp} {a : Addr} {ls : List (List Nat)} (h : SqL K H a (strsV ls)) : Dp K H (.ref a) (strsD ls) := .lst h (dpAll_strs ls)
theorem strOk_S {l : List Nat} (h : Pr l) : PyData.strOk (S l) = true := by
  show (l.toArray.all fun c => decide (c < 0x110000)) = true
  rw [← Array.all_toList, List.all_eq_true]
  intro c hc
  have := h c (by simpa using hc)
  exact decide_eq_true (by omega)
theorem lay_strs : ∀ {ls : List (List Nat)}, (∀ l ∈ ls, Pr l) → PyData.canLayAll0 (ls.map fun l => .str (S l)) = true
  | [], _ => rfl
  | l :: r, h => by
    show (PyData.strOk (S l) && PyData.canLayAll0 (r.map fun l => .str (S l))) = true
    rw [strOk_S (h l List.mem_cons_self), lay_strs fun l hl => h l (List.mem_cons_of_mem _ hl)]
    rfl
theorem depth_strs : ∀ ls : List (List Nat), PyData.depthAll (ls.map fun l => .str (S l)) = 0
  | [] => rfl
  | l :: r => by
    show max 0 (PyData.depthAll (r.map fun l => .str (S l))) = 0
    rw [depth_strs r]
    rfl
theorem shaped_strs {ls : List (List Nat)} (h : ∀ l ∈ ls, Pr l) : SeqAt.shaped (strsD ls) = true := by
  show (PyData.canLayAll0 _ && decide (PyData.depthAll (ls.map fun l => .str (S l)) + 1 ≤ 64)) = true
  rw [lay_strs h, depth_strs]
  rfl
theorem shaped_pair {d : PyData} {i : Int} (h : SeqAt.shaped d = true) (hd : d.depth ≤ 10) : SeqAt.shaped (.tuple [d, .int i]) = true := by
  have h1 : (d.canLay0 && decide (d.depth ≤ 64)) = true := h
  rw [Bool.and_eq_true] at h1
  show ((d.canLay0 && true) && decide (max d.depth (max 0 0) + 1 ≤ 64)) = true
  rw [h1.1]
  simp
  omega
theorem depth_strsD (ls : List (List Nat)) : (strsD ls).depth = 1 := by
  show PyData.depthAll (ls.map fun l => .str (S l)) + 1 = 1
  rw [depth_strs]
theorem sc_pr {l : List Nat} (h : Pr l) : ∀ (f i : Nat), ∀ m ∈ (scan f l i).1, Pr m
  | 0, _, m, hm => by cases hm
  | f + 1, i, m, hm => by
    unfold scan at hm
    cases q : fEnd l i with
    | none => rw [q] at hm; cases hm
    | some e =>
      rw [q] at hm
      rcases List.mem_cons.mp hm with rfl | hm
      · exact pr_take _ (pr_drop _ h)
      · exact sc_pr h f e m hm
theorem eqv_self {d : PyData} (h : SeqAt.shaped d = true) : PyData.eqv d d = true := SeqAt.eqv_refl d (SeqAt.canLay_of_shaped h)
theorem eqv_nil (ds : List PyData) : PyData.eqv (.list ds) (.list []) = ds.isEmpty := by
  rw [PyData.eqv]
  cases ds <;> rfl
def isdig (c : Nat) : Bool := decide (48 ≤ c) && decide (c ≤ 57)
theorem digits_list : ("0123456789" : Str).cps.toList = [48, 49, 50, 51, 52, 53, 54, 55, 56, 57] := by decide +kernel
theorem dig_in (c : Nat) : decide (c ∈ ("0123456789" : Str).cps.toList) = isdig c := by
  rw [digits_list]
  unfold isdig
  rw [Bool.eq_iff_iff]
  simp only [decide_eq_true_eq, Bool.and_eq_true, List.mem_cons, List.not_mem_nil, or_false]
  omega
theorem digs_all (l : List Nat) : digs l = (l.map isdig).all id := by
  unfold digs
  rw [List.all_map]
  rfl
theorem signs_strs (cs : List Nat) : cs.map signV = strsV (cs.map fun c => [c]) := by
  unfold strsV
  rw [List.map_map, List.map_map]
  rfl
theorem pr_one {c : Nat} (h : 32 ≤ c ∧ c ≤ 126) : Pr [c] := pr_cons h pr_nil
theorem digs_filter : ∀ l : List Nat, digs l = (l.filter fun c => !isdig c).isEmpty
  | [] => rfl
  | c :: r => by
    show (isdig c && digs r) = _
    rw [digs_filter r, List.filter_cons]
    cases isdig c <;> rfl
end M9

/-! M11: what is read in a beginning of frames. -/
namespace M9
open PySem PySem.Spec PyProof.Rows L2 Z SX PySem.NumText

theorem digitsVal_zeros (k : Nat) (l : List Nat) : digitsVal (List.replicate k 48 ++ l) = digitsVal l := by
  unfold digitsVal
  rw [List.foldl_append]
  congr 1
  induction k with
  | zero => rfl
  | succ k ih => rw [List.replicate_succ, List.foldl_cons]; exact ih
def figs (n : Nat) : List Nat := List.replicate (5 - (TL.numL n).length) 48 ++ TL.numL n
theorem figs_len {n : Nat} (h : n < 100000) : (figs n).length = 5 := by
  obtain ⟨h1, h2⟩ := numL5 h
  unfold figs
  rw [List.length_append, List.length_replicate]
  omega
theorem figs_val (n : Nat) : digitsVal (figs n) = n := by
  unfold figs
  rw [digitsVal_zeros, TL.numL_val]
theorem figs_digs (n : Nat) : digs (figs n) = true := by
  unfold digs figs
  rw [List.all_eq_true]
  intro c hc
  rcases List.mem_append.mp hc with q | q
  · rw [(List.mem_replicate.mp q).2]
    rfl
  · have := TL.numL_digits n c q
    simpa using this
theorem frL_eq (m : List Nat) : frL m = figs m.length ++ (58 :: (m ++ [59])) := by
  unfold frL figs
  simp [List.append_assoc]
theorem head_fr {m rest : List Nat} (h : m.length ≤ 80000) : headN ((frL m ++ rest).take 6) = some m.length := by
  have h5 := figs_len (n := m.length) (by omega)
  have e : (frL m ++ rest).take 6 = figs m.length ++ [58] := by
    rw [frL_eq, List.append_assoc, List.take_append, h5, List.take_of_length_le (by omega)]
    rfl
  rw [e]
  unfold headN
  rw [if_neg, List.take_append_of_le_length (by omega), List.take_of_length_le (by omega), figs_val]
  rintro (z | z | z)
  · rw [List.length_append, h5] at z
    exact absurd z (by decide)
  · rw [List.getElem?_append_right (by omega), h5] at z
    exact z rfl
  · rw [List.take_append_of_le_length (by omega), List.take_of_length_le (by omega), figs_digs] at z
    cases z
theorem drop_fr {m rest : List Nat} (h : m.length ≤ 80000) : (frL m ++ rest).drop (6 + m.length) = 59 :: rest := by
  have h5 := figs_len (n := m.length) (by omega)
  rw [frL_eq]
  have e : figs m.length ++ (58 :: (m ++ [59])) ++ rest = (figs m.length ++ (58 :: m)) ++ (59 :: rest) := by simp [List.append_assoc]
  rw [e, List.drop_append_of_le_length (by rw [List.length_append, List.length_cons, h5]; omega), List.drop_of_length_le (by rw [List.length_append, List.length_cons, h5]; omega)]
  rfl
theorem body_fr {m rest : List Nat} (h : m.length ≤ 80000) : ((frL m ++ rest).drop 6).take m.length = m := by
  have h5 := figs_len (n := m.length) (by omega)
  rw [frL_eq]
  have e : figs m.length ++ (58 :: (m ++ [59])) ++ rest = (figs m.length ++ [58]) ++ (m ++ (59 :: rest)) := by simp [List.append_assoc]
  rw [e, List.drop_append_of_le_length (by rw [List.length_append, h5]; decide), List.drop_of_length_le (by rw [List.length_append, h5]; decide), List.nil_append, List.take_append_of_le_length (Nat.le_refl _), List.take_length]
theorem fEnd_fr {l m rest : List Nat} {i : Nat} (h : m.length ≤ 80000) (e : l.drop i = frL m ++ rest) : fEnd l i = some (i + m.length + 7) := by
  unfold fEnd
  rw [e, head_fr h]
  simp only
  have d : l.drop (i + 6 + m.length) = 59 :: rest := by
    rw [Nat.add_assoc, ← List.drop_drop, e, drop_fr h]
  rw [d, if_pos ⟨h, rfl⟩]
  congr 1
  omega
theorem fEnd_cut {l m rest : List Nat} {i k : Nat} (h : m.length ≤ 80000) (hk : k < m.length + 7) (e : l.drop i = (frL m ++ rest).take k) : fEnd l i = none := by
  unfold fEnd
  rw [e, List.take_take]
  rcases Nat.lt_or_ge k 6 with q | q
  · have hn : headN ((frL m ++ rest).take (min 6 k)) = none := by
      unfold headN
      rw [if_pos]
      refine .inl ?_
      rw [List.length_take]
      omega
    rw [hn]
  · rw [Nat.min_eq_left q, head_fr h]
    simp only
    have d : l.drop (i + 6 + m.length) = [] := by
      rw [Nat.add_assoc, ← List.drop_drop, e]
      refine List.drop_of_length_le ?_
      rw [List.length_take]
      omega
    rw [d, if_neg]
    rintro ⟨_, z⟩
    cases z
theorem fEnd_nil {l : List Nat} {i : Nat} (e : l.drop i = []) : fEnd l i = none := by
  unfold fEnd
  rw [e]
  rfl
/-- how many frames are whole among the first k signs -/
def cnt : List (List Nat) → Nat → Nat
  | [], _ => 0
  | m :: r, k => if m.length + 7 ≤ k then 1 + cnt r (k - (m.length + 7)) else 0
theorem cnt_le : ∀ (ls : List (List Nat)) (k : Nat), cnt ls k ≤ ls.length
  | [], _ => Nat.le_refl 0
  | m :: r, k => by
    unfold cnt
    have := cnt_le r (k - (m.length + 7))
    rw [List.length_cons]
    split <;> omega
def fl (ls : List (List Nat)) : List Nat := (ls.map frL).flatten
theorem fl_cons (m : List Nat) (r : List (List Nat)) : fl (m :: r) = frL m ++ fl r := by simp [fl]
theorem fl_app (a b : List (List Nat)) : fl (a ++ b) = fl a ++ fl b := by simp [fl]
theorem sc_cut : ∀ (ls : List (List Nat)) (l : List Nat) (i k : Nat), (∀ m ∈ ls, m.length ≤ 80000) → l.drop i = (fl ls).take k → sc l i = (ls.take (cnt ls k), i + (fl (ls.take (cnt ls k))).length)
  | [], l, i, k, _, e => by
    have e' : l.drop i = [] := by rw [e]; simp [fl]
    rw [sc_none (fEnd_nil e')]
    simp [fl]
  | m :: r, l, i, k, h, e => by
    have hm := h m List.mem_cons_self
    have lm := frL_len (l := m) (by omega)
    rw [fl_cons] at e
    unfold cnt
    by_cases hk : m.length + 7 ≤ k
    · rw [if_pos hk]
      have e1 : l.drop i = frL m ++ (fl r).take (k - (m.length + 7)) := by
        rw [e, List.take_append, lm, List.take_of_length_le (by omega)]
      have e2 : l.drop (i + m.length + 7) = (fl r).take (k - (m.length + 7)) := by
        rw [Nat.add_assoc, ← List.drop_drop, e1, List.drop_append_of_le_length (by omega), List.drop_of_length_le (by omega), List.nil_append]
      have ih := sc_cut r l (i + m.length + 7) (k - (m.length + 7)) (fun x hx => h x (List.mem_cons_of_mem _ hx)) e2
      rw [sc_some (fEnd_fr hm e1), ih]
      have e3 : (l.drop (i + 6)).take (i + m.length + 7 - 1 - (i + 6)) = m := by
        rw [← List.drop_drop, e1, show i + m.length + 7 - 1 - (i + 6) = m.length by omega, body_fr hm]
      rw [e3, Nat.add_comm 1, List.take_succ_cons, fl_cons, List.length_append, lm]
      simp only [Prod.mk.injEq, true_and]
      omega
    · rw [if_neg hk, sc_none (fEnd_cut hm (by omega) e)]
      simp [fl]
theorem cnt_full : ∀ (ls : List (List Nat)) (k : Nat), (∀ m ∈ ls, m.length ≤ 80000) → (fl ls).length ≤ k → cnt ls k = ls.length
  | [], _, _, _ => rfl
  | m :: r, k, h, hk => by
    have lm := frL_len (l := m) (by have := h m List.mem_cons_self; omega)
    rw [fl_cons, List.length_append, lm] at hk
    unfold cnt
    rw [if_pos (by omega), cnt_full r _ (fun x hx => h x (List.mem_cons_of_mem _ hx)) (by omega), List.length_cons]
    omega
/-- one sign less: the last one is lost -/
theorem cnt_last : ∀ (ls : List (List Nat)), (∀ m ∈ ls, m.length ≤ 80000) → cnt ls ((fl ls).length - 1) = ls.length - 1
  | [], _ => rfl
  | [m], h => by
    have lm := frL_len (l := m) (by have := h m List.mem_cons_self; omega)
    unfold cnt
    rw [fl_cons, List.length_append, lm, show (fl []).length = 0 from rfl, if_neg (by omega)]
    rfl
  | m :: n :: r, h => by
    have lm := frL_len (l := m) (by have := h m List.mem_cons_self; omega)
    have ln := frL_len (l := n) (by have := h n (List.mem_cons_of_mem _ List.mem_cons_self); omega)
    have ih := cnt_last (n :: r) fun x hx => h x (List.mem_cons_of_mem _ hx)
    have l2 : (fl (n :: r)).length = n.length + 7 + (fl r).length := by rw [fl_cons, List.length_append, ln]
    rw [cnt, fl_cons, List.length_append, lm, if_pos (by omega), show m.length + 7 + (fl (n :: r)).length - 1 - (m.length + 7) = (fl (n :: r)).length - 1 by omega, ih]
    simp only [List.length_cons]
    omega
theorem fl_take {ls : List (List Nat)} (j : Nat) : (fl ls).take (fl (ls.take j)).length = fl (ls.take j) := by
  have e : fl ls = fl (ls.take j) ++ fl (ls.drop j) := by rw [← fl_app, List.take_append_drop]
  rw [e, List.take_append_of_le_length (Nat.le_refl _), List.take_length]
theorem fl_rep (n : Nat) (m : List Nat) : fl (List.replicate n m) = (List.replicate n (frL m)).flatten := by
  unfold fl
  rw [List.map_replicate]
theorem cnt_rep (n : Nat) (m : List Nat) : ∀ k, cnt (List.replicate n m) k = min n (k / (m.length + 7)) := by
  induction n with
  | zero => intro k; simp [cnt]
  | succ n ih =>
    intro k
    rw [List.replicate_succ, cnt]
    by_cases hk : m.length + 7 ≤ k
    · rw [if_pos hk, ih]
      have : k / (m.length + 7) = (k - (m.length + 7)) / (m.length + 7) + 1 := by
        rw [Nat.div_eq, if_pos ⟨by omega, hk⟩]
      omega
    · rw [if_neg hk, Nat.div_eq_of_lt (by omega)]
      simp
/-- the ends of frames -/
def endsL : Nat → List (List Nat) → List Nat
  | _, [] => []
  | a, m :: r => (a + m.length + 7) :: endsL (a + m.length + 7) r
theorem endsL_len : ∀ (a : Nat) (ls : List (List Nat)), (endsL a ls).length = ls.length
  | _, [] => rfl
  | a, m :: r => by rw [endsL, List.length_cons, endsL_len, List.length_cons]
theorem endsL_ge : ∀ (a : Nat) (ls : List (List Nat)), ∀ e ∈ endsL a ls, a + 7 ≤ e
  | _, [], e, h => by cases h
  | a, m :: r, e, h => by
    rcases List.mem_cons.mp h with rfl | h
    · omega
    · have := endsL_ge (a + m.length + 7) r e h
      omega
theorem endsL_cnt : ∀ (ls : List (List Nat)) (a k : Nat), ((endsL a ls).filter fun e => decide (e ≤ a + k)).length = cnt ls k
  | [], _, _ => rfl
  | m :: r, a, k => by
    rw [endsL, cnt, List.filter_cons]
    by_cases hk : m.length + 7 ≤ k
    · rw [if_pos (decide_eq_true (by omega)), if_pos hk, List.length_cons, ← endsL_cnt r (a + m.length + 7) (k - (m.length + 7))]
      have : a + m.length + 7 + (k - (m.length + 7)) = a + k := by omega
      rw [this]
      omega
    · rw [if_neg (by simpa using (by omega : ¬ a + m.length + 7 ≤ a + k)), if_neg hk]
      have : (endsL (a + m.length + 7) r).filter (fun e => decide (e ≤ a + k)) = [] := by
        rw [List.filter_eq_nil_iff]
        intro e he
        have := endsL_ge _ _ e he
        simp only [decide_eq_true_eq]
        omega
      rw [this]
      rfl
theorem endsL_app : ∀ (a : Nat) (ls : List (List Nat)) (m : List Nat), (∀ x ∈ ls, x.length ≤ 80000) → endsL a (ls ++ [m]) = endsL a ls ++ [a + (fl ls).length + m.length + 7]
  | a, [], m, _ => by simp [endsL, fl]
  | a, x :: r, m, h => by
    have lx := frL_len (l := x) (by have := h x List.mem_cons_self; omega)
    rw [List.cons_append, endsL, endsL_app (a + x.length + 7) r m fun y hy => h y (List.mem_cons_of_mem _ hy), endsL, fl_cons, List.length_append, lx, List.cons_append]
    congr 3
    omega
theorem endsL_at : ∀ (ls : List (List Nat)) (a j : Nat), (∀ x ∈ ls, x.length ≤ 80000) → j < ls.length → (endsL a ls)[j]? = some (a + (fl (ls.take (j + 1))).length)
  | m :: r, a, 0, h, _ => by
    have lm := frL_len (l := m) (by have := h m List.mem_cons_self; omega)
    rw [endsL, List.take_succ_cons, fl_cons, List.length_append, lm]
    simp [fl]
    omega
  | m :: r, a, j + 1, h, hj => by
    have lm := frL_len (l := m) (by have := h m List.mem_cons_self; omega)
    rw [endsL, List.getElem?_cons_succ, endsL_at r (a + m.length + 7) j (fun y hy => h y (List.mem_cons_of_mem _ hy)) (by simpa using hj), List.take_succ_cons, fl_cons, List.length_append, lm]
    congr 1
    omega
end M9

/-! M3: items and tokens judged as data. -/
namespace M3
open PySem PySem.Spec PyProof.Rows L2 Z SX M9

def asciiS (x : Str) : Bool := x.cps.toList.all fun c => decide (c < 128)
/-- a text of ASCII signs, or no text; a tuple of such -/
def asc1 : PyData → Bool
  | .str x => asciiS x && decide (x.length ≤ 100000)
  | _ => true
def asc : PyData → Bool
  | .str x => asc1 (.str x)
  | .tuple ds => ds.all asc1
  | _ => true
def intD : PyData → Bool
  | .int _ => true
  | _ => false
def within (d : PyData) (a b : Int) : Bool := match d with
  | .int i => decide (a ≤ i) && decide (i ≤ b)
  | _ => false
def prS (x : Str) : Bool := x.cps.toList.all fun c => decide (32 ≤ c) && decide (c ≤ 126)
def lowS (x : Str) : Bool := x.cps.toList.all fun c => decide (97 ≤ c) && decide (c ≤ 122)
def signsD : PyData → Bool
  | .str x => prS x
  | _ => false
def plainD (n : Nat) : PyData → Bool
  | .str x => prS x && decide (x.length ≤ n)
  | _ => false
def nameD : PyData → Bool
  | .str x => decide (1 ≤ x.length) && decide (x.length ≤ 8) && lowS x
  | _ => false
def tokenD : PyData → Bool
  | .tuple [a, b] => within a 1 999999999999 && within b 1 999999999999
  | _ => false
def itemD : PyData → Bool
  | .tuple [a, b, c, d, e, f] => nameD a && nameD b && plainD 40 c && within d 0 3 && within e 0 50 && within f 0 50
  | _ => false
def kindD : PyData → String
  | .none => "NoneType"
  | .bool _ => "bool"
  | .int _ => "int"
  | .str _ => "str"
  | .list _ => "list"
  | .tuple _ => "tuple"
  | .dict _ => "dict"
theorem Dz.kind {g : Bool} {K : PySem.W.Frag} {H : Hp} {v : V} {d : PyData} (h : Dz g H v d) : KindV K H v (kindD d) := by
  cases h with
  | non => rfl
  | bl b => rfl
  | int i => rfl
  | str x => rfl
  | lst h _ _ => exact .inl ⟨rfl, _, SqL.of h⟩
  | tup h _ => exact .inr (.inl ⟨rfl, _, SqT.of h⟩)
  | dic h _ => exact .inr (.inr ⟨rfl, .inl ⟨_, h⟩⟩)
theorem print_ascii : ∀ c : _root_.Fin 128, Unicode.isPrintable c.val = (decide (32 ≤ c.val) && decide (c.val ≤ 126)) := by decide +kernel
theorem alpha_ascii : ∀ c : _root_.Fin 128, Unicode.isAlpha c.val = ((decide (65 ≤ c.val) && decide (c.val ≤ 90)) || (decide (97 ≤ c.val) && decide (c.val ≤ 122))) := by decide +kernel
theorem lower_ascii : ∀ c : _root_.Fin 128, Unicode.isLower c.val = (decide (97 ≤ c.val) && decide (c.val ≤ 122)) := by decide +kernel
theorem upper_ascii : ∀ c : _root_.Fin 128, (Unicode.isUpper c.val || Unicode.isTitle c.val) = (decide (65 ≤ c.val) && decide (c.val ≤ 90)) := by decide +kernel
theorem all_eq {p q : Nat → Bool} : ∀ {l : List Nat}, (∀ c ∈ l, p c = q c) → l.all p = l.all q
  | [], _ => rfl
  | a :: r, h => by
    rw [List.all_cons, List.all_cons, h a List.mem_cons_self, all_eq fun c hc => h c (List.mem_cons_of_mem _ hc)]
theorem any_eq {p q : Nat → Bool} : ∀ {l : List Nat}, (∀ c ∈ l, p c = q c) → l.any p = l.any q
  | [], _ => rfl
  | a :: r, h => by
    rw [List.any_cons, List.any_cons, h a List.mem_cons_self, any_eq fun c hc => h c (List.mem_cons_of_mem _ hc)]
theorem lt_of_ascii {x : Str} (h : asciiS x = true) {c : Nat} (hc : c ∈ x.cps.toList) : c < 128 := by
  simpa using (List.all_eq_true.mp h) c hc
theorem isascii_D {x : Str} (h : asciiS x = true) : Txt.isascii x = true := by
  show (x.cps.all fun c => decide (c < 128)) = true
  rw [← Array.all_toList]
  exact h
theorem isprintable_D {x : Str} (h : asciiS x = true) : Txt.isprintable x = prS x := by
  show (x.cps.all Unicode.isPrintable) = _
  rw [← Array.all_toList]
  exact all_eq fun c hc => print_ascii ⟨c, lt_of_ascii h hc⟩
theorem isalpha_D {x : Str} (h : asciiS x = true) : Txt.isalpha x = (decide (x.length > 0) && x.cps.toList.all fun c => (decide (65 ≤ c) && decide (c ≤ 90)) || (decide (97 ≤ c) && decide (c ≤ 122))) := by
  show (decide (x.length > 0) && x.cps.all Unicode.isAlpha) = _
  rw [← Array.all_toList]
  congr 1
  exact all_eq fun c hc => alpha_ascii ⟨c, lt_of_ascii h hc⟩
theorem islower_D {x : Str} (h : asciiS x = true) : Txt.islower x = ((x.cps.toList.any fun c => decide (97 ≤ c) && decide (c ≤ 122)) && !(x.cps.toList.any fun c => decide (65 ≤ c) && decide (c ≤ 90))) := by
  show (x.cps.any Unicode.isLower && !x.cps.any fun c => Unicode.isUpper c || Unicode.isTitle c) = _
  rw [← Array.any_toList, ← Array.any_toList]
  congr 1
  · exact any_eq fun c hc => lower_ascii ⟨c, lt_of_ascii h hc⟩
  · congr 1
    exact any_eq fun c hc => upper_ascii ⟨c, lt_of_ascii h hc⟩
/-- the program's test of a name is the law's -/
theorem name_law {x : Str} (h : asciiS x = true) : (prS x && (decide (x.length ≤ 8) && (Txt.isalpha x && Txt.islower x))) = nameD (.str x) := by
  have hl : x.length = x.cps.toList.length := by rw [Array.length_toList]; rfl
  rw [isalpha_D h, islower_D h]
  unfold nameD
  rw [Bool.eq_iff_iff]
  constructor
  · intro e
    simp only [Bool.and_eq_true, decide_eq_true_eq, List.all_eq_true, Bool.or_eq_true, List.any_eq_true, Bool.not_eq_true', List.any_eq_false, lowS, prS] at e ⊢
    obtain ⟨_, h8, ⟨h1, ha⟩, _, hu⟩ := e
    refine ⟨⟨h1, h8⟩, fun c hc => ?_⟩
    rcases ha c hc with z | z
    · exact absurd z (hu c hc)
    · exact z
  · intro e
    simp only [Bool.and_eq_true, decide_eq_true_eq, List.all_eq_true, Bool.or_eq_true, List.any_eq_true, Bool.not_eq_true', List.any_eq_false, lowS, prS] at e ⊢
    obtain ⟨⟨h1, h8⟩, ha⟩ := e
    refine ⟨fun c hc => by have := ha c hc; omega, h8, ⟨h1, fun c hc => .inr (ha c hc)⟩, ?_, fun c hc => by have := ha c hc; omega⟩
    cases e : x.cps.toList with
    | nil => rw [hl, e] at h1; exact absurd h1 (by decide)
    | cons c r => exact ⟨c, List.mem_cons_self, ha c (by rw [e]; exact List.mem_cons_self)⟩
/-- what a filtered text leaves is nothing, if all its signs are good -/
theorem filter_none {p : Nat → Bool} (l : List Nat) : (l.filter fun c => !p c).isEmpty = l.all p := by
  induction l with
  | nil => rfl
  | cons a r ih =>
    rw [List.filter_cons, List.all_cons]
    cases e : p a with
    | true => simpa using ih
    | false => rfl
theorem letters_list : ("abcdefghijklmnopqrstuvwxyz" : Str).cps.toList = [97, 98, 99, 100, 101, 102, 103, 104, 105, 106, 107, 108, 109, 110, 111, 112, 113, 114, 115, 116, 117, 118, 119, 120, 121, 122] := by decide +kernel
def low (c : Nat) : Bool := decide (97 ≤ c) && decide (c ≤ 122)
def prt (c : Nat) : Bool := decide (32 ≤ c) && decide (c ≤ 126)
theorem low_in (c : Nat) : decide (c ∈ ("abcdefghijklmnopqrstuvwxyz" : Str).cps.toList) = low c := by
  rw [letters_list]
  unfold low
  rw [Bool.eq_iff_iff]
  simp only [decide_eq_true_eq, Bool.and_eq_true, List.mem_cons, List.not_mem_nil, or_false]
  omega
theorem one_lt {a b : Nat} : ([a] : List Nat) < [b] ↔ a < b := by
  rw [List.cons_lt_cons_iff]
  constructor
  · rintro (h | ⟨_, h⟩)
    · exact h
    · exact absurd h (by simp)
  · exact .inl
theorem lt_sp {c : Nat} : (⟨#[c]⟩ : Str).cps.toList < (" " : Str).cps.toList ↔ c < 32 := by
  rw [show (" " : Str).cps.toList = [32] by decide +kernel, show (⟨#[c]⟩ : Str).cps.toList = [c] from rfl]
  exact one_lt
theorem gt_tl {c : Nat} : ("~" : Str).cps.toList < (⟨#[c]⟩ : Str).cps.toList ↔ 126 < c := by
  rw [show ("~" : Str).cps.toList = [126] by decide +kernel, show (⟨#[c]⟩ : Str).cps.toList = [c] from rfl]
  exact one_lt
def signsD2 (l : List Nat) : PyData := .list (l.map fun c => .str (S [c]))
theorem signs_none {x : Str} {p : Nat → Bool} : (x.cps.toList.filter fun c => !p c).isEmpty = x.cps.toList.all p := filter_none _
theorem shaped_asc {cs : List Nat} (h : ∀ c ∈ cs, c < 128) : SeqAt.shaped (strsD (cs.map fun c => [c])) = true := by
  have lay : ∀ cs : List Nat, (∀ c ∈ cs, c < 128) → PyData.canLayAll0 ((cs.map fun c => [c]).map fun l => .str (S l)) = true := by
    intro cs
    induction cs with
    | nil => intro _; rfl
    | cons c r ih =>
      intro h
      have hc := h c List.mem_cons_self
      show (PyData.strOk (S [c]) && PyData.canLayAll0 ((r.map fun c => [c]).map fun l => .str (S l))) = true
      rw [ih fun x hx => h x (List.mem_cons_of_mem _ hx), Bool.and_true]
      show ([c].toArray.all fun c => decide (c < 0x110000)) = true
      rw [← Array.all_toList, List.all_eq_true]
      intro x hx
      have : x = c := by simpa using hx
      rw [this]
      exact decide_eq_true (by omega)
  show (PyData.canLayAll0 _ && decide (PyData.depthAll ((cs.map fun c => [c]).map fun l => .str (S l)) + 1 ≤ 64)) = true
  rw [lay cs h, depth_strs]
  rfl
theorem eqv_strs_nil (cs : List Nat) : PyData.eqv (strsD (cs.map fun c => [c])) (strsD []) = cs.isEmpty := by
  unfold strsD
  rw [List.map_nil, eqv_nil]
  cases cs <;> rfl
theorem filter_step {l : List Nat} {p : Nat → Bool} {i c : Nat} (hc : l[i]? = some c) : (l.take (i + 1)).filter (fun c => !p c) = (l.take i).filter (fun c => !p c) ++ (if p c then [] else [c]) := by
  rw [List.take_add_one, hc, List.filter_append]
  cases e : p c <;> simp [e]
/-! ### how long what is shown is -/
theorem piled_shown : ∀ ds : List PyData, piled (PyData.shownAll ds) = (ds.map fun d => d.shown.length + 2).sum
  | [] => rfl
  | d :: r => by
    rw [PyData.shownAll, piled_cons, piled_shown r, List.map_cons, List.sum_cons]
theorem len_tuple (ds : List PyData) : (PyData.tuple ds).shown.length ≤ 4 + (ds.map fun d => d.shown.length + 2).sum := by
  have e : (PyData.tuple ds).shown = tupleText (PyData.shownAll ds) := by rw [PyData.shown]
  rw [e, ← piled_shown]
  unfold tupleText
  rw [strLen_append, strLen_append]
  have h2 : (Str.ofString (if (PyData.shownAll ds).length == 1 then ",)" else ")")).length ≤ 2 := by split <;> decide
  have h1 : ("(" : Str).length = 1 := rfl
  by_cases hn : PyData.shownAll ds = []
  · rw [hn]
    decide
  · have := join_length_add _ hn
    omega
theorem len_from : ∀ (ts : List Str) (k : Nat) (acc : Str), (textFrom k acc ts).length ≤ acc.length + piled ts
  | [], k, acc => Nat.le_add_right _ _
  | t :: r, k, acc => by
    have ih := len_from r (k + 1) (acc ++ (if k > 0 then ", " else "" : String) ++ t)
    have e : (acc ++ (if k > 0 then ", " else "" : String) ++ t).length = acc.length + (if k > 0 then 2 else 0) + t.length := by
      rw [strLen_append, strLen_append]
      split <;> rfl
    rw [piled_cons]
    show (textFrom (k + 1) (acc ++ (if k > 0 then ", " else "" : String) ++ t) r).length ≤ _
    rw [e] at ih
    have hb : (if k > 0 then 2 else 0) ≤ 2 := by split <;> omega
    omega
theorem len_list (ds : List PyData) : (PyData.list ds).shown.length ≤ 4 + (ds.map fun d => d.shown.length + 2).sum := by
  have e : (PyData.list ds).shown = listText (PyData.shownAll ds) := by rw [PyData.shown]
  rw [e, ← piled_shown]
  unfold listText
  rw [strLen_append]
  have := len_from (PyData.shownAll ds) 0 "["
  have h1 : ("[" : Str).length = 1 := rfl
  have h2 : ("]" : Str).length = 1 := rfl
  omega
mutual
/-- no list in it is as long as a box -/
def nobox : PyData → Bool
  | .none | .bool _ | .int _ | .str _ => true
  | .list ds => (ds.length != 4) && noboxAll ds
  | .tuple ds => noboxAll ds
  | .dict kvs => noboxKv kvs
def noboxAll : List PyData → Bool
  | [] => true
  | d :: r => nobox d && noboxAll r
def noboxKv : List (PyData × PyData) → Bool
  | [] => true
  | (_, d) :: r => nobox d && noboxKv r
end
theorem DzAll.len {g : Bool} {H : Hp} : ∀ {xs : List V} {ds : List PyData}, DzAll g H xs ds → xs.length = ds.length
  | _, _, .nil => rfl
  | _, _, .cons _ t => by rw [List.length_cons, List.length_cons, DzAll.len t]
theorem DzAll.take {g : Bool} {H : Hp} : ∀ {xs : List V} {ds : List PyData} (n : Nat), DzAll g H xs ds → DzAll g H (xs.take n) (ds.take n)
  | _, _, 0, _ => by rw [List.take_zero, List.take_zero]; exact .nil
  | _, _, n + 1, .nil => .nil
  | _, _, n + 1, .cons h t => .cons h (DzAll.take n t)
theorem DzAll.drop {g : Bool} {H : Hp} : ∀ {xs : List V} {ds : List PyData} (n : Nat), DzAll g H xs ds → DzAll g H (xs.drop n) (ds.drop n)
  | _, _, 0, h => h
  | _, _, n + 1, .nil => .nil
  | _, _, n + 1, .cons h t => DzAll.drop n t
theorem DzAll.app {g : Bool} {H : Hp} : ∀ {xs ys : List V} {ds es : List PyData}, DzAll g H xs ds → DzAll g H ys es → DzAll g H (xs ++ ys) (ds ++ es)
  | _, _, _, _, .nil, h => h
  | _, _, _, _, .cons h t, h2 => .cons h (DzAll.app t h2)
theorem not4 {ds : List PyData} (h : (ds.length != 4) = true) : ds.length ≠ 4 := by simpa using h
mutual
/-- b is a list of four: what has none is kept where all but b is kept -/
theorem Dz.but {g : Bool} {H H2 : Hp} {b : Addr} {bs : List V} (hb : H b = some (.lst bs)) (h4 : bs.length = 4) (t : But b H H2) : ∀ {v : V} {d : PyData}, Dz g H v d → nobox d = true → Dz g H2 v d
  | _, _, .non, _ => .non
  | _, _, .bl b, _ => .bl b
  | _, _, .int i, _ => .int i
  | _, _, .str x, _ => .str x
  | _, _, .lst (ds := ds) h n a, k => by
    have k : ((ds.length != 4) && noboxAll ds) = true := k
    rw [Bool.and_eq_true] at k
    refine .lst (t _ _ (fun z => ?_) h) n (DzAll.but hb h4 t a k.2)
    rw [z, hb] at h
    have := DzAll.len a
    cases h
    exact not4 k.1 (by omega)
  | _, _, .tup h a, k => .tup (t _ _ (fun z => by rw [z, hb] at h; cases h) h) (DzAll.but hb h4 t a k)
  | _, _, .dic h a, k => .dic (t _ _ (fun z => by rw [z, hb] at h; cases h) h) (DzKv.but hb h4 t a k)
theorem DzAll.but {g : Bool} {H H2 : Hp} {b : Addr} {bs : List V} (hb : H b = some (.lst bs)) (h4 : bs.length = 4) (t : But b H H2) : ∀ {vs : List V} {ds : List PyData}, DzAll g H vs ds → noboxAll ds = true → DzAll g H2 vs ds
  | _, _, .nil, _ => .nil
  | _, _, .cons h r, k => by
    have k := Bool.and_eq_true _ _ ▸ k
    exact .cons (Dz.but hb h4 t h k.1) (DzAll.but hb h4 t r k.2)
theorem DzKv.but {g : Bool} {H H2 : Hp} {b : Addr} {bs : List V} (hb : H b = some (.lst bs)) (h4 : bs.length = 4) (t : But b H H2) : ∀ {kvs : List (Key × V)} {D : List (PyData × PyData)}, DzKv g H kvs D → noboxKv D = true → DzKv g H2 kvs D
  | _, _, .nil, _ => .nil
  | _, _, .cons h r, k => by
    have k := Bool.and_eq_true _ _ ▸ k
    exact .cons (Dz.but hb h4 t h k.1) (DzKv.but hb h4 t r k.2)
end
def oddOk (d : PyData) : Bool := asc1 d && d.showable && decide (d.depth ≤ 3) && decide (d.shown.length ≤ 2000) && nobox d
theorem oddOk_of {d : PyData} (h : oddOk d = true) : asc1 d = true ∧ d.showable = true ∧ d.depth ≤ 3 ∧ d.shown.length ≤ 2000 := by
  unfold oddOk at h
  simp only [Bool.and_eq_true, decide_eq_true_eq] at h
  exact ⟨h.1.1.1.1, h.1.1.1.2, h.1.1.2, h.1.2⟩
theorem odd_nobox {d : PyData} (h : oddOk d = true) : nobox d = true := by
  unfold oddOk at h
  rw [Bool.and_eq_true] at h
  exact h.2
theorem odd_noboxAll : ∀ {ds : List PyData}, (∀ d ∈ ds, oddOk d = true) → noboxAll ds = true
  | [], _ => rfl
  | d :: r, h => by
    show (nobox d && noboxAll r) = true
    rw [odd_nobox (h d List.mem_cons_self), odd_noboxAll fun x hx => h x (List.mem_cons_of_mem _ hx)]
    rfl
/-- a tuple of good parts -/
def Tv (H : Hp) (p : Addr) (xs : List V) (ds : List PyData) : Prop := H p = some (.tup xs) ∧ DzAll true H xs ds ∧ ∀ d ∈ ds, oddOk d = true
theorem Tv.same {H H2 : Hp} {p : Addr} {xs : List V} {ds : List PyData} (h : Tv H p xs ds) (s : Same H H2) : Tv H2 p xs ds := ⟨s _ _ h.1, DzAll.same s h.2.1, h.2.2⟩
theorem addT {K : PySem.W.Frag} {H : Hp} {l b : Addr} {xs zs : List V} {Q : VK} (h1 : H l = some (.tup xs)) (h2 : H b = some (.tup zs)) (hz : xs.length + zs.length ≤ sizeLine) (q : ∀ r H2, Same H H2 → H2 r = some (.tup (xs ++ zs)) → Q (.ref r) H2) : zAdd K (.ref l) (.ref b) H Q :=
  .inr ⟨xs, zs, SqT.of h1, SqT.of h2, hz, (fun e => q b H (Same.refl H) (by rw [e]; exact h2)), (fun _ e => q l H (Same.refl H) (by rw [e, List.append_nil]; exact h1)), fun _ _ p H2 n => q p H2 n.same n.here⟩
theorem cutV_to (xs : List V) (j : Nat) : cutV xs none (some (j : Int)) = xs.take j := by
  unfold cutV
  rw [sIx_pos (by omega), Int.toNat_natCast]
  show ((xs.drop 0).take (min j xs.length - 0)) = _
  rw [List.drop_zero, Nat.sub_zero]
  rcases Nat.le_total j xs.length with h | h
  · rw [Nat.min_eq_left h]
  · rw [Nat.min_eq_right h, List.take_length, List.take_of_length_le h]
theorem cutV_toneg (xs : List V) : cutV xs none (some (-1)) = xs.take (xs.length - 1) := by
  unfold cutV
  show ((xs.drop 0).take ((if (-1 : Int) < 0 then (-1 + (xs.length : Int)).toNat else min (-1 : Int).toNat xs.length) - 0)) = _
  rw [if_pos (by decide), List.drop_zero, Nat.sub_zero, show (-1 + (xs.length : Int)).toNat = xs.length - 1 by omega]
theorem cutV_frneg (xs : List V) : cutV xs (some (-1)) none = xs.drop (xs.length - 1) := by
  unfold cutV
  show ((xs.drop (if (-1 : Int) < 0 then (-1 + (xs.length : Int)).toNat else min (-1 : Int).toNat xs.length)).take (xs.length - (if (-1 : Int) < 0 then (-1 + (xs.length : Int)).toNat else min (-1 : Int).toNat xs.length))) = _
  rw [if_pos (by decide), show (-1 + (xs.length : Int)).toNat = xs.length - 1 by omega, List.take_of_length_le (by rw [List.length_drop]; omega)]
theorem sIx_neg {n d : Nat} : HT.sIx n d (some (-1)) = n - 1 := by
  show (if (-1 : Int) < 0 then (-1 + (n : Int)).toNat else min (-1 : Int).toNat n) = _
  rw [if_pos (by decide)]
  omega
theorem cutV_fr (xs : List V) (j : Nat) : cutV xs (some (j : Int)) none = xs.drop j := by
  unfold cutV
  rw [sIx_pos (by omega), Int.toNat_natCast]
  show ((xs.drop (min j xs.length)).take (xs.length - min j xs.length)) = _
  rcases Nat.le_total j xs.length with h | h
  · rw [Nat.min_eq_left h, List.take_of_length_le (by rw [List.length_drop]; omega)]
  · rw [Nat.min_eq_right h, List.drop_length, List.drop_eq_nil_of_le h, List.take_nil]
theorem sum_odd : ∀ {ds : List PyData}, (∀ d ∈ ds, oddOk d = true) → (ds.map fun d => d.shown.length + 2).sum ≤ ds.length * 2002
  | [], _ => Nat.zero_le _
  | d :: r, h => by
    have h1 := (oddOk_of (h d List.mem_cons_self)).2.2.2
    have h2 := sum_odd fun x hx => h x (List.mem_cons_of_mem _ hx)
    rw [List.map_cons, List.sum_cons, List.length_cons, Nat.succ_mul]
    omega
theorem depth_odd : ∀ {ds : List PyData}, (∀ d ∈ ds, oddOk d = true) → PyData.depthAll ds ≤ 3
  | [], _ => Nat.zero_le _
  | d :: r, h => by
    have h1 := (oddOk_of (h d List.mem_cons_self)).2.2.1
    have h2 := depth_odd fun x hx => h x (List.mem_cons_of_mem _ hx)
    show max d.depth (PyData.depthAll r) ≤ 3
    omega
theorem show_odd : ∀ {ds : List PyData}, (∀ d ∈ ds, oddOk d = true) → PyData.showableAll ds = true
  | [], _ => rfl
  | d :: r, h => by
    have h1 := (oddOk_of (h d List.mem_cons_self)).2.1
    have h2 := show_odd fun x hx => h x (List.mem_cons_of_mem _ hx)
    show (d.showable && PyData.showableAll r) = true
    rw [h1, h2]
    rfl
theorem asc_odd : ∀ {ds : List PyData}, (∀ d ∈ ds, oddOk d = true) → ds.all asc1 = true := fun {ds} h => List.all_eq_true.mpr fun d hd => (oddOk_of (h d hd)).1
theorem odd_int {i : Int} (h : -10000000000000 ≤ i ∧ i ≤ 10000000000000) : oddOk (.int i) = true := by
  have hl : i.natAbs.log2 < 1920 := by
    rcases Nat.eq_zero_or_pos i.natAbs with e | e
    · rw [e]; decide
    · have q : 2 ^ i.natAbs.log2 ≤ i.natAbs := Nat.log2_self_le (by omega)
      have h2 : i.natAbs < 2 ^ 60 := by omega
      have : i.natAbs.log2 < 60 := (Nat.pow_lt_pow_iff_right (by decide : 1 < 2)).mp (Nat.lt_of_le_of_lt q h2)
      omega
  have e : (PyData.int i).shown = Str.ofString (toString i) := by simp only [PyData.shown]
  unfold oddOk
  rw [e, show (PyData.int i).showable = true by simpa only [PyData.showable, decide_eq_true_eq] using hl]
  have := int_text_len_1921 hl
  show (true && true && decide (0 ≤ 3) && decide ((Str.ofString (toString i)).length ≤ 2000) && true) = true
  rw [decide_eq_true (p := (Str.ofString (toString i)).length ≤ 2000) (by omega)]
  rfl
theorem odd_str {l : List Nat} (h : Pr l) (hl : l.length ≤ 100) : oddOk (.str (S l)) = true := by
  have e : (PyData.str (S l)).shown = reprText (S l) := by simp only [PyData.shown]
  have r := PySem.StrLaws.reprText_len (S l) (fun c hc => by
    rw [cps_S] at hc
    have := h c hc
    omega)
  have ls := length_S l
  have a : asciiS (S l) = true := by
    unfold asciiS
    rw [cps_S, List.all_eq_true]
    intro c hc
    have := h c hc
    exact decide_eq_true (by omega)
  have h1 : asc1 (.str (S l)) = true := by
    show (asciiS (S l) && decide ((S l).length ≤ 100000)) = true
    rw [a, length_S, decide_eq_true (by omega)]
    rfl
  unfold oddOk
  rw [e, h1]
  show (true && true && decide (0 ≤ 3) && decide ((reprText (S l)).length ≤ 2000) && true) = true
  rw [decide_eq_true (p := (reprText (S l)).length ≤ 2000) (by omega)]
  rfl
/-- a value that may be judged and shown -/
def Good (H : Hp) (v : V) : Prop := ∃ g d, Dz g H v d ∧ (d.hasDict = true → g = true) ∧ asc d = true ∧ d.showable = true ∧ d.depth ≤ 60 ∧ d.shown.length ≤ 10000000 ∧ nobox d = true
theorem Good.same {H H2 : Hp} {v : V} (h : Good H v) (s : Same H H2) : Good H2 v := by
  obtain ⟨g, d, a, b⟩ := h
  exact ⟨g, d, Dz.same s a, b⟩
theorem good_tup {H : Hp} {p : Addr} {xs : List V} {ds : List PyData} (h : H p = some (.tup xs)) (a : DzAll true H xs ds) (ok : ∀ d ∈ ds, oddOk d = true) (l : ds.length ≤ 20) : Good H (.ref p) := by
  refine ⟨true, .tuple ds, .tup h a, fun _ => rfl, asc_odd ok, show_odd ok, ?_, ?_, odd_noboxAll ok⟩
  · show PyData.depthAll ds + 1 ≤ 60
    have := depth_odd ok
    omega
  · have h1 := len_tuple ds
    have h2 := sum_odd ok
    have h3 : ds.length * 2002 ≤ 20 * 2002 := Nat.mul_le_mul_right _ l
    omega
def atomD : PyData → Bool
  | .none | .bool _ | .int _ | .str _ => true
  | _ => false
theorem atom_dict : ∀ {ds : List PyData}, (∀ d ∈ ds, atomD d = true) → PyData.hasDictAll ds = false
  | [], _ => by simp only [PyData.hasDictAll]
  | d :: r, h => by
    have h1 := h d List.mem_cons_self
    have h2 := atom_dict fun x hx => h x (List.mem_cons_of_mem _ hx)
    have h3 : d.hasDict = false := by cases d <;> first | (simp only [PyData.hasDict]; done) | cases h1
    simp only [PyData.hasDictAll, h3, h2, Bool.or_self]
mutual
theorem Dz.weak {H : Hp} : ∀ {v : V} {d : PyData}, Dz true H v d → Dz false H v d
  | _, _, .non => .non
  | _, _, .bl b => .bl b
  | _, _, .int i => .int i
  | _, _, .str x => .str x
  | _, _, .lst h n a => .lst h (fun z => by cases z) (DzAll.weak a)
  | _, _, .tup h a => .tup h (DzAll.weak a)
  | _, _, .dic h a => .dic h (DzKv.weak a)
theorem DzAll.weak {H : Hp} : ∀ {vs : List V} {ds : List PyData}, DzAll true H vs ds → DzAll false H vs ds
  | _, _, .nil => .nil
  | _, _, .cons h t => .cons (Dz.weak h) (DzAll.weak t)
theorem DzKv.weak {H : Hp} : ∀ {kvs : List (Key × V)} {D : List (PyData × PyData)}, DzKv true H kvs D → DzKv false H kvs D
  | _, _, .nil => .nil
  | _, _, .cons h t => .cons (Dz.weak h) (DzKv.weak t)
end
theorem good_lst {H : Hp} {p : Addr} {xs : List V} {ds : List PyData} (h : H p = some (.lst xs)) (a : DzAll true H xs ds) (ok : ∀ d ∈ ds, oddOk d = true) (at' : ∀ d ∈ ds, atomD d = true) (l : ds.length ≤ 20) (l4 : ds.length ≠ 4) : Good H (.ref p) := by
  refine ⟨false, .list ds, .lst h (fun z => by cases z) (DzAll.weak a), fun z => ?_, rfl, show_odd ok, ?_, ?_, by show ((ds.length != 4) && noboxAll ds) = true; rw [odd_noboxAll ok, Bool.and_true]; simpa using l4⟩
  · have e : (PyData.list ds).hasDict = PyData.hasDictAll ds := by simp only [PyData.hasDict]
    rw [e, atom_dict at'] at z
    cases z
  · show PyData.depthAll ds + 1 ≤ 60
    have := depth_odd ok
    omega
  · have h1 := len_list ds
    have h2 := sum_odd ok
    have h3 : ds.length * 2002 ≤ 20 * 2002 := Nat.mul_le_mul_right _ l
    omega
theorem good_atom {H : Hp} {v : V} {d : PyData} (h : Dz true H v d) (ok : oddOk d = true) (a : atomD d = true) : Good H v := by
  obtain ⟨h1, h2, h3, h4⟩ := oddOk_of ok
  exact ⟨true, d, h, fun _ => rfl, (by cases d <;> first | exact h1 | rfl | cases a), h2, by omega, by omega, odd_nobox ok⟩
theorem Good.but {H H2 : Hp} {b : Addr} {bs : List V} (hb : H b = some (.lst bs)) (h4 : bs.length = 4) (t : But b H H2) {v : V} (h : Good H v) : Good H2 v := by
  obtain ⟨g, d, a, h1, h2, h3, h5, h6, h7⟩ := h
  exact ⟨g, d, Dz.but hb h4 t a h7, h1, h2, h3, h5, h6, h7⟩
/-- a tuple, or a dict, of one tuple -/
theorem good_tup1 {H : Hp} {p r : Addr} {xs : List V} {ds : List PyData} (h : H p = some (.tup xs)) (a : DzAll true H xs ds) (ok : ∀ d ∈ ds, oddOk d = true) (l : ds.length ≤ 20) (hr : H r = some (.tup [.ref p])) : Good H (.ref r) := by
  have h1 := len_tuple ds
  have h2 := sum_odd ok
  have h3 : ds.length * 2002 ≤ 20 * 2002 := Nat.mul_le_mul_right _ l
  have hd := depth_odd ok
  refine ⟨true, .tuple [.tuple ds], .tup hr (.cons (.tup h a) .nil), fun _ => rfl, rfl, ?_, ?_, ?_, by show (noboxAll ds && true) = true; rw [odd_noboxAll ok]; rfl⟩
  · show (PyData.showableAll ds && true) = true
    rw [show_odd ok]
    rfl
  · show max (PyData.depthAll ds + 1) 0 + 1 ≤ 60
    omega
  · have h4 := len_tuple [.tuple ds]
    rw [List.map_cons, List.map_nil, List.sum_cons, List.sum_nil] at h4
    omega
theorem good_dic1 {H : Hp} {p r : Addr} {xs : List V} {ds : List PyData} (h : H p = some (.tup xs)) (a : DzAll true H xs ds) (ok : ∀ d ∈ ds, oddOk d = true) (l : ds.length ≤ 20) (hr : H r = some (.dK [(.inr "a", .ref p)])) : Good H (.ref r) := by
  have h1 := len_tuple ds
  have h2 := sum_odd ok
  have h3 : ds.length * 2002 ≤ 20 * 2002 := Nat.mul_le_mul_right _ l
  have hd := depth_odd ok
  refine ⟨true, .dict [(.str "a", .tuple ds)], .dic hr (.cons (k := .inr "a") (.tup h a) .nil), fun _ => rfl, rfl, ?_, ?_, ?_, by show (noboxAll ds && true) = true; rw [odd_noboxAll ok]; rfl⟩
  · show (PyData.showable (.str "a") && PyData.showableAll ds && true) = true
    rw [show_odd ok]
    rfl
  · show _ ≤ 60
    simp only [PyData.depth, PyData.depthKv]
    omega
  · have e : (PyData.dict [(.str "a", .tuple ds)]).shown = dictText [reprText "a" ++ ": " ++ (PyData.tuple ds).shown] := by
      simp only [PyData.shown, PyData.shownKv]
    rw [e]
    unfold dictText
    rw [strLen_append, strLen_append]
    show _ + (reprText "a" ++ ": " ++ (PyData.tuple ds).shown).length + _ ≤ _
    rw [strLen_append, strLen_append]
    have e1 : ("{" : Str).length = 1 := rfl
    have e2 : ("}" : Str).length = 1 := rfl
    have e3 : (": " : Str).length = 2 := rfl
    have e4 : (reprText "a").length = 3 := by decide +kernel
    omega
end M3

/-! M10: things that are no texts with a frame, and what is shown of them. -/
namespace M10
open PySem PySem.Spec PyProof.Rows L2 Z SX M9 M3

def Vd (H : Hp) (v : V) (d : PyData) : Prop := ∃ g, Dz g H v d
theorem Vd.kind {K : PySem.W.Frag} {H : Hp} {v : V} {d : PyData} (h : Vd H v d) : KindV K H v (kindD d) := by
  obtain ⟨g, h⟩ := h
  exact Dz.kind h
theorem Vd.int {H : Hp} {v : V} {i : Int} (h : Vd H v (.int i)) : v = .int i := by
  obtain ⟨g, h⟩ := h
  cases h
  rfl
theorem Vd.str {H : Hp} {v : V} {x : Str} (h : Vd H v (.str x)) : v = .str x := by
  obtain ⟨g, h⟩ := h
  cases h
  rfl
theorem Vd.same {H H2 : Hp} {v : V} {d : PyData} (h : Vd H v d) (s : Same H H2) : Vd H2 v d := by
  obtain ⟨g, h⟩ := h
  exact ⟨g, Dz.same s h⟩
def txt : PyData → Bool
  | .str x => asciiS x && decide (x.length ≤ 1000000)
  | _ => true
def framD : PyData → Bool
  | .str x => prS x && decide (x.length ≤ 80000)
  | _ => false
def cntD : PyData → Bool
  | .int i => decide (0 ≤ i)
  | _ => false
theorem prS_of {l : List Nat} (h : Pr l) : prS (S l) = true := by
  unfold prS
  rw [cps_S, List.all_eq_true]
  intro c hc
  simpa using h c hc
theorem asc_of {l : List Nat} (h : ∀ c ∈ l, c < 128) : asciiS (S l) = true := by
  unfold asciiS
  rw [cps_S, List.all_eq_true]
  intro c hc
  exact decide_eq_true (h c hc)
theorem lt_pr {l : List Nat} (h : Pr l) : ∀ c ∈ l, c < 128 := fun c hc => by
  have := h c hc
  omega
theorem txt_S {l : List Nat} (h : ∀ c ∈ l, c < 128) (hl : l.length ≤ 1000000) : txt (.str (S l)) = true := by
  show (asciiS (S l) && decide ((S l).length ≤ 1000000)) = true
  rw [asc_of h, length_S, decide_eq_true hl]
  rfl
theorem pr_prS {x : Str} (h : prS x = true) : Pr x.cps.toList := fun c hc => by simpa using (List.all_eq_true.mp h) c hc
theorem S_cps (x : Str) : x = S x.cps.toList := by
  cases x with
  | mk a => rfl
/-- a text with a frame; a thing that has none; a thing of other signs, or no text -/
def OkI (x : V) : Prop := ∃ l, x = .str (S l) ∧ Pr l ∧ l.length ≤ 80000
def BadI (H : Hp) (x : V) : Prop := ∃ d, Vd H x d ∧ txt d = true ∧ framD d = false
def BadS (H : Hp) (x : V) : Prop := ∃ d, Vd H x d ∧ txt d = true ∧ signsD d = false
theorem BadS.i {H : Hp} {x : V} (h : BadS H x) : BadI H x := by
  obtain ⟨d, a, b, c⟩ := h
  refine ⟨d, a, b, ?_⟩
  cases d with
  | str z =>
    have c : prS z = false := c
    show (prS z && _) = false
    rw [c]
    rfl
  | _ => rfl
theorem BadI.same {H H2 : Hp} {x : V} (h : BadI H x) (s : Same H H2) : BadI H2 x := by
  obtain ⟨d, a, b⟩ := h
  exact ⟨d, a.same s, b⟩
theorem BadS.same {H H2 : Hp} {x : V} (h : BadS H x) (s : Same H H2) : BadS H2 x := by
  obtain ⟨d, a, b⟩ := h
  exact ⟨d, a.same s, b⟩
theorem _root_.Z.KindV.same {K : PySem.W.Frag} {H H2 : Hp} {x : V} {k : String} (h : KindV K H x k) (s : Same H H2) : KindV K H2 x k := by
  unfold KindV at h ⊢
  split at h
  · exact h
  · exact h
  · exact h
  · exact h
  · rcases h with ⟨e, xs, h⟩ | ⟨e, xs, h⟩ | ⟨e, ⟨kvs, h⟩ | ⟨kvs, h⟩⟩
    · exact .inl ⟨e, xs, sqL_same s h⟩
    · exact .inr (.inl ⟨e, xs, sqT_same s h⟩)
    · exact .inr (.inr ⟨e, .inl ⟨kvs, s _ _ h⟩⟩)
    · exact .inr (.inr ⟨e, .inr ⟨kvs, s _ _ h⟩⟩)
  · exact h.elim
/-- no list and no tuple -/
def NoL (K : PySem.W.Frag) (H : Hp) (v : V) : Prop := ∃ k, KindV K H v k ∧ (isK k "list" || isK k "tuple") = false
theorem NoL.same {K : PySem.W.Frag} {H H2 : Hp} {v : V} (h : NoL K H v) (s : Same H H2) : NoL K H2 v := by
  obtain ⟨k, a, b⟩ := h
  exact ⟨k, a.same s, b⟩
/-- a list or tuple: good texts, then a thing that has no frame -/
def BadL (K : PySem.W.Frag) (H : Hp) (v x : V) : Prop := ∃ a pre post, v = .ref a ∧ (SqL K H a (strsV pre ++ x :: post) ∨ SqT K H a (strsV pre ++ x :: post)) ∧ (∀ l ∈ pre, Pr l ∧ l.length ≤ 80000) ∧ BadI H x
theorem BadL.same {K : PySem.W.Frag} {H H2 : Hp} {v x : V} (h : BadL K H v x) (s : Same H H2) : BadL K H2 v x := by
  obtain ⟨a, pre, post, e, c, d, b⟩ := h
  exact ⟨a, pre, post, e, c.imp (sqL_same s) (sqT_same s), d, b.same s⟩
/-- .. good texts alone -/
def OkL (K : PySem.W.Frag) (H : Hp) (v : V) (ls : List (List Nat)) : Prop := ∃ a, v = .ref a ∧ (SqL K H a (strsV ls) ∨ SqT K H a (strsV ls)) ∧ ∀ l ∈ ls, Pr l ∧ l.length ≤ 80000
theorem OkL.same {K : PySem.W.Frag} {H H2 : Hp} {v : V} {ls : List (List Nat)} (h : OkL K H v ls) (s : Same H H2) : OkL K H2 v ls := by
  obtain ⟨a, e, c, d⟩ := h
  exact ⟨a, e, c.imp (sqL_same s) (sqT_same s), d⟩
theorem strs_pre {pre : List (List Nat)} {x y : V} {post : List V} {i : Nat} (h : (strsV pre ++ x :: post)[i]? = some y) (hi : i ≤ pre.length) : (i < pre.length ∧ ∃ l ∈ pre, y = .str (S l)) ∨ (i = pre.length ∧ y = x) := by
  rcases Nat.lt_or_ge i pre.length with lt | ge
  · left
    rw [List.getElem?_append_left (by rw [strsV_len]; exact lt)] at h
    obtain ⟨l, _, e, hm⟩ := strsV_at h
    exact ⟨lt, l, hm, e⟩
  · right
    have e : i = pre.length := by omega
    subst e
    rw [List.getElem?_append_right (by rw [strsV_len]; exact Nat.le_refl _), strsV_len, Nat.sub_self] at h
    exact ⟨rfl, (Option.some.inj h).symm⟩

/-! ### things -/
mutual
theorem Dz.atom {g g' : Bool} {H H2 : Hp} : ∀ {v : V} {d : PyData}, Dz g H v d → atomD d = true → Dz g' H2 v d
  | _, _, .non, _ => .non
  | _, _, .bl b, _ => .bl b
  | _, _, .int i, _ => .int i
  | _, _, .str x, _ => .str x
  | _, _, .lst _ _ _, z => by cases z
  | _, _, .tup _ _, z => by cases z
  | _, _, .dic _ _, z => by cases z
theorem DzAll.atom {g g' : Bool} {H H2 : Hp} : ∀ {vs : List V} {ds : List PyData}, DzAll g H vs ds → (∀ d ∈ ds, atomD d = true) → DzAll g' H2 vs ds
  | _, _, .nil, _ => .nil
  | _, _, .cons h t, z => .cons (Dz.atom h (z _ List.mem_cons_self)) (DzAll.atom t fun d hd => z d (List.mem_cons_of_mem _ hd))
end
inductive Tg (H : Hp) : V → PyData → Prop
  | flat {v : V} {d : PyData} : Dz true H v d → atomD d = true → Tg H v d
  | tup {a : Addr} {xs : List V} {ds : List PyData} : H a = some (.tup xs) → DzAll true H xs ds → (∀ d ∈ ds, atomD d = true) → Tg H (.ref a) (.tuple ds)
  | lst {a : Addr} {xs : List V} {ds : List PyData} : H a = some (.lst xs) → a ≠ sysModules → DzAll true H xs ds → (∀ d ∈ ds, atomD d = true) → Tg H (.ref a) (.list ds)
  | dic {a : Addr} : H a = some (.dK []) → Tg H (.ref a) (.dict [])
theorem Tg.dz {H : Hp} {v : V} {d : PyData} (h : Tg H v d) : Dz true H v d := by
  cases h with
  | flat h _ => exact h
  | tup h a _ => exact .tup h a
  | lst h n a _ => exact .lst h (fun _ => n) a
  | dic h => exact .dic h .nil
theorem Tg.vd {H : Hp} {v : V} {d : PyData} (h : Tg H v d) : Vd H v d := ⟨true, h.dz⟩
theorem Tg.same {H H2 : Hp} {v : V} {d : PyData} (h : Tg H v d) (s : Same H H2) : Tg H2 v d := by
  cases h with
  | flat h a => exact .flat (Dz.same s h) a
  | tup h a z => exact .tup (s _ _ h) (DzAll.same s a) z
  | lst h n a z => exact .lst (s _ _ h) n (DzAll.same s a) z
  | dic h => exact .dic (s _ _ h)
theorem Tg.but {H H2 : Hp} {b : Addr} {bs : List V} (hb : H b = some (.lst bs)) (h4 : bs.length = 4) (t : But b H H2) {v : V} {d : PyData} (h : Tg H v d) (k : nobox d = true) : Tg H2 v d := by
  have full := Dz.but hb h4 t h.dz k
  cases h with
  | flat h a => exact .flat full a
  | tup h a z => exact .tup (t _ _ (fun e => by rw [e, hb] at h; cases h) h) (DzAll.atom a z) z
  | @lst p xs ds h n a z =>
    cases full with
    | lst h2 _ a2 =>
      have e : p ≠ b := fun e => by
        have k : ((ds.length != 4) && noboxAll ds) = true := k
        rw [Bool.and_eq_true] at k
        rw [e, hb] at h
        have := DzAll.len a
        cases h
        exact not4 k.1 (by omega)
      exact .lst (t _ _ e h) n (DzAll.atom a z) z
  | dic h => exact .dic (t _ _ (fun e => by rw [e, hb] at h; cases h) h)

/-! ### how long what is shown is -/
structure Sw (k B : Nat) (d : PyData) : Prop where
  sh : d.showable = true
  dp : d.depth ≤ k
  ln : d.shown.length ≤ B
theorem Sw.mono {j k A B : Nat} {d : PyData} (h : Sw j A d) (a : j ≤ k) (b : A ≤ B) : Sw k B d := ⟨h.sh, Nat.le_trans h.dp a, Nat.le_trans h.ln b⟩
theorem sw_odd {d : PyData} (h : oddOk d = true) : Sw 3 2000 d := by
  obtain ⟨_, b, c, e⟩ := oddOk_of h
  exact ⟨b, c, e⟩
theorem sw_all {k B : Nat} : ∀ {ds : List PyData}, (∀ d ∈ ds, Sw k B d) → PyData.showableAll ds = true ∧ PyData.depthAll ds ≤ k ∧ (ds.map fun d => d.shown.length + 2).sum ≤ ds.length * (B + 2)
  | [], _ => ⟨rfl, Nat.zero_le _, Nat.zero_le _⟩
  | d :: r, h => by
    obtain ⟨a, b, c⟩ := sw_all fun x hx => h x (List.mem_cons_of_mem _ hx)
    have e := h d List.mem_cons_self
    refine ⟨?_, ?_, ?_⟩
    · show (d.showable && PyData.showableAll r) = true
      rw [e.sh, a]
      rfl
    · show max d.depth (PyData.depthAll r) ≤ k
      have := e.dp
      omega
    · have := e.ln
      rw [List.map_cons, List.sum_cons, List.length_cons, Nat.succ_mul]
      omega
theorem Sw.list {k B m : Nat} {ds : List PyData} (h : ∀ d ∈ ds, Sw k B d) (hm : ds.length ≤ m) : Sw (k + 1) (4 + m * (B + 2)) (.list ds) := by
  obtain ⟨a, b, c⟩ := sw_all h
  refine ⟨a, ?_, ?_⟩
  · show PyData.depthAll ds + 1 ≤ k + 1
    omega
  · have := len_list ds
    have e : ds.length * (B + 2) ≤ m * (B + 2) := Nat.mul_le_mul_right _ hm
    omega
theorem Sw.tuple {k B m : Nat} {ds : List PyData} (h : ∀ d ∈ ds, Sw k B d) (hm : ds.length ≤ m) : Sw (k + 1) (4 + m * (B + 2)) (.tuple ds) := by
  obtain ⟨a, b, c⟩ := sw_all h
  refine ⟨a, ?_, ?_⟩
  · show PyData.depthAll ds + 1 ≤ k + 1
    omega
  · have := len_tuple ds
    have e : ds.length * (B + 2) ≤ m * (B + 2) := Nat.mul_le_mul_right _ hm
    omega
/-- repr of data -/
theorem show_of {H : Hp} {v : V} {d : PyData} {Q : VK} {k B : Nat} (h : Dz true H v d) (s : Sw k B d) (hk : k ≤ 60) (hB : B ≤ 16000000) (q : Q (.str d.shown) H) : zRepr [v] H Q :=
  ⟨true, d, h, fun _ => rfl, s.sh, Nat.le_trans s.dp hk, sz (Nat.le_trans s.ln hB), q⟩
end M10

/-! M6: disks: names, texts, their tables as they lie in the abstract heap. -/
namespace M6
open PySem PySem.Spec PyProof.Rows L2 Z SX M9 M3 M10

/-! ### names and texts -/
def alf : List Nat := ("abcdefghijklmnopqrstuvwxyz0123456789-" : Str).cps.toList
def mrk : List Nat := [32, 33, 35, 36, 38, 39, 40, 41, 42, 43, 44, 45, 46, 47, 58, 59, 60, 61, 62, 63, 64, 91, 93, 94, 95, 96, 123, 124, 125, 126] ++ [34] ++ [92] ++ ("ABCDEFGHIJKLMNOPQRSTUVWXYZ" : Str).cps.toList ++ alf
def inAlf (c : Nat) : Bool := decide (c ∈ alf)
def inMrk (c : Nat) : Bool := decide (c ∈ mrk)
def nmS (x : Str) : Bool := decide (1 ≤ x.length) && decide (x.length ≤ 12) && x.cps.toList.all inAlf
def nmD : PyData → Bool
  | .str x => nmS x
  | _ => false
def mkS (x : Str) : Bool := decide (x.length ≠ 0) && x.cps.toList.all inMrk
def txD : PyData → Bool
  | .str x => mkS x
  | _ => false
/-- a text on which the law's judging and the program's meet -/
def txOk : PyData → Bool
  | .str x => asciiS x && decide (x.length ≤ 30) && (mkS x == (prS x && decide (x.length ≠ 0)))
  | _ => true
def nmOk : PyData → Bool
  | .str x => asciiS x && decide (x.length ≤ 30)
  | _ => true
theorem alf_pr : ∀ c ∈ alf, 32 ≤ c ∧ c ≤ 126 := pr_of (by decide +kernel)
theorem mrk_pr : ∀ c ∈ mrk, 32 ≤ c ∧ c ≤ 126 := pr_of (by decide +kernel)
theorem alf_mrk {c : Nat} (h : c ∈ alf) : c ∈ mrk := List.mem_append.mpr (.inr h)
theorem len_cps (x : Str) : x.cps.toList.length = x.length := by rw [Array.length_toList]; rfl
theorem nm_S {l : List Nat} (h : ∀ c ∈ l, c ∈ alf) (h1 : 1 ≤ l.length) (h2 : l.length ≤ 12) : nmS (S l) = true := by
  unfold nmS
  rw [length_S, cps_S, decide_eq_true h1, decide_eq_true h2, Bool.and_self, Bool.true_and, List.all_eq_true]
  exact fun c hc => decide_eq_true (h c hc)
theorem nm_of {x : Str} (h : nmS x = true) : 1 ≤ x.length ∧ x.length ≤ 12 ∧ ∀ c ∈ x.cps.toList, c ∈ alf := by
  unfold nmS at h
  simp only [Bool.and_eq_true, decide_eq_true_eq, List.all_eq_true] at h
  exact ⟨h.1.1, h.1.2, fun c hc => of_decide_eq_true (h.2 c hc)⟩
theorem mk_S {l : List Nat} (h : ∀ c ∈ l, c ∈ mrk) (h1 : 1 ≤ l.length) : mkS (S l) = true := by
  unfold mkS
  rw [length_S, cps_S, decide_eq_true (p := l.length ≠ 0) (by omega), Bool.true_and, List.all_eq_true]
  exact fun c hc => decide_eq_true (h c hc)
theorem mk_of {x : Str} (h : mkS x = true) : x.length ≠ 0 ∧ ∀ c ∈ x.cps.toList, c ∈ mrk := by
  unfold mkS at h
  simp only [Bool.and_eq_true, decide_eq_true_eq, List.all_eq_true] at h
  exact ⟨h.1, fun c hc => of_decide_eq_true (h.2 c hc)⟩
theorem tx_good {l : List Nat} (h : ∀ c ∈ l, c ∈ mrk) (h1 : 1 ≤ l.length) (h2 : l.length ≤ 30) : txOk (.str (S l)) = true ∧ txD (.str (S l)) = true := by
  have p : Pr l := fun c hc => mrk_pr c (h c hc)
  refine ⟨?_, mk_S h h1⟩
  show (asciiS (S l) && decide ((S l).length ≤ 30) && (mkS (S l) == (prS (S l) && decide ((S l).length ≠ 0)))) = true
  rw [asc_of (lt_pr p), length_S, decide_eq_true h2, mk_S h h1, prS_of p, decide_eq_true (p := l.length ≠ 0) (by omega)]
  rfl
theorem tx_bad {l : List Nat} {c : Nat} (h : ∀ c ∈ l, c < 128) (hc : c ∈ l) (b : c < 32) (h2 : l.length ≤ 30) : txOk (.str (S l)) = true ∧ txD (.str (S l)) = false := by
  have m : (l.all inMrk) = false := by
    rw [List.all_eq_false]
    exact ⟨c, hc, fun z => by have := mrk_pr c (of_decide_eq_true z); omega⟩
  have m2 : mkS (S l) = false := by
    unfold mkS
    rw [cps_S, m, Bool.and_false]
  have p : prS (S l) = false := by
    unfold prS
    rw [cps_S, List.all_eq_false]
    exact ⟨c, hc, by simp; omega⟩
  refine ⟨?_, m2⟩
  show (asciiS (S l) && decide ((S l).length ≤ 30) && (mkS (S l) == (prS (S l) && decide ((S l).length ≠ 0)))) = true
  rw [asc_of h, length_S, decide_eq_true h2, m2, p]
  rfl
theorem nm_ok {l : List Nat} (h : ∀ c ∈ l, c < 128) (h2 : l.length ≤ 30) : nmOk (.str (S l)) = true := by
  show (asciiS (S l) && decide ((S l).length ≤ 30)) = true
  rw [asc_of h, length_S, decide_eq_true h2]
  rfl

/-! ### disks as they are thought -/
structure Ds where
  names : List Str
  txt : Str → Str
  sy : Str → Nat
def Ds.put (D : Ds) (n t : Str) (m : Nat) : Ds := ⟨if n ∈ D.names then D.names else D.names ++ [n], fun j => if j = n then t else D.txt j, fun j => if j = n then m else D.sy j⟩
def Ds.drop (D : Ds) (n : Str) : Ds := ⟨D.names.filter fun j => decide (j ≠ n), D.txt, D.sy⟩
def Ds.tx (D : Ds) (n : Str) : Str := if n ∈ D.names then D.txt n else ""
def Ds.mt (D : Ds) (n : Str) : Nat := if n ∈ D.names then D.sy n else 0
theorem Ds.tx_in {D : Ds} {n : Str} (h : n ∈ D.names) : D.tx n = D.txt n := if_pos h
theorem Ds.mt_in {D : Ds} {n : Str} (h : n ∈ D.names) : D.mt n = D.sy n := if_pos h
/-- a table of the names -/
def Tb (kvs : List (Key × V)) (ns : List Str) (g : Str → V) : Prop := kvs.map (·.1) = ns.map Sum.inr ∧ ∀ j : Str, valV kvs (Sum.inr j) = if j ∈ ns then some (g j) else none
theorem Tb.len {kvs : List (Key × V)} {ns : List Str} {g : Str → V} (h : Tb kvs ns g) : kvs.length = ns.length := by
  have := congrArg List.length h.1
  simpa using this
theorem Tb.at {kvs : List (Key × V)} {ns : List Str} {g : Str → V} (h : Tb kvs ns g) {n : Str} (i : n ∈ ns) : valV kvs (Sum.inr n) = some (g n) := by rw [h.2, if_pos i]
theorem Tb.no {kvs : List (Key × V)} {ns : List Str} {g : Str → V} (h : Tb kvs ns g) {n : Str} (i : n ∉ ns) : valV kvs (Sum.inr n) = none := by rw [h.2, if_neg i]
theorem Tb.has {kvs : List (Key × V)} {ns : List Str} {g : Str → V} (h : Tb kvs ns g) (n : Str) : (valV kvs (Sum.inr n)).isSome = decide (n ∈ ns) := by
  rw [h.2]
  by_cases i : n ∈ ns
  · rw [if_pos i, decide_eq_true i]; rfl
  · rw [if_neg i, decide_eq_false i]; rfl
theorem Tb.nil {g : Str → V} : Tb [] [] g := ⟨rfl, fun j => by rw [if_neg (by simp)]; rfl⟩
theorem put_keys {kvs : List (Key × V)} {k : Key} {v : V} : (k ∈ kvs.map (·.1) → (putK kvs k v).map (·.1) = kvs.map (·.1)) ∧ (k ∉ kvs.map (·.1) → (putK kvs k v).map (·.1) = kvs.map (·.1) ++ [k]) := by
  unfold putK
  by_cases a : (kvs.any fun kv => decide (kv.1 = k)) = true
  · have i : k ∈ kvs.map (·.1) := by
      obtain ⟨p, hp, e⟩ := List.any_eq_true.mp a
      exact List.mem_map.mpr ⟨p, hp, of_decide_eq_true e⟩
    refine ⟨fun _ => ?_, fun z => (z i).elim⟩
    rw [if_pos a, List.map_map]
    refine List.map_congr_left fun p _ => ?_
    show (if p.1 = k then (p.1, v) else p).1 = p.1
    split <;> rfl
  · have i : k ∉ kvs.map (·.1) := fun z => a (by
      obtain ⟨p, hp, e⟩ := List.mem_map.mp z
      exact List.any_eq_true.mpr ⟨p, hp, decide_eq_true e⟩)
    refine ⟨fun z => (i z).elim, fun _ => ?_⟩
    rw [if_neg a, List.map_append]
    rfl
theorem Tb.put {kvs : List (Key × V)} {ns : List Str} {g : Str → V} (h : Tb kvs ns g) (n : Str) (v : V) : Tb (putK kvs (Sum.inr n) v) (if n ∈ ns then ns else ns ++ [n]) (fun j => if j = n then v else g j) := by
  have mem : (Sum.inr n ∈ kvs.map (·.1)) ↔ n ∈ ns := by
    rw [h.1, List.mem_map]
    constructor
    · rintro ⟨a, ha, e⟩
      cases e
      exact ha
    · exact fun z => ⟨n, z, rfl⟩
  refine ⟨?_, fun j => ?_⟩
  · by_cases i : n ∈ ns
    · rw [put_keys.1 (mem.mpr i), if_pos i, h.1]
    · rw [put_keys.2 (fun z => i (mem.mp z)), if_neg i, h.1, List.map_append]
      rfl
  · rw [valV_put, h.2]
    have e : ((Sum.inr j : Key) = Sum.inr n) ↔ j = n := ⟨fun z => by cases z; rfl, fun z => by rw [z]⟩
    by_cases q : j = n
    · rw [if_pos (e.mpr q)]
      subst q
      rw [if_pos (by split <;> simp [*])]
      show some v = some (if j = j then v else g j)
      rw [if_pos rfl]
    · rw [if_neg (fun z => q (e.mp z))]
      show (if j ∈ ns then some (g j) else none) = if j ∈ (if n ∈ ns then ns else ns ++ [n]) then some (if j = n then v else g j) else none
      rw [if_neg (c := j = n) q]
      by_cases i : n ∈ ns
      · rw [if_pos i]
      · rw [if_neg i]
        by_cases c : j ∈ ns
        · rw [if_pos c, if_pos (List.mem_append.mpr (.inl c))]
        · rw [if_neg c, if_neg (fun z => (List.mem_append.mp z).elim c fun w => q (List.mem_singleton.mp w))]
theorem valV_drop (k j : Key) : ∀ kvs : List (Key × V), valV (dropK kvs k) j = if j = k then none else valV kvs j
  | [] => by split <;> rfl
  | p :: r => by
    have ih := valV_drop k j r
    by_cases a : p.1 = k
    · rw [show dropK (p :: r) k = dropK r k by simp [dropK, a], ih]
      by_cases q : j = k
      · rw [if_pos q, if_pos q]
      · rw [if_neg q, if_neg q, valV_neg (fun z => q (z.symm.trans a))]
    · rw [show dropK (p :: r) k = p :: dropK r k by simp [dropK, a]]
      by_cases c : p.1 = j
      · rw [valV_pos c, valV_pos c, if_neg (fun z => a (c.trans z))]
      · rw [valV_neg c, valV_neg c, ih]
theorem Tb.drop {kvs : List (Key × V)} {ns : List Str} {g : Str → V} (h : Tb kvs ns g) (n : Str) : Tb (dropK kvs (Sum.inr n)) (ns.filter fun j => decide (j ≠ n)) g := by
  refine ⟨?_, fun j => ?_⟩
  · have gen : ∀ (kvs : List (Key × V)) (ns : List Str), kvs.map (·.1) = ns.map Sum.inr → (dropK kvs (Sum.inr n)).map (·.1) = (ns.filter fun j => decide (j ≠ n)).map Sum.inr := by
      intro kvs
      induction kvs with
      | nil =>
        intro ns e
        cases ns with
        | nil => rfl
        | cons a r => cases e
      | cons p r ih =>
        intro ns e
        cases ns with
        | nil => cases e
        | cons a t =>
          have e1 : p.1 = Sum.inr a := (List.cons.inj e).1
          have e2 := ih t (List.cons.inj e).2
          by_cases q : a = n
          · have q' : p.1 = (Sum.inr n : Key) := by rw [e1, q]
            rw [show dropK (p :: r) (Sum.inr n) = dropK r (Sum.inr n) by simp [dropK, q'], e2, List.filter_cons, if_neg (by simp [q])]
          · have q' : ¬ p.1 = (Sum.inr n : Key) := fun z => q (by rw [e1] at z; cases z; rfl)
            rw [show dropK (p :: r) (Sum.inr n) = p :: dropK r (Sum.inr n) by simp [dropK, q'], List.map_cons, e2, e1, List.filter_cons, if_pos (by simp [q])]
            rfl
    exact gen kvs ns h.1
  · rw [valV_drop, h.2]
    by_cases q : j = n
    · rw [if_pos (by rw [q]), if_neg (fun z => by simpa [q] using (List.mem_filter.mp z).2)]
    · rw [if_neg (fun z => q (by cases z; rfl))]
      by_cases i : j ∈ ns
      · rw [if_pos i, if_pos (List.mem_filter.mpr ⟨i, by simpa using q⟩)]
      · rw [if_neg i, if_neg (fun z => i (List.mem_filter.mp z).1)]
theorem Tb.ext {kvs : List (Key × V)} {ns : List Str} {g g' : Str → V} (h : Tb kvs ns g) (e : ∀ j, g j = g' j) : Tb kvs ns g' := ⟨h.1, fun j => by rw [h.2, e]⟩
theorem Tb.mem {kvs : List (Key × V)} {ns : List Str} {g : Str → V} (h : Tb kvs ns g) : kvs.map (fun kv => kV kv.1) = ns.map V.str := by
  have : kvs.map (fun kv => kV kv.1) = (kvs.map (·.1)).map kV := by rw [List.map_map]; rfl
  rw [this, h.1, List.map_map]
  rfl

/-! ### what stays -/
/-- all stays but these -/
def Kp (l : List Addr) (H H2 : Hp) : Prop := ∀ b o, b ∉ l → H b = some o → H2 b = some o
theorem Kp.refl {l : List Addr} {H : Hp} : Kp l H H := fun _ _ _ h => h
theorem Kp.same {l : List Addr} {H H2 : Hp} (s : Same H H2) : Kp l H H2 := fun b o _ h => s b o h
theorem Kp.trans {l : List Addr} {H H1 H2 : Hp} (x : Kp l H H1) (y : Kp l H1 H2) : Kp l H H2 := fun b o n h => y b o n (x b o n h)
theorem Kp.nw {l : List Addr} {H H1 H2 : Hp} {p : Addr} {o : HO} (x : Kp l H H1) (n : Nw H1 p o H2) : Kp l H H2 := x.trans (.same n.same)
theorem Kp.wr {l : List Addr} {H H1 H2 : Hp} {p : Addr} {o : HO} (x : Kp l H H1) (i : p ∈ l) (n : Wr H1 p o H2) : Kp l H H2 := fun b u e h => n.keep (fun z => e (z ▸ i)) (x b u e h)
theorem Kp.sub {l m : List Addr} {H H1 : Hp} (x : Kp l H H1) (i : ∀ b ∈ l, b ∈ m) : Kp m H H1 := fun b o n h => x b o (fun z => n (i b z)) h
theorem Kp.but {b : Addr} {H H1 : Hp} (x : But b H H1) : Kp [b] H H1 := fun a o n h => x a o (fun z => n (by rw [z]; exact List.mem_singleton.mpr rfl)) h
/-- what is written is fresh, or among these -/
theorem Kp.wrNew {l : List Addr} {H H1 H2 : Hp} {p : Addr} {o : HO} (x : Kp l H H1) (f : H p = none) (n : Wr H1 p o H2) : Kp l H H2 := fun b u e h => n.keep (ne_of_none h f) (x b u e h)
theorem Kp.at {l : List Addr} {H H1 : Hp} {b : Addr} {o : HO} (x : Kp l H H1) (n : b ∉ l) (h : H b = some o) : H1 b = some o := x b o n h
theorem ne_obj {H : Hp} {a b : Addr} {o u : HO} (h : H a = some o) (k : H b = some u) (ne : o ≠ u) : a ≠ b := fun z => by
  rw [z, k] at h
  exact ne (Option.some.inj h).symm

/-! ### disks and the law's files in the heap -/
def flds (f m : Addr) (c : Int) (lf : V) : List (Str × V) := [("files", .ref f), ("marks", .ref m), ("calls", .int c), ("left", lf)]
def DiskAt (K : PySem.W.Frag) (H : Hp) (a f m : Addr) (D : Ds) (c : Int) (lf : V) : Prop := f ≠ m ∧ ∃ C dx kf km, clsAt K "Disk" C ∧ H a = some (.ins C dx (flds f m c lf)) ∧ H f = some (.dK kf) ∧ H m = some (.dK km) ∧
  Tb kf D.names (fun j => .str (D.txt j)) ∧ Tb km D.names (fun j => .int (D.sy j : Nat))
theorem DiskAt.kp {K : PySem.W.Frag} {H H2 : Hp} {a f m : Addr} {D : Ds} {c : Int} {lf : V} {l : List Addr} (h : DiskAt K H a f m D c lf) (k : Kp l H H2) (na : a ∉ l) (nf : f ∉ l) (nm : m ∉ l) : DiskAt K H2 a f m D c lf := by
  obtain ⟨n, C, dx, kf, km, hc, h1, h2, h3, t⟩ := h
  exact ⟨n, C, dx, kf, km, hc, k.at na h1, k.at nf h2, k.at nm h3, t⟩
theorem DiskAt.same {K : PySem.W.Frag} {H H2 : Hp} {a f m : Addr} {D : Ds} {c : Int} {lf : V} (h : DiskAt K H a f m D c lf) (s : Same H H2) : DiskAt K H2 a f m D c lf :=
  h.kp (Kp.same (l := []) s) List.not_mem_nil List.not_mem_nil List.not_mem_nil
/-- what stands at a disk's addresses is no list -/
theorem DiskAt.nolist {K : PySem.W.Frag} {H : Hp} {a f m : Addr} {D : Ds} {c : Int} {lf : V} (h : DiskAt K H a f m D c lf) : ∀ b ∈ [a, f, m], ∀ xs, H b ≠ some (.lst xs) := by
  obtain ⟨n, C, dx, kf, km, hc, h1, h2, h3, t⟩ := h
  intro b hb xs e
  simp only [List.mem_cons, List.not_mem_nil, or_false] at hb
  rcases hb with rfl | rfl | rfl
  · rw [h1] at e; cases e
  · rw [h2] at e; cases e
  · rw [h3] at e; cases e
/-- a disk stays where a list is written -/
theorem DiskAt.list {K : PySem.W.Frag} {H H2 : Hp} {a f m b : Addr} {D : Ds} {c : Int} {lf : V} {xs : List V} (h : DiskAt K H a f m D c lf) (e : H b = some (.lst xs)) (k : Kp [b] H H2) : DiskAt K H2 a f m D c lf := by
  have q := h.nolist
  exact h.kp k (fun z => q a (by simp) xs (by rw [List.mem_singleton.mp z]; exact e)) (fun z => q f (by simp) xs (by rw [List.mem_singleton.mp z]; exact e)) (fun z => q m (by simp) xs (by rw [List.mem_singleton.mp z]; exact e))
def LawAt (H : Hp) (L : Addr) (D : Ds) : Prop := ∃ (kvs : List (Key × V)) (adr : Str → Addr), H L = some (.dK kvs) ∧ Tb kvs D.names (fun j => .ref (adr j)) ∧ ∀ j ∈ D.names, H (adr j) = some (.lst [.str (D.txt j), .int (D.sy j : Nat)])
theorem LawAt.kp {H H2 : Hp} {L : Addr} {D : Ds} {l : List Addr} (h : LawAt H L D) (k : Kp l H H2) (nL : L ∉ l) (np : ∀ b ∈ l, ∀ t i, H b ≠ some (.lst [.str t, .int i])) : LawAt H2 L D := by
  obtain ⟨kvs, adr, h1, t, h2⟩ := h
  exact ⟨kvs, adr, k.at nL h1, t, fun j hj => k.at (fun z => np _ z _ _ (h2 j hj)) (h2 j hj)⟩
theorem LawAt.same {H H2 : Hp} {L : Addr} {D : Ds} (h : LawAt H L D) (s : Same H H2) : LawAt H2 L D := h.kp (Kp.same (l := []) s) List.not_mem_nil (fun _ z => by cases z)
theorem LawAt.dk {H : Hp} {L : Addr} {D : Ds} (h : LawAt H L D) : ∃ kvs, H L = some (.dK kvs) := by
  obtain ⟨kvs, adr, h1, _⟩ := h
  exact ⟨kvs, h1⟩

/-! ### what a call does -/
def act (i : Int) (D : Ds) (n t : Str) : Ds := if i < 2 then D.put n (D.tx n ++ t) (D.mt n) else if i < 4 then D.put n (D.txt n) (D.txt n).length else if i < 6 then D.drop n else D
def tell (i : Int) (D : Ds) (n : Str) : V := if i < 6 then .non else if i < 8 then .str (D.txt n) else .int (D.sy n : Nat)
def one (i : Int) : Int := if i < 6 then 1 else 0
/-- a disk within bounds, behind k calls -/
structure Dok (k : Nat) (D : Ds) : Prop where
  len : D.names.length ≤ k
  nm : ∀ j ∈ D.names, nmS j = true
  tx : ∀ j ∈ D.names, (D.txt j).length ≤ 30 * k
  sy : ∀ j ∈ D.names, D.sy j ≤ 30 * k
  ch : ∀ j ∈ D.names, ∀ c ∈ (D.txt j).cps.toList, c < 16 ^ 8
theorem Dok.mono {k l : Nat} {D : Ds} (h : Dok k D) (e : k ≤ l) : Dok l D := ⟨Nat.le_trans h.len e, h.nm, fun j hj => Nat.le_trans (h.tx j hj) (Nat.mul_le_mul_left _ e), fun j hj => Nat.le_trans (h.sy j hj) (Nat.mul_le_mul_left _ e), h.ch⟩
theorem strApp_len (a b : Str) : (a ++ b).length = a.length + b.length := strLen_append a b
theorem Dok.put {k : Nat} {D : Ds} (h : Dok k D) {n t : Str} {m : Nat} (hn : nmS n = true) (ht : t.length ≤ 30 * (k + 1)) (hm : m ≤ 30 * (k + 1)) (hc : ∀ c ∈ t.cps.toList, c < 16 ^ 8) : Dok (k + 1) (D.put n t m) := by
  have mem : ∀ j, j ∈ (D.put n t m).names → j = n ∨ j ∈ D.names := by
    intro j hj
    unfold Ds.put at hj
    dsimp only at hj
    split at hj
    · exact .inr hj
    · exact (List.mem_append.mp hj).elim .inr fun z => .inl (List.mem_singleton.mp z)
  refine ⟨?_, fun j hj => ?_, fun j hj => ?_, fun j hj => ?_, fun j hj => ?_⟩
  · have := h.len
    unfold Ds.put
    dsimp only
    split
    · omega
    · rw [List.length_append, List.length_singleton]; omega
  · rcases mem j hj with rfl | z
    · exact hn
    · exact h.nm j z
  · show (if j = n then t else D.txt j).length ≤ _
    rcases mem j hj with rfl | z
    · rw [if_pos rfl]; exact ht
    · have := h.tx j z
      split
      · exact ht
      · omega
  · show (if j = n then m else D.sy j) ≤ _
    rcases mem j hj with rfl | z
    · rw [if_pos rfl]; exact hm
    · have := h.sy j z
      split
      · exact hm
      · omega
  · show ∀ c ∈ (if j = n then t else D.txt j).cps.toList, c < 16 ^ 8
    rcases mem j hj with rfl | z
    · rw [if_pos rfl]; exact hc
    · split
      · exact hc
      · exact h.ch j z
theorem Dok.drop {k : Nat} {D : Ds} (h : Dok k D) (n : Str) : Dok k (D.drop n) := by
  have mem : ∀ j, j ∈ (D.drop n).names → j ∈ D.names := fun j hj => (List.mem_filter.mp hj).1
  exact ⟨Nat.le_trans (List.length_filter_le _ _) h.len, fun j hj => h.nm j (mem j hj), fun j hj => h.tx j (mem j hj), fun j hj => h.sy j (mem j hj), fun j hj => h.ch j (mem j hj)⟩
theorem Dok.act {k : Nat} {D : Ds} (h : Dok k D) {i : Int} {n t : Str} (hn : nmS n = true) (ht : i < 2 → t.length ≤ 30) (hc : i < 2 → ∀ c ∈ t.cps.toList, c < 16 ^ 8) (hi : 2 ≤ i → n ∈ D.names) : Dok (k + 1) (act i D n t) := by
  unfold M6.act
  have e0 : ("" : Str).length = 0 := by decide
  split
  · rename_i h2
    have ht := ht h2
    have hc := hc h2
    refine h.put hn ?_ ?_ ?_
    · rw [strApp_len]
      unfold Ds.tx
      split
      · have := h.tx n (by assumption); omega
      · rw [e0]; omega
    · unfold Ds.mt
      split
      · have := h.sy n (by assumption); omega
      · omega
    · intro x hx
      rw [show (D.tx n ++ t).cps.toList = (D.tx n).cps.toList ++ t.cps.toList from Array.toList_append, List.mem_append] at hx
      rcases hx with hx | hx
      · unfold Ds.tx at hx
        split at hx
        · exact h.ch n (by assumption) x hx
        · exact absurd hx (by rw [show ("" : Str).cps.toList = [] by decide]; simp)
      · exact hc x hx
  split
  · have := h.tx n (hi (by omega))
    exact h.put hn (by omega) (by omega) (h.ch n (hi (by omega)))
  split
  · exact (h.drop n).mono (by omega)
  · exact h.mono (by omega)
theorem Dok.nil : Dok 0 ⟨[], fun _ => "", fun _ => 0⟩ := ⟨Nat.le_refl _, fun _ h => (by cases h), fun _ h => (by cases h), fun _ h => (by cases h), fun _ h => (by cases h)⟩

/-! ### sorted lists of texts -/
theorem rising_pw : ∀ (p : Str) (l : List Str), risingS p l = true → (p :: l).Pairwise fun a b => ¬ b.cps.toList < a.cps.toList
  | p, [], _ => List.pairwise_singleton _ _
  | p, x :: r, h => by
    have h : (!ltCps x.cps.toList p.cps.toList && risingS x r) = true := h
    rw [Bool.and_eq_true, Bool.not_eq_true'] at h
    have ih := rising_pw x r h.2
    have h1 : ¬ x.cps.toList < p.cps.toList := by
      have := h.1
      rw [ltCps_eq] at this
      exact of_decide_eq_false this
    refine List.pairwise_cons.mpr ⟨fun y hy => ?_, ih⟩
    rcases List.mem_cons.mp hy with rfl | hy
    · exact h1
    · have h2 := (List.pairwise_cons.mp ih).1 y hy
      exact fun z => h1 (List.lt_of_le_of_lt (List.not_lt.mp h2) z)
theorem sorted_pw {l : List Str} (h : sortedS l = true) : l.Pairwise fun a b => ¬ b.cps.toList < a.cps.toList := by
  cases l with
  | nil => exact .nil
  | cons x r => exact rising_pw x r h
theorem str_ext {a b : Str} (h : a.cps.toList = b.cps.toList) : a = b := by
  cases a with
  | mk x =>
    cases b with
    | mk y => exact congrArg Str.mk (Array.toList_inj.mp h)
theorem sorted_one {l m : List Str} (p : l.Perm m) (h : sortedS l = true) (k : sortedS m = true) : l = m := by
  refine p.eq_of_pairwise ?_ (sorted_pw h) (sorted_pw k)
  intro a b _ _ h1 h2
  exact str_ext (List.le_antisymm (List.not_lt.mp h1) (List.not_lt.mp h2))

/-! ### lists of names as data -/
def namesD (ns : List Str) : PyData := .list (ns.map .str)
theorem dz_names {g : Bool} {H : Hp} : ∀ ns : List Str, DzAll g H (ns.map V.str) (ns.map .str)
  | [] => .nil
  | n :: r => .cons (.str n) (dz_names r)
theorem namesV {ns : List Str} : ns.map V.str = strsV (ns.map fun n => n.cps.toList) := by
  rw [strsV, List.map_map, List.map_map]
  refine List.map_congr_left fun n _ => ?_
  show V.str n = V.str (S n.cps.toList)
  rw [← S_cps]
theorem names_pr {ns : List Str} (h : ∀ n ∈ ns, nmS n = true) : ∀ l ∈ ns.map (fun n => n.cps.toList), Pr l := fun l hl => by
  obtain ⟨n, hn, rfl⟩ := List.mem_map.mp hl
  exact fun c hc => alf_pr c ((nm_of (h n hn)).2.2 c hc)
theorem eq_names {K : PySem.W.Frag} {H : Hp} {p q : Addr} {ns : List Str} (h : ∀ n ∈ ns, nmS n = true) (hp : SqL K H p (ns.map V.str)) (hq : SqL K H q (ns.map V.str)) :
    ∃ d e, Dp K H (.ref p) d ∧ Dp K H (.ref q) e ∧ SeqAt.shaped d = true ∧ SeqAt.shaped e = true ∧ PyData.eqv d e = true := by
  rw [namesV] at hp hq
  have s := shaped_strs (names_pr h)
  exact ⟨_, _, dp_strs hp, dp_strs hq, s, s, eqv_self s⟩
end M6

namespace L06_
open PySem PySem.Spec PyProof.Rows L2 Z
open SX M9 M3 M10 M6
def top (i : Nat) : Stmt := PySem.Challenge.pw_inorderonce_k06_files_and_what_is_synced.main.body.getD i (.Pass ⟨0, 0, 0, 0⟩)
-- VARS: e_InvalidName e_InvalidText e_NoFile e_QueueError e_Disk
structure Txt (K : PySem.W.Frag) (mg : Str → Option Value) (e_InvalidName e_InvalidText e_NoFile e_QueueError e_Disk : Addr) : Prop where
  g_InvalidName : mg "InvalidName" = some (.ref e_InvalidName)
  a_InvalidName : clsAt K "InvalidName" e_InvalidName
  g_InvalidText : mg "InvalidText" = some (.ref e_InvalidText)
  a_InvalidText : clsAt K "InvalidText" e_InvalidText
  g_NoFile : mg "NoFile" = some (.ref e_NoFile)
  a_NoFile : clsAt K "NoFile" e_NoFile
  g_QueueError : mg "QueueError" = some (.ref e_QueueError)
  a_QueueError : clsAt K "QueueError" e_QueueError
  g_Disk : mg "Disk" = some (.ref e_Disk)
  a_Disk : clsAt K "Disk" e_Disk
  s_InvalidName : Es K e_InvalidName
  n_InvalidName : PySem.W.findIn K (.ref e_InvalidName) "given" = some none
  x_InvalidName_InvalidName : PySem.W.subIn K (.ref e_InvalidName) (.ref e_InvalidName) = some true
  x_InvalidName_InvalidText : PySem.W.subIn K (.ref e_InvalidName) (.ref e_InvalidText) = some false
  x_InvalidName_NoFile : PySem.W.subIn K (.ref e_InvalidName) (.ref e_NoFile) = some false
  s_InvalidText : Es K e_InvalidText
  n_InvalidText : PySem.W.findIn K (.ref e_InvalidText) "given" = some none
  x_InvalidText_InvalidName : PySem.W.subIn K (.ref e_InvalidText) (.ref e_InvalidName) = some false
  x_InvalidText_InvalidText : PySem.W.subIn K (.ref e_InvalidText) (.ref e_InvalidText) = some true
  x_InvalidText_NoFile : PySem.W.subIn K (.ref e_InvalidText) (.ref e_NoFile) = some false
  s_NoFile : Es K e_NoFile
  n_NoFile : PySem.W.findIn K (.ref e_NoFile) "name" = some none
  x_NoFile_InvalidName : PySem.W.subIn K (.ref e_NoFile) (.ref e_InvalidName) = some false
  x_NoFile_InvalidText : PySem.W.subIn K (.ref e_NoFile) (.ref e_InvalidText) = some false
  x_NoFile_NoFile : PySem.W.subIn K (.ref e_NoFile) (.ref e_NoFile) = some true
  q_QueueError : BaseC K e_QueueError
  k_Disk : Cls K e_Disk
  f_Disk_files : NoAttr K e_Disk "files"
  f_Disk_marks : NoAttr K e_Disk "marks"
  f_Disk_calls : NoAttr K e_Disk "calls"
  f_Disk_left : NoAttr K e_Disk "left"
  n_int : mg "int" = none
  n_abs : mg "abs" = none
  n_len : mg "len" = none
  n_sum : mg "sum" = none
  n_range : mg "range" = none
  n_dict : mg "dict" = none
  n_sorted : mg "sorted" = none
  n_list : mg "list" = none
  n_isinstance : mg "isinstance" = none
  n_str : mg "str" = none
  n_repr : mg "repr" = none
  n_all : mg "all" = none
  n_max : mg "max" = none
  n_min : mg "min" = none
  c_MOST_NAME : ∃ u, mg "MOST_NAME" = some u ∧ RelV (.int (12)) u
  c_NAME_SIGNS : ∃ u, mg "NAME_SIGNS" = some u ∧ RelV (.str "abcdefghijklmnopqrstuvwxyz0123456789-") u
theorem bt_int : bootBuiltins "int" = some (.type "int") := by decide +kernel
theorem bt_abs : bootBuiltins "abs" = some (.builtin "abs") := by decide +kernel
theorem bt_len : bootBuiltins "len" = some (.builtin "len") := by decide +kernel
theorem bt_sum : bootBuiltins "sum" = some (.builtin "sum") := by decide +kernel
theorem bt_dict : bootBuiltins "dict" = some (.type "dict") := by decide +kernel
theorem bt_sorted : bootBuiltins "sorted" = some (.builtin "sorted") := by decide +kernel
theorem bt_list : bootBuiltins "list" = some (.type "list") := by decide +kernel
theorem bt_isinstance : bootBuiltins "isinstance" = some (.builtin "isinstance") := by decide +kernel
theorem bt_str : bootBuiltins "str" = some (.type "str") := by decide +kernel
theorem bt_repr : bootBuiltins "repr" = some (.builtin "repr") := by decide +kernel
theorem bt_all : bootBuiltins "all" = some (.builtin "all") := by decide +kernel
theorem bt_max : bootBuiltins "max" = some (.builtin "max") := by decide +kernel
theorem bt_min : bootBuiltins "min" = some (.builtin "min") := by decide +kernel

abbrev si_InvalidName : Stmt := (clsB (top 4)).getD 0 (.Pass ⟨0, 0, 0, 0⟩)
theorem sci_InvalidName : FnScope ["self", "given"] ["self", "given"] (defScope si_InvalidName) := ⟨rfl, rfl, rfl, by decide +kernel, rfl, by decide +kernel, by decide +kernel⟩
theorem oki_InvalidName {P : Program} {w : World} {K : PySem.W.Frag} {mg : Str → Option Value} {base : Heap} {e_InvalidName e_InvalidText e_NoFile e_QueueError e_Disk fI : Addr} {fd : FuncData} (T : Txt K mg e_InvalidName e_InvalidText e_NoFile e_QueueError e_Disk) (F : Fun K "__init__" "InvalidName.__init__" si_InvalidName fI fd) (EC : ErrC K e_InvalidName e_QueueError) : FnOk P w K mg base CX0 1 fI fd ["self", "given"] (spIni e_InvalidName "given") := by
  obtain ⟨mc, q1, q2, q3⟩ := T.q_QueueError.ex
  refine ini2 F sci_InvalidName fun cdv A outer s H u v Q E hr h => ⟨_, (pss_cons (ps_expr (pe_binit T.g_QueueError q1 q2 q3 (pa_cons (pz 0) (pa_cons pe_str pa_nil)))) (pss_one (ps_err (pz 0) (pz 1)))), ?_⟩
  obtain ⟨a, rfl, ha, q⟩ := h
  refine ⟨a, _, _, _, rfl, by show 1 ≤ 1000; decide, EC, ha, ?_⟩
  exact ⟨a, _, _, rfl, EC, T.n_InvalidName, ha, fun dx nd ne => q dx nd ne⟩

abbrev si_InvalidText : Stmt := (clsB (top 5)).getD 0 (.Pass ⟨0, 0, 0, 0⟩)
theorem sci_InvalidText : FnScope ["self", "given"] ["self", "given"] (defScope si_InvalidText) := ⟨rfl, rfl, rfl, by decide +kernel, rfl, by decide +kernel, by decide +kernel⟩
theorem oki_InvalidText {P : Program} {w : World} {K : PySem.W.Frag} {mg : Str → Option Value} {base : Heap} {e_InvalidName e_InvalidText e_NoFile e_QueueError e_Disk fI : Addr} {fd : FuncData} (T : Txt K mg e_InvalidName e_InvalidText e_NoFile e_QueueError e_Disk) (F : Fun K "__init__" "InvalidText.__init__" si_InvalidText fI fd) (EC : ErrC K e_InvalidText e_QueueError) : FnOk P w K mg base CX0 1 fI fd ["self", "given"] (spIni e_InvalidText "given") := by
  obtain ⟨mc, q1, q2, q3⟩ := T.q_QueueError.ex
  refine ini2 F sci_InvalidText fun cdv A outer s H u v Q E hr h => ⟨_, (pss_cons (ps_expr (pe_binit T.g_QueueError q1 q2 q3 (pa_cons (pz 0) (pa_cons pe_str pa_nil)))) (pss_one (ps_err (pz 0) (pz 1)))), ?_⟩
  obtain ⟨a, rfl, ha, q⟩ := h
  refine ⟨a, _, _, _, rfl, by show 1 ≤ 1000; decide, EC, ha, ?_⟩
  exact ⟨a, _, _, rfl, EC, T.n_InvalidText, ha, fun dx nd ne => q dx nd ne⟩

abbrev si_NoFile : Stmt := (clsB (top 7)).getD 0 (.Pass ⟨0, 0, 0, 0⟩)
theorem sci_NoFile : FnScope ["self", "name"] ["self", "name"] (defScope si_NoFile) := ⟨rfl, rfl, rfl, by decide +kernel, rfl, by decide +kernel, by decide +kernel⟩
theorem oki_NoFile {P : Program} {w : World} {K : PySem.W.Frag} {mg : Str → Option Value} {base : Heap} {e_InvalidName e_InvalidText e_NoFile e_QueueError e_Disk fI : Addr} {fd : FuncData} (T : Txt K mg e_InvalidName e_InvalidText e_NoFile e_QueueError e_Disk) (F : Fun K "__init__" "NoFile.__init__" si_NoFile fI fd) (EC : ErrC K e_NoFile e_QueueError) : FnOk P w K mg base CX0 1 fI fd ["self", "name"] (spIni e_NoFile "name") := by
  obtain ⟨mc, q1, q2, q3⟩ := T.q_QueueError.ex
  refine ini2 F sci_NoFile fun cdv A outer s H u v Q E hr h => ⟨_, (pss_cons (ps_expr (pe_binit T.g_QueueError q1 q2 q3 (pa_cons (pz 0) (pa_cons pe_str pa_nil)))) (pss_one (ps_err (pz 0) (pz 1)))), ?_⟩
  obtain ⟨a, rfl, ha, q⟩ := h
  refine ⟨a, _, _, _, rfl, by show 1 ≤ 1000; decide, EC, ha, ?_⟩
  exact ⟨a, _, _, rfl, EC, T.n_NoFile, ha, fun dx nd ne => q dx nd ne⟩


local macro_rules | `(tactic| walk_at "hp") => `(tactic| first | assumption | (refine Nw.keep (by assumption) ?_; walk_at "hp") | (refine But.at (by assumption) (by assumption) ?_; walk_at "hp") | (refine Wr.keep (by assumption) (by assumption) ?_; walk_at "hp"))
/-! ### promises -/
/-- a box of digits and draws, with at most n draws so far -/
def BoxAt (n : Nat) (H : Hp) (b : Addr) : Prop := ∃ (g : Int) (f : Bool) (s c : Int), H b = some (.lst [.int g, .bl f, .int s, .int c]) ∧ 0 ≤ g ∧ 0 ≤ s ∧ s < 2147483648 ∧ 0 ≤ c ∧ c ≤ n
theorem BoxAt.mono {n m : Nat} {H : Hp} {b : Addr} (h : BoxAt n H b) (e : n ≤ m) : BoxAt m H b := by
  obtain ⟨g, f, s, c, h1, h2, h3, h4, h5, h6⟩ := h
  exact ⟨g, f, s, c, h1, h2, h3, h4, h5, by omega⟩
theorem BoxAt.same {n : Nat} {H H2 : Hp} {b : Addr} (h : BoxAt n H b) (e : Same H H2) : BoxAt n H2 b := by
  obtain ⟨g, f, s, c, h1, h2⟩ := h
  exact ⟨g, f, s, c, e _ _ h1, h2⟩
theorem BoxAt.some {n : Nat} {H : Hp} {b : Addr} (h : BoxAt n H b) : ∃ o, H b = Option.some o := by
  obtain ⟨g, f, s, c, h1, h2⟩ := h
  exact ⟨_, h1⟩
theorem BoxAt.ne {n : Nat} {H : Hp} {b p : Addr} (h : BoxAt n H b) (e : H p = none) : b ≠ p := by
  obtain ⟨o, h⟩ := h.some
  exact ne_of_none h e
theorem BoxAt.wr {n : Nat} {H H2 : Hp} {b l : Addr} {o : HO} (h : BoxAt n H b) (e : b ≠ l) (w : Wr H l o H2) : BoxAt n H2 b := by
  obtain ⟨g, f, s, c, h1, h2⟩ := h
  exact ⟨g, f, s, c, w.keep e h1, h2⟩
theorem BoxAt.but {n : Nat} {H H2 : Hp} {b l : Addr} (h : BoxAt n H b) (e : b ≠ l) (w : But l H H2) : BoxAt n H2 b := by
  obtain ⟨g, f, s, c, h1, h2⟩ := h
  exact ⟨g, f, s, c, w.at e h1, h2⟩
def TX (n : Nat) (l : List Nat) : Prop := Pr l ∧ l.length ≤ n
def sp__law_box (K : PySem.W.Frag) : Sp := sp1 fun great H Q _ => ∃ g, great = .int g ∧ ∀ b H2, H b = none → Same H H2 → BoxAt 0 H2 b → Q (.ref b) H2
def sp__law_cell (K : PySem.W.Frag) : Sp := sp2 fun script k H Q _ => ∃ (a : Addr) (i : Int) (ns : List Int), script = .ref a ∧ k = .int i ∧ 0 ≤ i ∧ i < 1000 ∧ SqL K H a (ns.map V.int) ∧ ns.length ≤ 63 ∧ ∀ z H2, Same H H2 → Q (.int z) H2
def sp__law_take (K : PySem.W.Frag) : Sp := sp2 fun box many H Q _ => ∃ (b : Addr) (m : Int) (n : Nat), box = .ref b ∧ many = .int m ∧ 0 < m ∧ m < 1000000 ∧ BoxAt n H b ∧ n < 1000000 ∧ ∀ r H2, But b H H2 → BoxAt (n + 1) H2 b → 0 ≤ r → r < m → Q (.int r) H2
theorem lit_nil : ("" : Str) = S [] := by decide +kernel
theorem joinSz (ls : List (List Nat)) (h : ls.flatten.length ≤ 10000000) : ((ls.map S).map (·.length)).sum + (ls.map S).length * ("" : Str).length ≤ 16777216 := by
  rw [lit_nil, length_S, lens, ← List.length_flatten]
  show _ + _ * 0 ≤ _
  omega
theorem nself (x : V) : (true ^^ decide (x = x)) = false := by rw [decide_eq_true rfl]; rfl
theorem eself (x : V) : (false ^^ decide (x = x)) = true := by rw [decide_eq_true rfl]; rfl
theorem menuS (ts : List Str) {n : Nat} (ok : (ts.all fun t => (t.cps.toList.all fun c => decide (32 ≤ c) && decide (c ≤ 126)) && decide (t.cps.toList.length ≤ n)) = true) {r : Int} (h0 : 0 ≤ r) (h : r < (ts.length : Int)) :
    ∃ l, atI (ts.map V.str) r = some (.str (S l)) ∧ TX n l := by
  obtain ⟨v, h1, h2, _⟩ := atI_some (xs := ts.map V.str) h0 (by rw [List.length_map]; exact h)
  obtain ⟨t, ht, rfl⟩ := List.mem_map.mp h2
  have q := (List.all_eq_true.mp ok) t ht
  rw [Bool.and_eq_true] at q
  refine ⟨t.cps.toList, ?_, pr_of q.1, of_decide_eq_true q.2⟩
  rw [S_tl]
  exact h1
/-- the signs of the alphabets -/
theorem near_item {t : Str} (h : (t.cps.toList.all fun c => decide (32 ≤ c) && decide (c ≤ 126)) = true) {r : Int} (h0 : 0 ≤ r) (h1 : r < (t.length : Int)) : ∃ c : Nat, atI t.cps.toList r = some c ∧ 32 ≤ c ∧ c ≤ 126 := by
  obtain ⟨c, e1, e2, _⟩ := atI_some (xs := t.cps.toList) h0 (by simpa [Str.length] using h1)
  have := (List.all_eq_true.mp h) c e2
  exact ⟨c, e1, by simpa using this⟩
theorem log_small {n : Nat} (h : n < 10000000) : ((n : Nat) : Int).natAbs.log2 < 1920 := by
  rw [Int.natAbs_natCast]
  rcases Nat.eq_zero_or_pos n with e | e
  · subst e; decide
  · have q : 2 ^ n.log2 ≤ n := Nat.log2_self_le (by omega)
    have h2 : n < 2 ^ 24 := by omega
    have : n.log2 < 24 := (Nat.pow_lt_pow_iff_right (by decide : 1 < 2)).mp (Nat.lt_of_le_of_lt q h2)
    omega
def BadN (H : Hp) (nm : V) : Prop := ∃ d, Vd H nm d ∧ nmOk d = true ∧ nmD d = false
def BadT (H : Hp) (tx : V) : Prop := ∃ d, Vd H tx d ∧ txOk d = true ∧ txD d = false
theorem nT {p : Prop} [Decidable p] (h : (!decide p) = true) : ¬ p := by simpa using h
theorem nF {p : Prop} [Decidable p] (h : ¬ (!decide p) = true) : p := by simpa using h
theorem txt_ok {d : PyData} (h : txOk d = true) : txt d = true := by
  cases d with
  | str x =>
    have h : (asciiS x && decide (x.length ≤ 30) && _) = true := h
    rw [Bool.and_eq_true, Bool.and_eq_true] at h
    show (asciiS x && decide (x.length ≤ 1000000)) = true
    rw [h.1.1, decide_eq_true (p := x.length ≤ 1000000) (by have := of_decide_eq_true h.1.2; omega)]
    rfl
  | _ => rfl
theorem str0 {x : Str} (h : x.length = 0) : x = "" := str_ext (by rw [show x.cps.toList = [] from List.eq_nil_of_length_eq_zero (by rw [len_cps]; exact h)]; decide)
theorem tx_cases {d : PyData} (h : txOk d = true) (b : txD d = false) : signsD d = false ∨ (signsD d = true ∧ d = .str "") := by
  cases d with
  | str x =>
    have h : (asciiS x && decide (x.length ≤ 30) && (mkS x == (prS x && decide (x.length ≠ 0)))) = true := h
    have b : mkS x = false := b
    rw [Bool.and_eq_true, b] at h
    have h2 := eq_of_beq h.2
    cases p : prS x with
    | false => exact .inl p
    | true =>
      rw [p, Bool.true_and] at h2
      have h3 : ¬ x.length ≠ 0 := of_decide_eq_false h2.symm
      have e := str0 (x := x) (by omega)
      exact .inr ⟨p, by rw [e]⟩
  | _ => exact .inl rfl
theorem tx_right {x : Str} (h : txOk (.str x) = true) (b : mkS x = true) : signsD (.str x) = true ∧ (false ^^ decide (V.str x = V.str "")) = false := by
  have h : (asciiS x && decide (x.length ≤ 30) && (mkS x == (prS x && decide (x.length ≠ 0)))) = true := h
  rw [Bool.and_eq_true, b] at h
  have h2 := eq_of_beq h.2
  rw [eq_comm, Bool.and_eq_true] at h2
  refine ⟨h2.1, ?_⟩
  rw [Bool.false_xor]
  refine decide_eq_false fun z => ?_
  cases z
  exact of_decide_eq_true h2.2 (by decide)
theorem vd_str {H : Hp} (x : Str) : Vd H (.str x) (.str x) := ⟨true, .str _⟩
theorem nm_ok2 {n : Str} (h : nmS n = true) : nmOk (.str n) = true := by
  obtain ⟨h1, h2, h3⟩ := nm_of h
  rw [S_cps n]
  exact nm_ok (fun c hc => by have := alf_pr c (h3 c hc); omega) (by rw [len_cps]; omega)
theorem BadN.same {H H2 : Hp} {x : V} (h : BadN H x) (s : Same H H2) : BadN H2 x := by
  obtain ⟨d, a, b⟩ := h
  exact ⟨d, a.same s, b⟩
theorem BadT.same {H H2 : Hp} {x : V} (h : BadT H x) (s : Same H H2) : BadT H2 x := by
  obtain ⟨d, a, b⟩ := h
  exact ⟨d, a.same s, b⟩
def empty : Ds := ⟨[], fun _ => "", fun _ => 0⟩
def sp_is_file_name (K : PySem.W.Frag) : Sp := sp1 fun v H Q _ => ∃ d, Vd H v d ∧ nmOk d = true ∧ ∀ H2, Same H H2 → Q (.bl (nmD d)) H2
def sp_is_signs (K : PySem.W.Frag) : Sp := sp1 fun v H Q _ => ∃ d, Vd H v d ∧ txt d = true ∧ Q (.bl (signsD d)) H
/-- a name judged: none, of no file, of a file -/
def NmJ (K : PySem.W.Frag) (D : Ds) (nm : V) (H : Hp) (E : XK) (G : Str → Prop) : Prop := (BadN H nm ∧ Rz K "InvalidName" "given" nm H E) ∨ (∃ n, nm = .str n ∧ nmS n = true ∧ n ∉ D.names ∧ Rz K "NoFile" "name" nm H E) ∨ ∃ n, nm = .str n ∧ nmS n = true ∧ n ∈ D.names ∧ G n
def sp_Disk_use_power (K : PySem.W.Frag) : Sp := sp1 fun self H Q _ => ∃ a f m D c, self = .ref a ∧ DiskAt K H a f m D c .non ∧ ∀ H2, Kp [a] H H2 → DiskAt K H2 a f m D (c + 1) .non → Q .non H2
def sp_Disk_write (K : PySem.W.Frag) : Sp := sp3 fun self nm tx H Q E => ∃ a f m D c k, self = .ref a ∧ DiskAt K H a f m D c .non ∧ Dok k D ∧ k ≤ 1000 ∧
  ((BadN H nm ∧ Rz K "InvalidName" "given" nm H E) ∨ (∃ n, nm = .str n ∧ nmS n = true ∧ BadT H tx ∧ Rz K "InvalidText" "given" tx H E) ∨
   ∃ n t, nm = .str n ∧ tx = .str t ∧ nmS n = true ∧ mkS t = true ∧ txOk (.str t) = true ∧ ∀ H2, Kp [a, f, m] H H2 → DiskAt K H2 a f m (D.put n (D.tx n ++ t) (D.mt n)) (c + 1) .non → Q .non H2)
def sp_Disk_check_file (K : PySem.W.Frag) : Sp := sp2 fun self nm H Q E => ∃ a f m D c lf, self = .ref a ∧ DiskAt K H a f m D c lf ∧ NmJ K D nm H E fun _ => ∀ H2, Same H H2 → Q .non H2
def sp_Disk_sync (K : PySem.W.Frag) : Sp := sp2 fun self nm H Q E => ∃ a f m D c k, self = .ref a ∧ DiskAt K H a f m D c .non ∧ Dok k D ∧ k ≤ 1000 ∧
  NmJ K D nm H E fun n => ∀ H2, Kp [a, f, m] H H2 → DiskAt K H2 a f m (D.put n (D.txt n) (D.txt n).length) (c + 1) .non → Q .non H2
def sp_Disk_drop (K : PySem.W.Frag) : Sp := sp2 fun self nm H Q E => ∃ a f m D c, self = .ref a ∧ DiskAt K H a f m D c .non ∧
  NmJ K D nm H E fun n => ∀ H2, Kp [a, f, m] H H2 → DiskAt K H2 a f m (D.drop n) (c + 1) .non → Q .non H2
def sp_Disk_read (K : PySem.W.Frag) : Sp := sp2 fun self nm H Q E => ∃ a f m D c lf, self = .ref a ∧ DiskAt K H a f m D c lf ∧ NmJ K D nm H E fun n => ∀ H2, Same H H2 → Q (.str (D.txt n)) H2
def sp_Disk_synced (K : PySem.W.Frag) : Sp := sp2 fun self nm H Q E => ∃ a f m D c lf, self = .ref a ∧ DiskAt K H a f m D c lf ∧ NmJ K D nm H E fun n => ∀ H2, Same H H2 → Q (.int (D.sy n : Nat)) H2
def sp_Disk_names (K : PySem.W.Frag) : Sp := sp1 fun self H Q _ => ∃ a f m D c lf, self = .ref a ∧ DiskAt K H a f m D c lf ∧ D.names.length < 64 ∧ ∀ (ys : List Str) p H2, ys.Perm D.names → sortedS ys = true → Same H H2 → H p = none → H2 p = some (.lst (ys.map V.str)) → Q (.ref p) H2
def sp_Disk_ops (K : PySem.W.Frag) : Sp := sp1 fun self H Q _ => ∃ a f m D c lf, self = .ref a ∧ DiskAt K H a f m D c lf ∧ Q (.int c) H
def sp_Disk___init__ (K : PySem.W.Frag) : Sp := sp1 fun self H Q _ => ∃ a C dx, self = .ref a ∧ clsAt K "Disk" C ∧ H a = some (.ins C dx []) ∧ ∀ f m H2, H f = none → H m = none → Kp [a] H H2 → DiskAt K H2 a f m empty 0 .non → Q .non H2
theorem marks {i : Int} (h0 : 0 ≤ i) (h1 : i < 2) : ∃ c : Nat, atI ("\n\t" : Str).cps.toList i = some c ∧ (c = 9 ∨ c = 10) := by
  have e : ("\n\t" : Str).cps.toList = [10, 9] := by decide +kernel
  rw [e]
  obtain ⟨c, h, hm, _⟩ := atI_some (xs := [10, 9]) h0 (by exact h1)
  refine ⟨c, h, ?_⟩
  simp only [List.mem_cons, List.not_mem_nil, or_false] at hm
  omega
theorem asc_sign {p q : List Nat} {c : Nat} (hp : Pr p) (hq : Pr q) (hc : c = 9 ∨ c = 10) : ∀ x ∈ p ++ [c] ++ q, x < 128 := fun x hx => by
  rw [List.append_assoc, List.mem_append, List.mem_append, List.mem_singleton] at hx
  rcases hx with hx | rfl | hx
  · exact lt_pr hp x hx
  · omega
  · exact lt_pr hq x hx
theorem odd_asc {l : List Nat} (h : ∀ c ∈ l, c < 128) (hl : l.length ≤ 100) : oddOk (.str (S l)) = true := by
  have e : (PyData.str (S l)).shown = reprText (S l) := by simp only [PyData.shown]
  have r := PySem.StrLaws.reprText_len (S l) (fun c hc => by
    rw [cps_S] at hc
    have := h c hc
    omega)
  have ls := length_S l
  have h1 : asc1 (.str (S l)) = true := by
    show (asciiS (S l) && decide ((S l).length ≤ 100000)) = true
    rw [asc_of h, length_S, decide_eq_true (by omega)]
    rfl
  unfold oddOk
  rw [e, h1]
  show (true && true && decide (0 ≤ 3) && decide ((reprText (S l)).length ≤ 2000) && true) = true
  rw [decide_eq_true (p := (reprText (S l)).length ≤ 2000) (by omega)]
  rfl
/-- data that is made by this call: nothing of it stood before -/
def OddV (H H2 : Hp) (v : V) (d : PyData) : Prop := Dz true H2 v d ∧ oddOk d = true ∧ (∀ p, v = .ref p → H p = none) ∧ ∀ ds, d = .list ds → ds.length ≤ 2 ∧ ∀ x ∈ ds, atomD x = true ∧ oddOk x = true
theorem OddV.flat {H H2 : Hp} {v : V} {d : PyData} (h : Dz true H2 v d) (o : oddOk d = true) (a : atomD d = true) : OddV H H2 v d := by
  refine ⟨h, o, fun p e => ?_, fun ds e => ?_⟩
  · subst e
    cases h <;> cases a
  · subst e
    cases a
theorem OddV.s {H H2 : Hp} {l : List Nat} (h : ∀ c ∈ l, c < 128) (n : l.length ≤ 100) : OddV H H2 (.str (S l)) (.str (S l)) := .flat (.str _) (odd_asc h n) rfl
def poolS : List Str := ["ab", "a", "abc", "a-", "a0", "10", "9", "-", "log-0010", "log-0002", "zzzzzzzzzzzz", "b"]
theorem pool_at {r : Int} (h0 : 0 ≤ r) (h : r < 12) : ∃ n, atI (poolS.map V.str) r = some (.str n) ∧ nmS n = true := by
  obtain ⟨v, h1, h2, _⟩ := atI_some (xs := poolS.map V.str) h0 (by show _ < 12; exact h)
  obtain ⟨n, hn, rfl⟩ := List.mem_map.mp h2
  exact ⟨n, h1, List.all_eq_true.mp (show (poolS.all nmS) = true by decide +kernel) n hn⟩
def sp__law_signs (K : PySem.W.Frag) : Sp := fun vs H Q _ => vs = [] ∧ Q (.str "abcdefghijklmnopqrstuvwxyz0123456789-") H
def sp__law_marks (K : PySem.W.Frag) : Sp := fun vs H Q _ => vs = [] ∧ Q (.str (S mrk)) H
def sp__law_pool (K : PySem.W.Frag) : Sp := fun vs H Q _ => vs = [] ∧ ∀ p H2, Nw H p (.lst (poolS.map V.str)) H2 → Q (.ref p) H2
def sp__law_word (K : PySem.W.Frag) : Sp := sp3 fun box sg most H Q _ => ∃ (b : Addr) (n : Nat) (z : Str) (m : Nat), box = .ref b ∧ sg = .str z ∧ most = .int (m : Nat) ∧ BoxAt n H b ∧ n < 800000 ∧ 1 ≤ z.length ∧ z.length ≤ 200 ∧ 1 ≤ m ∧ m ≤ 24 ∧
  ∀ l H2, But b H H2 → BoxAt (n + 30) H2 b → 1 ≤ l.length → l.length ≤ m → (∀ c ∈ l, c ∈ z.cps.toList) → Q (.str (S l)) H2
def sp__law_any_text (K : PySem.W.Frag) : Sp := sp1 fun box H Q _ => ∃ (b : Addr) (n : Nat), box = .ref b ∧ BoxAt n H b ∧ n < 700000 ∧ ∀ v d H2, But b H H2 → BoxAt (n + 40) H2 b → OddV H H2 v d → txOk d = true → Q v H2
def sp__law_any_name (K : PySem.W.Frag) : Sp := sp2 fun box fl H Q _ => ∃ (b : Addr) (n : Nat) (L : Addr) (D : Ds), box = .ref b ∧ fl = .ref L ∧ BoxAt n H b ∧ n < 700000 ∧ LawAt H L D ∧ D.names.length < 64 ∧ (∀ j ∈ D.names, nmS j = true) ∧
  ∀ v d H2, But b H H2 → BoxAt (n + 40) H2 b → OddV H H2 v d → nmOk d = true → Q v H2
def sp__law_is_name (K : PySem.W.Frag) : Sp := sp1 fun v H Q _ => ∃ d, Vd H v d ∧ nmOk d = true ∧ ∀ H2, Same H H2 → Q (.bl (nmD d)) H2
def sp__law_is_text (K : PySem.W.Frag) : Sp := sp1 fun v H Q _ => ∃ d, Vd H v d ∧ txOk d = true ∧ ∀ H2, Same H H2 → Q (.bl (txD d)) H2
theorem vInt {i j : Int} (h : (false ^^ decide (V.int i = V.int j)) = true) : i = j := by
  rw [Bool.false_xor] at h
  exact V.int.inj (of_decide_eq_true h)
theorem vIntN {i j : Int} (h : ¬ (false ^^ decide (V.int i = V.int j)) = true) : i ≠ j := fun z => h (by rw [z, decide_eq_true rfl]; rfl)
theorem mem_asc {l : List Nat} (h : ∀ c ∈ l, c ∈ mrk) : ∀ c ∈ l, c < 128 := fun c hc => by have := mrk_pr c (h c hc); omega
/-- a sign put into a text -/
theorem put_len {l : List Nat} {j c : Nat} : (l.take j ++ [c] ++ l.drop j).length = l.length + 1 := by
  rw [List.length_append, List.length_append, List.length_take, List.length_drop, List.length_singleton]
  omega
theorem put_asc {l : List Nat} {j c : Nat} (h : ∀ c ∈ l, c < 128) (hc : c < 128) : ∀ x ∈ l.take j ++ [c] ++ l.drop j, x < 128 := fun x hx => by
  rw [List.append_assoc, List.mem_append, List.mem_append, List.mem_singleton] at hx
  rcases hx with hx | rfl | hx
  · exact h x (List.mem_of_mem_take hx)
  · exact hc
  · exact h x (List.mem_of_mem_drop hx)
theorem put_in {l : List Nat} {j c : Nat} : c ∈ l.take j ++ [c] ++ l.drop j := by simp
theorem odd_marks {i : Int} (h0 : 0 ≤ i) (h1 : i < 9) : ∃ c : Nat, atI ("A_ .\n/~:\t" : Str).cps.toList i = some c ∧ c < 128 := by
  have e : ("A_ .\n/~:\t" : Str).cps.toList = [65, 95, 32, 46, 10, 47, 126, 58, 9] := by decide +kernel
  rw [e]
  obtain ⟨c, h, hm, _⟩ := atI_some (xs := [65, 95, 32, 46, 10, 47, 126, 58, 9]) h0 (by exact h1)
  refine ⟨c, h, ?_⟩
  simp only [List.mem_cons, List.not_mem_nil, or_false] at hm
  omega
theorem nm_asc {n : Str} (h : nmS n = true) : ∀ c ∈ n.cps.toList, c < 128 := fun c hc => by have := alf_pr c ((nm_of h).2.2 c hc); omega
theorem OddV.nm {H H2 : Hp} {n : Str} (h : nmS n = true) : OddV H H2 (.str n) (.str n) := by
  have := OddV.s (H := H) (H2 := H2) (l := n.cps.toList) (nm_asc h) (by rw [len_cps]; have := nm_of h; omega)
  rw [← S_cps] at this
  exact this
theorem ne_names {K : PySem.W.Frag} {H : Hp} {p q : Addr} {ns : List Str} (h : ∀ n ∈ ns, nmS n = true) (hp : SqL K H p (ns.map V.str)) (hq : SqL K H q []) :
    ∃ d e, Dp K H (.ref p) d ∧ Dp K H (.ref q) e ∧ SeqAt.shaped d = true ∧ SeqAt.shaped e = true ∧ PyData.eqv d e = ns.isEmpty := by
  rw [namesV] at hp
  refine ⟨_, _, dp_strs hp, dp_strs (ls := []) hq, shaped_strs (names_pr h), shaped_strs (ls := []) (fun _ z => by cases z), ?_⟩
  unfold strsD
  rw [show ([] : List (List Nat)).map (fun l => PyData.str (S l)) = [] from rfl, eqv_nil]
  cases ns <;> rfl
theorem zTr_bl {K : PySem.W.Frag} {b : Bool} {H : Hp} {Q : Bool → Hp → Prop} (h : Q b H) : zTr K (.bl b) H Q := h
theorem zB_bl {b : Bool} {H : Hp} {Q : Bool → Hp → Prop} (h : Q b H) : zB (.bl b) H Q := h
local macro_rules | `(tactic| walk_at "past") => `(tactic| (refine zTr_bl ?_; dsimp only; rw [if_neg (show ¬ (!true) = true by decide)]))
theorem in2 {i a b : Int} : inV (.int i) [.int a, .int b] = (a == i || (b == i || false)) := rfl
theorem in2Y {i a b : Int} (h : i = a ∨ i = b) : (false ^^ inV (.int i) [.int a, .int b]) = true := by
  rw [in2, Bool.false_xor]
  rcases h with rfl | rfl <;> simp
theorem in2N {i a b : Int} (h : i ≠ a) (k : i ≠ b) : (false ^^ inV (.int i) [.int a, .int b]) = false := by
  rw [in2, Bool.false_xor]
  simp [Ne.symm h, Ne.symm k]
theorem lawPut {H : Hp} {L pn : Addr} {D : Ds} {n t : Str} {m : Nat} {kvs : List (Key × V)} {adr : Str → Addr} (tb : Tb kvs D.names (fun j => .ref (adr j))) (hp : ∀ j ∈ D.names, H (adr j) = some (.lst [.str (D.txt j), .int (D.sy j : Nat)]))
    (hL : H L = some (.dK (putK kvs (Sum.inr n) (.ref pn)))) (hn : H pn = some (.lst [.str t, .int (m : Nat)])) : LawAt H L (D.put n t m) := by
  refine ⟨_, fun j => if j = n then pn else adr j, hL, (tb.put n (.ref pn)).ext fun j => by by_cases z : j = n <;> simp [z], fun j hj => ?_⟩
  show H (if j = n then pn else adr j) = some (.lst [.str (if j = n then t else D.txt j), .int ((if j = n then m else D.sy j : Nat) : Int)])
  by_cases z : j = n
  · rw [if_pos z, if_pos z, if_pos z]
    exact hn
  · rw [if_neg z, if_neg z, if_neg z]
    refine hp j ?_
    have hj : j ∈ (if n ∈ D.names then D.names else D.names ++ [n]) := hj
    split at hj
    · exact hj
    · exact (List.mem_append.mp hj).elim id fun w => (z (List.mem_singleton.mp w)).elim
theorem lawDrop {H : Hp} {L : Addr} {D : Ds} {n : Str} {kvs : List (Key × V)} {adr : Str → Addr} (tb : Tb kvs D.names (fun j => .ref (adr j))) (hp : ∀ j ∈ D.names, H (adr j) = some (.lst [.str (D.txt j), .int (D.sy j : Nat)]))
    (hL : H L = some (.dK (dropK kvs (Sum.inr n)))) : LawAt H L (D.drop n) := ⟨_, adr, hL, tb.drop n, fun j hj => hp j (List.mem_filter.mp hj).1⟩
/-- a call judged ahead of it -/
def CJ (D : Ds) (i : Int) (nm tx : V) (H : Hp) (R : Str → V → Prop) (G : Str → Str → Prop) : Prop := (BadN H nm ∧ R "name" nm) ∨ (i < 2 ∧ ∃ n, nm = .str n ∧ nmS n = true ∧ BadT H tx ∧ R "text" tx) ∨ (2 ≤ i ∧ ∃ n, nm = .str n ∧ nmS n = true ∧ n ∉ D.names ∧ R "none" nm) ∨
  ∃ n t, nm = .str n ∧ nmS n = true ∧ (i < 2 → tx = .str t ∧ mkS t = true ∧ txOk (.str t) = true) ∧ (2 ≤ i → n ∈ D.names) ∧ G n t
/-- a pair that tells of a refused call, of a done one -/
def Rp (H : Hp) (Q : VK) (w : Str) (x : V) : Prop := ∀ p H2, Same H H2 → H p = none → p ≠ sysModules → H2 p = some (.lst [.str w, x]) → Q (.ref p) H2
def sp__law_due (K : PySem.W.Frag) : Sp := sp5 fun fl cn way nm tx H Q _ => ∃ L cc D c i k, fl = .ref L ∧ cn = .ref cc ∧ way = .int i ∧ 0 ≤ i ∧ i ≤ 9 ∧ LawAt H L D ∧ H cc = some (.lst [.int c]) ∧ Dok k D ∧ k ≤ 1000 ∧
  CJ D i nm tx H (Rp H Q) fun n t => ∀ p H2, Kp [L, cc] H H2 → H p = none → p ≠ sysModules → LawAt H2 L (act i D n t) → H2 cc = some (.lst [.int (c + one i)]) → H2 p = some (.lst [.str "told", tell i D n]) → Q (.ref p) H2
def sp__law_told (K : PySem.W.Frag) : Sp := sp4 fun dk way nm tx H Q _ => ∃ a f m D c i k, dk = .ref a ∧ way = .int i ∧ 0 ≤ i ∧ i ≤ 9 ∧ DiskAt K H a f m D c .non ∧ Dok k D ∧ k ≤ 1000 ∧
  CJ D i nm tx H (Rp H Q) fun n t => ∀ p H2, Kp [a, f, m] H H2 → H p = none → p ≠ sysModules → DiskAt K H2 a f m (act i D n t) (c + one i) .non → H2 p = some (.lst [.str "told", tell i D n]) → Q (.ref p) H2
def sp__law_same (K : PySem.W.Frag) : Sp := sp2 fun told due H Q _ => ∃ pt pd w v d, told = .ref pt ∧ due = .ref pd ∧ H pt = some (.lst [.str w, v]) ∧ H pd = some (.lst [.str w, v]) ∧ pt ≠ sysModules ∧ pd ≠ sysModules ∧ w ∈ (["told", "name", "text", "none"] : List Str) ∧ Dz true H v d ∧ Sw 3 100000 d ∧
  ((w = "told" ∧ Q (.bl true) H) ∨ (w ≠ "told" ∧ isK (kindD d) "list" = false ∧ Q (.bl true) H) ∨
   (w ≠ "told" ∧ ∃ b ds, v = .ref b ∧ d = .list ds ∧ (∀ x ∈ ds, atomD x = true) ∧ (∀ x ∈ ds, Sw 3 2000 x) ∧ ds.length ≤ 2 ∧ b ≠ pt ∧ b ≠ pd ∧ ∀ H2, But b H H2 → Q (.bl true) H2))
theorem sw_w {w : Str} (h : w ∈ (["told", "name", "text", "none"] : List Str)) : Sw 3 100000 (.str w) := by
  have all : ((["told", "name", "text", "none"] : List Str).all fun w => oddOk (.str w)) = true := by decide +kernel
  exact (sw_odd (List.all_eq_true.mp all w h)).mono (by decide) (by decide)
theorem sw2 {w : Str} {d : PyData} (hw : w ∈ (["told", "name", "text", "none"] : List Str)) (sw : Sw 3 100000 d) : (PyData.list [.str w, d]).showable = true ∧ (PyData.list [.str w, d]).depth ≤ 60 ∧ (PyData.list [.str w, d]).shown.length ≤ sizeLine := by
  have := Sw.list (k := 3) (B := 100000) (m := 2) (ds := [.str w, d]) (fun x hx => by
    simp only [List.mem_cons, List.not_mem_nil, or_false] at hx
    rcases hx with rfl | rfl
    · exact sw_w hw
    · exact sw) (by simp)
  exact ⟨this.sh, Nat.le_trans this.dp (by decide), sz (Nat.le_trans this.ln (by decide))⟩
theorem dz2 {H : Hp} {p : Addr} {w : Str} {v : V} {d : PyData} (h : H p = some (.lst [.str w, v])) (n : p ≠ sysModules) (hd : Dz true H v d) : Dz true H (.ref p) (.list [.str w, d]) := .lst h (fun _ => n) (.cons (.str _) (.cons hd .nil))
theorem ix0 {n : Nat} (h : 0 < n) : ixN n 0 = some 0 := by
  unfold ixN
  rw [if_pos (Int.le_refl 0), if_pos (by omega)]
  rfl
theorem isK_list : isK "list" "list" = true := by decide
def sp__law_alike (K : PySem.W.Frag) : Sp := sp3 fun dk fl cn H Q _ => ∃ a f m D c lf L cc k, dk = .ref a ∧ fl = .ref L ∧ cn = .ref cc ∧ DiskAt K H a f m D c lf ∧ LawAt H L D ∧ H cc = some (.lst [.int c]) ∧ Dok k D ∧ k ≤ 60 ∧ 0 ≤ c ∧ c ≤ 1000000 ∧ ∀ H2, Same H H2 → Q (.bl true) H2
theorem sw_str {x : Str} (h : x.length ≤ 2000) (hc : ∀ c ∈ x.cps.toList, c < 16 ^ 8) : Sw 0 30000 (.str x) := by
  have e : (PyData.str x).shown = reprText x := by simp only [PyData.shown]
  have r := PySem.StrLaws.reprText_len x hc
  exact ⟨rfl, Nat.le_refl _, by rw [e]; omega⟩
theorem sw_int {i : Int} (h0 : 0 ≤ i) (h1 : i ≤ 10000000) : Sw 0 30000 (.int i) := by
  have := sw_odd (odd_int (i := i) (by omega))
  exact ⟨this.sh, Nat.le_refl _, Nat.le_trans this.ln (by decide)⟩
/-- a list of two flat things, shown -/
theorem sw_two {x y : PyData} (hx : Sw 0 30000 x) (hy : Sw 0 30000 y) (ax : atomD x = true) (ay : atomD y = true) : ((PyData.list [x, y]).hasDict = true → false = true) ∧ (PyData.list [x, y]).showable = true ∧ (PyData.list [x, y]).depth ≤ 60 ∧ (PyData.list [x, y]).shown.length ≤ sizeLine := by
  have := Sw.list (k := 0) (B := 30000) (m := 2) (ds := [x, y]) (fun z hz => by
    simp only [List.mem_cons, List.not_mem_nil, or_false] at hz
    rcases hz with rfl | rfl
    · exact hx
    · exact hy) (by simp)
  refine ⟨fun z => ?_, this.sh, Nat.le_trans this.dp (by decide), sz (Nat.le_trans this.ln (by decide))⟩
  have e : (PyData.list [x, y]).hasDict = PyData.hasDictAll [x, y] := by simp only [PyData.hasDict]
  rw [e, atom_dict (fun d hd => by
    simp only [List.mem_cons, List.not_mem_nil, or_false] at hd
    rcases hd with rfl | rfl <;> assumption)] at z
  exact z
theorem dzTwo {H : Hp} {p : Addr} {x y : V} {d e : PyData} (h : H p = some (.lst [x, y])) (hx : Dz false H x d) (hy : Dz false H y e) : Dz false H (.ref p) (.list [d, e]) := .lst h (fun z => by cases z) (.cons hx (.cons hy .nil))
/-! ### two sides -/
structure Sd where
  a : Addr
  f : Addr
  m : Addr
  L : Addr
  cc : Addr
  D : Ds
  c : Int
def Sd.ads (x : Sd) : List Addr := [x.a, x.f, x.m, x.L, x.cc]
def SideAt (K : PySem.W.Frag) (H : Hp) (x : Sd) : Prop := DiskAt K H x.a x.f x.m x.D x.c .non ∧ LawAt H x.L x.D ∧ H x.cc = some (.lst [.int x.c]) ∧ x.L ≠ x.f ∧ x.L ≠ x.m
/-- what stands at a side's addresses -/
theorem SideAt.objs {K : PySem.W.Frag} {H : Hp} {x : Sd} (h : SideAt K H x) : ∀ b ∈ x.ads, (∃ C dx fs, H b = some (.ins C dx fs)) ∨ (∃ kvs, H b = some (.dK kvs)) ∨ ∃ c, H b = some (.lst [.int c]) := by
  obtain ⟨⟨n, C, dx, kf, km, hc, h1, h2, h3, t⟩, ⟨kvs, adr, h4, t4⟩, h5, h6, h7⟩ := h
  intro b hb
  simp only [Sd.ads, List.mem_cons, List.not_mem_nil, or_false] at hb
  rcases hb with rfl | rfl | rfl | rfl | rfl
  · exact .inl ⟨_, _, _, h1⟩
  · exact .inr (.inl ⟨_, h2⟩)
  · exact .inr (.inl ⟨_, h3⟩)
  · exact .inr (.inl ⟨_, h4⟩)
  · exact .inr (.inr ⟨_, h5⟩)
theorem SideAt.no {K : PySem.W.Frag} {H : Hp} {x : Sd} (h : SideAt K H x) {b : Addr} (hb : b ∈ x.ads) {xs : List V} (ne : ∀ c, xs ≠ [.int c]) : H b ≠ some (.lst xs) := fun e => by
  rcases h.objs b hb with ⟨C, dx, fs, z⟩ | ⟨kvs, z⟩ | ⟨c, z⟩
  · rw [z] at e; cases e
  · rw [z] at e; cases e
  · rw [z] at e; cases e; exact ne c rfl
theorem SideAt.kp {K : PySem.W.Frag} {H H2 : Hp} {x : Sd} {l : List Addr} (h : SideAt K H x) (k : Kp l H H2) (n : ∀ b ∈ x.ads, b ∉ l) (np : ∀ b ∈ l, ∀ t i, H b ≠ some (.lst [.str t, .int i])) : SideAt K H2 x := by
  obtain ⟨h1, h2, h3, h4, h5⟩ := h
  have na := n x.a (by simp [Sd.ads])
  have nf := n x.f (by simp [Sd.ads])
  have nm := n x.m (by simp [Sd.ads])
  have nL := n x.L (by simp [Sd.ads])
  have nc := n x.cc (by simp [Sd.ads])
  exact ⟨h1.kp k na nf nm, h2.kp k nL np, k.at nc h3, h4, h5⟩
/-- two sides, behind so many turns -/
def Pair (K : PySem.W.Frag) (Hb H : Hp) (dl fl cl : Addr) (s : Int → Sd) (t : Nat) : Prop := Same Hb H ∧ H dl = some (.lst [.ref (s 0).a, .ref (s 1).a]) ∧ H fl = some (.lst [.ref (s 0).L, .ref (s 1).L]) ∧ H cl = some (.lst [.ref (s 0).cc, .ref (s 1).cc]) ∧
  (∀ i, i = 0 ∨ i = 1 → SideAt K H (s i) ∧ Dok t (s i).D ∧ 0 ≤ (s i).c ∧ (s i).c ≤ t ∧ ∀ p ∈ (s i).ads, Hb p = none) ∧ ∀ p ∈ (s 0).ads, p ∉ (s 1).ads
theorem Pair.same {K : PySem.W.Frag} {Hb H H2 : Hp} {dl fl cl : Addr} {s : Int → Sd} {t : Nat} (h : Pair K Hb H dl fl cl s t) (e : Same H H2) : Pair K Hb H2 dl fl cl s t := by
  obtain ⟨h0, h1, h2, h3, h4, h5⟩ := h
  exact ⟨h0.trans e, e _ _ h1, e _ _ h2, e _ _ h3, fun i hi => ⟨(h4 i hi).1.kp (Kp.same (l := []) e) (fun _ _ => List.not_mem_nil) (fun _ z => by cases z), (h4 i hi).2⟩, h5⟩
theorem Pair.mono {K : PySem.W.Frag} {Hb H : Hp} {dl fl cl : Addr} {s : Int → Sd} {t u : Nat} (h : Pair K Hb H dl fl cl s t) (e : t ≤ u) : Pair K Hb H dl fl cl s u := by
  obtain ⟨h0, h1, h2, h3, h4, h5⟩ := h
  exact ⟨h0, h1, h2, h3, fun i hi => ⟨(h4 i hi).1, (h4 i hi).2.1.mono e, (h4 i hi).2.2.1, by have := (h4 i hi).2.2.2.1; omega, (h4 i hi).2.2.2.2⟩, h5⟩
theorem Pair.box {K : PySem.W.Frag} {Hb H H2 : Hp} {dl fl cl bx : Addr} {s : Int → Sd} {t n : Nat} (h : Pair K Hb H dl fl cl s t) (B : BoxAt n H bx) (nb : Hb bx = none) (e : But bx H H2) : Pair K Hb H2 dl fl cl s t := by
  obtain ⟨h0, h1, h2, h3, h4, h5⟩ := h
  obtain ⟨g, fl', sd, cn, hb, _⟩ := B
  refine ⟨h0.but nb e, e.at (ne_obj h1 hb (by simp)) h1, e.at (ne_obj h2 hb (by simp)) h2, e.at (ne_obj h3 hb (by simp)) h3, fun i hi => ⟨(h4 i hi).1.kp (Kp.but e) (fun b hm z => ?_) (fun b z t i => ?_), (h4 i hi).2⟩, h5⟩
  · rw [List.mem_singleton] at z
    subst z
    exact (h4 i hi).1.no hm (fun c => by simp) hb
  · rw [List.mem_singleton] at z
    subst z
    rw [hb]
    simp
def Sd.upd (s : Int → Sd) (i : Int) (D : Ds) (c : Int) : Int → Sd := fun j => if j = i then ⟨(s i).a, (s i).f, (s i).m, (s i).L, (s i).cc, D, c⟩ else s j
theorem Sd.upd_eq {s : Int → Sd} {i : Int} {D : Ds} {c : Int} : Sd.upd s i D c i = ⟨(s i).a, (s i).f, (s i).m, (s i).L, (s i).cc, D, c⟩ := if_pos rfl
theorem Sd.upd_ne {s : Int → Sd} {i j : Int} {D : Ds} {c : Int} (h : j ≠ i) : Sd.upd s i D c j = s j := if_neg h
theorem Sd.upd_ads {s : Int → Sd} {i j : Int} {D : Ds} {c : Int} : (Sd.upd s i D c j).ads = (s j).ads := by
  by_cases e : j = i
  · subst e; rw [Sd.upd_eq]; rfl
  · rw [Sd.upd_ne e]
theorem Pair.step {K : PySem.W.Frag} {Hb H H2 : Hp} {dl fl cl : Addr} {s : Int → Sd} {t : Nat} {at' : Int} {D : Ds} {c : Int} (h : Pair K Hb H dl fl cl s t) (ha : at' = 0 ∨ at' = 1) (k : Kp (s at').ads H H2) (h1 : DiskAt K H2 (s at').a (s at').f (s at').m D c .non)
    (h2 : LawAt H2 (s at').L D) (h3 : H2 (s at').cc = some (.lst [.int c])) (hk : Dok (t + 1) D) (c0 : 0 ≤ c) (c1 : c ≤ (t + 1 : Nat)) : ∃ s', Pair K Hb H2 dl fl cl s' (t + 1) := by
  obtain ⟨g0, g1, g2, g3, g4, g5⟩ := h
  have sd := g4 at' ha
  have keep : ∀ {p : Addr} {xs : List V}, (∀ c, xs ≠ [.int c]) → H p = some (.lst xs) → H2 p = some (.lst xs) := fun {p xs} ne e => k.at (fun z => sd.1.no z ne e) e
  have sb : Same Hb H2 := fun p o e => k.at (fun z => by rw [sd.2.2.2.2 p z] at e; cases e) (g0 p o e)
  have other : ∀ j, (j = 0 ∨ j = 1) → j ≠ at' → ∀ p ∈ (s j).ads, p ∉ (s at').ads := by
    intro j hj ne p hp z
    rcases hj with rfl | rfl <;> rcases ha with rfl | rfl
    · exact ne rfl
    · exact g5 p hp z
    · exact g5 p z hp
    · exact ne rfl
  have ex : ∀ j, (j = 0 ∨ j = 1) → j ≠ at' → SideAt K H2 (s j) := fun j hj ne => (g4 j hj).1.kp k (other j hj ne) fun b z t i => sd.1.no z (fun c => by simp)
  refine ⟨Sd.upd s at' D c, sb, ?_, ?_, ?_, fun j hj => ?_, fun p hp z => ?_⟩
  · rw [keep (fun c => by simp) g1]
    rcases ha with rfl | rfl <;> rfl
  · rw [keep (fun c => by simp) g2]
    rcases ha with rfl | rfl <;> rfl
  · rw [keep (fun c => by simp) g3]
    rcases ha with rfl | rfl <;> rfl
  · by_cases e : j = at'
    · subst e
      rw [Sd.upd_eq]
      exact ⟨⟨h1, h2, h3, sd.1.2.2.2⟩, hk, c0, c1, sd.2.2.2.2⟩
    · rw [Sd.upd_ne e]
      exact ⟨ex j hj e, (g4 j hj).2.1.mono (by omega), (g4 j hj).2.2.1, by have := (g4 j hj).2.2.2.1; omega, (g4 j hj).2.2.2.2⟩
  · rw [Sd.upd_ads] at hp z
    exact g5 p hp z
theorem OddV.but {n : Nat} {H H2 H3 : Hp} {bx : Addr} {v : V} {d : PyData} (h : OddV H H2 v d) (B : BoxAt n H2 bx) (t : But bx H2 H3) : OddV H H3 v d := by
  obtain ⟨g, fl, sd, cn, hb, _⟩ := B
  exact ⟨Dz.but hb rfl t h.1 (odd_nobox h.2.1), h.2⟩
theorem OddV.same {H H2 H3 : Hp} {v : V} {d : PyData} (h : OddV H H2 v d) (t : Same H2 H3) : OddV H H3 v d := ⟨Dz.same t h.1, h.2⟩
theorem OddV.old {n : Nat} {H0 H H2 : Hp} {bx : Addr} {v : V} {d : PyData} (h : OddV H H2 v d) (t : But bx H0 H) (B : BoxAt n H bx) : OddV H0 H2 v d := by
  refine ⟨h.1, h.2.1, fun p e => ?_, h.2.2.2⟩
  have z := h.2.2.1 p e
  cases q : H0 p with
  | none => rfl
  | some o =>
    by_cases c : p = bx
    · obtain ⟨o, hb⟩ := B.some
      rw [c, hb] at z
      cases z
    · rw [t.at c q] at z
      cases z
def sp_law (K : PySem.W.Frag) : Sp := sp1 fun v H Q _ => ∃ (a : Addr) (ns : List Int), v = .ref a ∧ SqL K H a (ns.map V.int) ∧ ns.length ≤ 63 ∧ ∀ H2, Q (.bl true) H2
theorem two_at {g : Int → Addr} {r : Int} (h : r = 0 ∨ r = 1) : atI [V.ref (g 0), .ref (g 1)] r = some (.ref (g r)) := by rcases h with rfl | rfl <;> rfl
/-- the ways a turn may go -/
theorem list_or {d : PyData} : isK (kindD d) "list" = false ∨ ∃ ds, d = .list ds := by
  cases d with
  | list ds => exact .inr ⟨ds, rfl⟩
  | none => exact .inl (by decide)
  | bool _ => exact .inl rfl
  | int _ => exact .inl rfl
  | str _ => exact .inl rfl
  | tuple _ => exact .inl rfl
  | dict _ => exact .inl rfl
theorem dz_list {g : Bool} {H : Hp} {v : V} {ds : List PyData} (h : Dz g H v (.list ds)) : ∃ b, v = .ref b ∧ ∃ o, H b = some o := by
  cases h with
  | lst h n a => exact ⟨_, rfl, _, h⟩
theorem cs_of {H H2 : Hp} {D : Ds} {i : Int} {nm tx : V} {d e : PyData} (oN : OddV H H2 nm d) (oT : OddV H H2 tx e) (ok : nmOk d = true) (oke : txOk e = true) :
    (nmD d = false ∧ ∃ ds bb o, d = .list ds ∧ nm = .ref bb ∧ H2 bb = some o) ∨ (nmD d = false ∧ isK (kindD d) "list" = false) ∨
    ((∃ n, nm = .str n ∧ nmS n = true) ∧ i < 2 ∧ txD e = false ∧ ∃ ds bb o, e = .list ds ∧ tx = .ref bb ∧ H2 bb = some o) ∨ ((∃ n, nm = .str n ∧ nmS n = true) ∧ i < 2 ∧ txD e = false ∧ isK (kindD e) "list" = false) ∨
    (∃ n, nm = .str n ∧ d = .str n ∧ nmS n = true ∧ 2 ≤ i ∧ n ∉ D.names) ∨ ∃ n t, nm = .str n ∧ nmS n = true ∧ (i < 2 → tx = .str t ∧ mkS t = true ∧ txOk (.str t) = true) ∧ (2 ≤ i → n ∈ D.names) := by
  cases hd : nmD d with
  | false =>
    rcases list_or (d := d) with h | ⟨ds, h⟩
    · exact .inr (.inl ⟨rfl, h⟩)
    · subst h
      obtain ⟨b, e1, o, e2⟩ := dz_list oN.1
      exact .inl ⟨rfl, ds, b, o, rfl, e1, e2⟩
  | true =>
    cases d with
    | str n =>
      have hn : nmS n = true := hd
      have en : nm = .str n := by cases oN.1; rfl
      by_cases hi : i < 2
      · cases he : txD e with
        | false =>
          rcases list_or (d := e) with h | ⟨ds, h⟩
          · exact .inr (.inr (.inr (.inl ⟨⟨n, en, hn⟩, hi, rfl, h⟩)))
          · subst h
            obtain ⟨b, e1, o, e2⟩ := dz_list oT.1
            exact .inr (.inr (.inl ⟨⟨n, en, hn⟩, hi, rfl, ds, b, o, rfl, e1, e2⟩))
        | true =>
          cases e with
          | str t => exact .inr (.inr (.inr (.inr (.inr ⟨n, t, en, hn, fun _ => ⟨by cases oT.1; rfl, he, oke⟩, fun z => absurd hi (by omega)⟩))))
          | _ => cases he
      · by_cases hm : n ∈ D.names
        · exact .inr (.inr (.inr (.inr (.inr ⟨n, "", en, hn, fun z => absurd z hi, fun _ => hm⟩))))
        · exact .inr (.inr (.inr (.inr (.inl ⟨n, en, rfl, hn, by omega, hm⟩))))
    | _ => cases hd
theorem tx_len {x : Str} (h : txOk (.str x) = true) : x.length ≤ 30 := by
  have h : (asciiS x && decide (x.length ≤ 30) && _) = true := h
  rw [Bool.and_eq_true, Bool.and_eq_true] at h
  exact of_decide_eq_true h.1.2
theorem sw_up {d : PyData} (h : oddOk d = true) : Sw 3 100000 d := (sw_odd h).mono (Nat.le_refl _) (by decide)
/-- the parts of a list that is odd -/
theorem odd_parts {H H2 : Hp} {v : V} {ds : List PyData} (h : OddV H H2 v (.list ds)) : (∀ x ∈ ds, atomD x = true) ∧ (∀ x ∈ ds, Sw 3 2000 x) ∧ ds.length ≤ 2 := by
  obtain ⟨a, b, c, e⟩ := h
  obtain ⟨l, at'⟩ := e ds rfl
  exact ⟨fun x hx => (at' x hx).1, fun x hx => sw_odd (at' x hx).2, l⟩
theorem nocc {H : Hp} {b cc : Addr} {n : Nat} {c : Int} (B : BoxAt n H b) (h : H cc = some (.lst [.int c])) : cc ≠ b := fun e => by
  obtain ⟨g, f, s, x, hb, _⟩ := B
  rw [e, hb] at h
  cases h
section
variable {P : Program} {w : World} {K : PySem.W.Frag} {mg : Str → Option Value} {base : Heap}
variable {e_InvalidName e_InvalidText e_NoFile e_QueueError e_Disk : Addr}
/-! ### _law_box(_law_great), level 1 -/
abbrev s__law_box : Stmt := top 22
abbrev N__law_box : List Str := ["_law_great"]
theorem sc__law_box : FnScope N__law_box ["_law_great"] (defScope s__law_box) := ⟨rfl, rfl, rfl, by decide +kernel, rfl, by decide +kernel, by decide +kernel⟩
theorem ok__law_box (T : Txt K mg e_InvalidName e_InvalidText e_NoFile e_QueueError e_Disk) (D : Df K mg "_law_box" s__law_box ["_law_great"]) : Ct P w K mg base CX0 1 "_law_box" ["_law_great"] (sp__law_box K) := by
  refine ct1 D sc__law_box fun f cdv A outer s H a_great Q E hr h => ⟨_, (pss_one (ps_ret (pe_lz (pa_cons (pe_callB c_abs (by rfl) T.n_abs bt_abs (pa_cons (pz 0) pa_nil)) (pa_cons (pe_cmpR o_ge (pe_callB c_abs (by rfl) T.n_abs bt_abs (pa_cons (pz 0) pa_nil)) (pe_op o_pow pe_int pe_int) (nomark _)) (pa_cons (pe_op o_mod (pe_callTy c_int (by rfl) T.n_int bt_int (pa_cons (pe_callB c_abs (by rfl) T.n_abs bt_abs (pa_cons (pz 0) pa_nil)) pa_nil)) pe_int) (pa_cons pe_int pa_nil))))))), ?_⟩
  obtain ⟨g, rfl, k⟩ := h
  refine ⟨⟨by decide, by decide, by decide⟩, by show (0 : Int) < _; decide, by show 4 ≤ sizeLine; decide, fun b H2 n => ?_⟩
  refine k b H2 n.fresh n.same ⟨_, _, _, _, n.here, ?_, ?_, ?_, by decide, by decide⟩
  · split <;> omega
  · exact Int.emod_nonneg _ (by decide)
  · have := Int.emod_lt_of_pos (if g < 0 then -g else g) (show (0 : Int) < 2147483629 by decide)
    omega

/-! ### _law_cell(_law_script, _law_k), level 1 -/
abbrev s__law_cell : Stmt := top 21
abbrev N__law_cell : List Str := ["_law_script", "_law_k"]
theorem sc__law_cell : FnScope N__law_cell ["_law_script", "_law_k"] (defScope s__law_cell) := ⟨rfl, rfl, rfl, by decide +kernel, rfl, by decide +kernel, by decide +kernel⟩
theorem ok__law_cell (T : Txt K mg e_InvalidName e_InvalidText e_NoFile e_QueueError e_Disk) (D : Df K mg "_law_cell" s__law_cell ["_law_script", "_law_k"]) : Ct P w K mg base CX0 1 "_law_cell" ["_law_script", "_law_k"] (sp__law_cell K) := by
  refine ct2 D sc__law_cell fun f cdv A outer s H a_script a_k Q E hr h => ⟨_, (pss_one (ps_ret (pe_ifExp (pt_cmpZ o_ltS (pz 1) (pe_callB (k_len K) (by rfl) T.n_len bt_len (pa_cons (pz 0) pa_nil)) (nomark _)) (pe_ix (k_ix K) (pz 0) (pz 1) (fun _ _ => rfl)) (pe_op (k_add K) (pe_op o_mul pe_int (pz 1)) (pe_op o_mod (pe_callB (k_sum K rfl) (by rfl) T.n_sum bt_sum (pa_cons (pe_slice (k_sl K) (pz 0) po_none (po_z pe_int)) pa_nil)) pe_int))))), ?_⟩
  obtain ⟨a, i, ns, rfl, rfl, h0, h1, hS, hl, k⟩ := h
  refine .inl ⟨_, .inl hS, ?_⟩
  refine ite2 (fun hc => ?_) (fun hc => ?_)
  · have hi : i < (ns.map V.int).length := by simpa using hc
    rw [List.length_map] at hi
    refine ⟨_, V.int (ns.getD i.toNat 0), .inl hS, ?_, k _ _ (Same.refl _)⟩
    have e : i = ((i.toNat : Nat) : Int) := by omega
    rw [e]
    refine atI_nat ?_
    rw [Int.toNat_natCast, List.getElem?_map, List.getElem?_eq_getElem (by omega)]
    simp [List.getD, List.getElem?_eq_getElem (show i.toNat < ns.length by omega)]
  · refine ⟨.inr ⟨by omega, by omega⟩, .inl ⟨_, hS, fun p H2 n => ?_⟩⟩
    have e : cutV (ns.map V.int) none (some 1) = (ns.take 1).map V.int := by
      cases ns with
      | nil => rfl
      | cons x r => simp [cutV, HT.sIx]
    rw [e] at n
    exact ⟨_, SqL.of n.here, by show (0 : Int) < _; decide, k _ _ n.same⟩

/-! ### _law_take(_law_box_here, _law_many), level 1 -/
abbrev s__law_take : Stmt := top 23
abbrev N__law_take : List Str := ["_law_box_here", "_law_many", "_law_digit", "_law_mixed"]
theorem sc__law_take : FnScope N__law_take ["_law_box_here", "_law_many"] (defScope s__law_take) := ⟨rfl, rfl, rfl, by decide +kernel, rfl, by decide +kernel, by decide +kernel⟩
theorem ok__law_take (T : Txt K mg e_InvalidName e_InvalidText e_NoFile e_QueueError e_Disk) (D : Df K mg "_law_take" s__law_take ["_law_box_here", "_law_many"]) : Ct P w K mg base CX0 1 "_law_take" ["_law_box_here", "_law_many"] (sp__law_take K) := by
  refine ct2 D sc__law_take fun f cdv A outer s H a_box_here a_many Q E hr h => ⟨_, (pss_cons (ps_if (PW.pt (pw_and (pt_trK K (pe_ix (k_ix K) (pz 0) pe_int (fun _ _ => rfl))) (pw_and1 (pt_cmpZ o_gtS (pe_ix (k_ix K) (pz 0) pe_int (fun _ _ => rfl)) pe_int (nomark _))))) 
      (pss_cons (ps_set (i := 2) sc__law_take.nd rfl (Or.inl rfl) (pe_op o_mod (pe_callTy c_int (by rfl) T.n_int bt_int (pa_cons (pe_ix (k_ix K) (pz 0) pe_int (fun _ _ => rfl)) pa_nil)) (pz 1)))
      (pss_cons (ps_asg (pe_op o_fdiv (pe_ix (k_ix K) (pz 0) pe_int (fun _ _ => rfl)) (pz 1)) (pg_sub (pz 0) pe_int s_list))
      (pss_one (ps_ret (pz 2))))) pss_nil)
    (pss_cons (ps_asg (pe_op (k_add K) (pe_ix (k_ix K) (pz 0) pe_int (fun _ _ => rfl)) pe_int) (pg_sub (pz 0) pe_int s_list))
    (pss_cons (ps_set (i := 3) sc__law_take.nd rfl (Or.inl rfl) (pe_op o_mod (pe_callTy c_int (by rfl) T.n_int bt_int (pa_cons (pe_op o_pow (pe_op (k_add K) (pe_op (k_add K) (pe_ix (k_ix K) (pz 0) pe_int (fun _ _ => rfl)) (pe_op o_mul pe_int (pe_ix (k_ix K) (pz 0) pe_int (fun _ _ => rfl)))) pe_int) pe_int) pa_nil)) pe_int))
    (pss_one (ps_ret (pe_op o_mod (pe_op o_fdiv (pe_op o_mod (pe_callTy c_int (by rfl) T.n_int bt_int (pa_cons (pe_op o_pow (pe_op (k_add K) (pe_op o_mul (pz 3) pe_int) (pe_op o_mul pe_int (pe_ix (k_ix K) (pz 0) pe_int (fun _ _ => rfl)))) pe_int) pa_nil)) pe_int) pe_int) (pz 1))))))), ?_⟩
  obtain ⟨b, m, n, rfl, rfl, hm, hm2, hB, hn, k⟩ := h
  obtain ⟨g, f1, s1, c, hb, g0, s0, s2, c0, c1⟩ := id hB
  have two : (2 : Int) ^ 64 = 18446744073709551616 := by decide
  refine ⟨_, _, .inl (SqL.of hb), rfl, ?_⟩
  refine ite2 (fun h1 => ?_) (fun h1 => ?_)
  · refine ⟨_, _, .inl (SqL.of hb), rfl, ?_⟩
    refine ite2 (fun h2 => ?_) (fun h2 => ?_)
    · refine ⟨_, _, .inl (SqL.of hb), rfl, hm, ?_⟩
      refine ⟨_, _, .inl (SqL.of hb), rfl, ⟨hm, by omega⟩, ?_⟩
      refine ⟨_, 0, hb, rfl, fun H2 w => ?_⟩
      have hg : 0 < g := by simpa using h2
      exact k _ H2 w.but ⟨_, _, _, _, w.here, Int.ediv_nonneg g0 (by omega), s0, s2, c0, by omega⟩ (Int.emod_nonneg _ (by omega)) (Int.emod_lt_of_pos _ hm)
    · refine ⟨_, _, .inl (SqL.of hb), rfl, ?_⟩
      refine ⟨_, 3, hb, rfl, fun H2 w => ?_⟩
      refine ⟨_, _, .inl (SqL.of w.here), rfl, ?_⟩
      refine ⟨_, _, .inl (SqL.of w.here), rfl, .inl ⟨by omega, by omega⟩, ?_⟩
      refine ⟨⟨by decide, by decide, by omega⟩, by show (0 : Int) < _; decide, ?_⟩
      have q1 := Int.emod_nonneg ((s1 + 15485863 * (c + 1) + 179424697) ^ (5 : Int).toNat) (show (2147483647 : Int) ≠ 0 by decide)
      have q2 := Int.emod_lt_of_pos ((s1 + 15485863 * (c + 1) + 179424697) ^ (5 : Int).toNat) (show (0 : Int) < 2147483647 by decide)
      refine ⟨.inr ⟨by omega, by omega⟩, ?_⟩
      refine ⟨_, _, .inl (SqL.of w.here), rfl, .inl ⟨by omega, by omega⟩, ?_⟩
      generalize (s1 + 15485863 * (c + 1) + 179424697) ^ (5 : Int).toNat % 2147483647 = z at q1 q2 ⊢
      refine ⟨⟨by decide, by decide, by omega⟩, by show (0 : Int) < _; decide, ⟨by show (0 : Int) < _; decide, by show _ < (1073741824 : Int); decide⟩, hm, ?_⟩
      exact k _ H2 w.but ⟨_, _, _, _, w.here, g0, s0, s2, by omega, by omega⟩ (Int.emod_nonneg _ (by omega)) (Int.emod_lt_of_pos _ hm)
  · refine iteF ?_
    refine ⟨_, _, .inl (SqL.of hb), rfl, ?_⟩
    refine ⟨_, 3, hb, rfl, fun H2 w => ?_⟩
    refine ⟨_, _, .inl (SqL.of w.here), rfl, ?_⟩
    refine ⟨_, _, .inl (SqL.of w.here), rfl, .inl ⟨by omega, by omega⟩, ?_⟩
    refine ⟨⟨by decide, by decide, by omega⟩, by show (0 : Int) < _; decide, ?_⟩
    have q1 := Int.emod_nonneg ((s1 + 15485863 * (c + 1) + 179424697) ^ (5 : Int).toNat) (show (2147483647 : Int) ≠ 0 by decide)
    have q2 := Int.emod_lt_of_pos ((s1 + 15485863 * (c + 1) + 179424697) ^ (5 : Int).toNat) (show (0 : Int) < 2147483647 by decide)
    refine ⟨.inr ⟨by omega, by omega⟩, ?_⟩
    refine ⟨_, _, .inl (SqL.of w.here), rfl, .inl ⟨by omega, by omega⟩, ?_⟩
    generalize (s1 + 15485863 * (c + 1) + 179424697) ^ (5 : Int).toNat % 2147483647 = z at q1 q2 ⊢
    refine ⟨⟨by decide, by decide, by omega⟩, by show (0 : Int) < _; decide, ⟨by show (0 : Int) < _; decide, by show _ < (1073741824 : Int); decide⟩, hm, ?_⟩
    exact k _ H2 w.but ⟨_, _, _, _, w.here, g0, s0, s2, by omega, by omega⟩ (Int.emod_nonneg _ (by omega)) (Int.emod_lt_of_pos _ hm)

/-! ### _law_word(_law_box_here, _law_signs_here, _law_most), level 2 -/
abbrev s__law_word : Stmt := top 27
abbrev N__law_word : List Str := ["_law_box_here", "_law_signs_here", "_law_most", "_law_turn"]
theorem sc__law_word : FnScope N__law_word ["_law_box_here", "_law_signs_here", "_law_most"] (defScope s__law_word) := ⟨rfl, rfl, rfl, by decide +kernel, rfl, by decide +kernel, by decide +kernel⟩
theorem ok__law_word (T : Txt K mg e_InvalidName e_InvalidText e_NoFile e_QueueError e_Disk) (C__law_take : Ct P w K mg base CX0 1 "_law_take" ["_law_box_here", "_law_many"] (sp__law_take K)) (D : Df K mg "_law_word" s__law_word ["_law_box_here", "_law_signs_here", "_law_most"]) : Ct P w K mg base CX0 2 "_law_word" ["_law_box_here", "_law_signs_here", "_law_most"] (sp__law_word K) := by
  refine ct3 D sc__law_word fun f cdv A outer s H a_box_here a_signs_here a_most Q E hr h => ⟨_, (pss_one (ps_ret (pe_ms PySem.F.slot_str_join PySem.F.type_str_join (mk_join K) pe_str (pa_cons (pe_lcz (own := [("_law_turn", 3)]) (by rfl) sc__law_word.nd (pi_rngZ (by rfl) T.n_range (pa_cons (pe_op (k_add K) pe_int (pe_cl C__law_take (hr.mono (by decide)) pass0 (pa_cons (pz 0) (pa_cons (pz 2) pa_nil)))) pa_nil)) (blkOk_by (own := [("_law_turn", 3)]) (N := N__law_word) (sc := defScope s__law_word) (by decide +kernel)) (fun _ _ _ _ _ => (pg_name (i := 3) sc__law_word.nd rfl (Or.inl rfl))) (fun _ _ _ _ _ => pts_nil) (fun _ _ _ _ _ => (pe_ix (k_ix K) (pz 1) (pe_cl C__law_take (hr.mono (by decide)) pass0 (pa_cons (pz 0) (pa_cons (pe_callB (k_len K) (by rfl) T.n_len bt_len (pa_cons (pz 1) pa_nil)) pa_nil))) (fun _ _ => rfl)))) pa_nil)))), ?_⟩
  obtain ⟨b, n, z, m, rfl, rfl, rfl, hB, hn, hz, hz2, hm, hm2, q⟩ := h
  refine ⟨b, m, n, rfl, rfl, by omega, by omega, hB, by omega, fun r H2 t2 B2 r0 r1 => ?_⟩
  refine ⟨by omega, by omega, fun D hD => lc_w (wk_rng 0 (1 + r).toNat) (by rw [rngV_len]; omega)
      (fun i acc H' => ∃ ls : List (List Nat), acc = strsV ls ∧ ls.length = i ∧ (∀ l ∈ ls, ∃ c, l = [c] ∧ c ∈ z.cps.toList) ∧ But b H2 H' ∧ BoxAt (n + 1 + i) H' b)
      (fun H4 n4 => ⟨[], rfl, rfl, (fun _ h => by cases h), n4.but, (B2.same n4.same)⟩) (fun _ _ _ _ => trivial) (fun i acc H' ⟨ls, e, l, _⟩ => by rw [e, strsV_len]; omega) ?_ ?_⟩
  · rintro i x acc H4 hx hD4 ⟨ls, rfl, hl, ht, t4, B4⟩
    obtain ⟨hi, rfl⟩ := rngV_at hx
    have nD : D ≠ b := (B2.ne hD).symm
    refine ⟨rfl, ?_⟩
    refine ⟨sz (by omega), ?_⟩
    refine ⟨b, _, n + 1 + i, rfl, rfl, by omega, by omega, B4, by omega, fun r3 H5 t5 B5 r30 r31 => ?_⟩
    obtain ⟨c, e1, e2, _⟩ := atI_some (xs := z.cps.toList) r30 (by rw [len_cps]; exact r31)
    refine ⟨c, sz (by omega), e1, t5.at nD hD4, fun H6 w6 => ?_⟩
    refine ⟨ls ++ [[c]], strsV_app ls [c] ▸ rfl, by rw [List.length_append, hl]; rfl, fun l hl => ?_, (t4.trans t5).wr hD w6, (B5.wr nD.symm w6)⟩
    rcases List.mem_append.mp hl with hl | hl
    · exact ht l hl
    · exact ⟨c, List.mem_singleton.mp hl, e2⟩
  · rintro acc H4 _ hD4 ⟨ls, rfl, hl, ht, t4, B4⟩
    rw [rngV_len] at hl B4
    have fl : ls.flatten.length = ls.length ∧ ∀ c ∈ ls.flatten, c ∈ z.cps.toList := by
      have gen : ∀ ls : List (List Nat), (∀ l ∈ ls, ∃ c, l = [c] ∧ c ∈ z.cps.toList) → ls.flatten.length = ls.length ∧ ∀ c ∈ ls.flatten, c ∈ z.cps.toList := by
        intro ls
        induction ls with
        | nil => intro _; exact ⟨rfl, fun _ h => by cases h⟩
        | cons a r ih =>
          intro h
          obtain ⟨c, rfl, hc⟩ := h a List.mem_cons_self
          obtain ⟨h1, h2⟩ := ih fun l hl => h l (List.mem_cons_of_mem _ hl)
          refine ⟨by rw [List.flatten_cons, List.length_append, List.length_cons, h1]; rw [List.length_cons]; show 1 + _ = _; omega, fun x hx => ?_⟩
          rcases List.mem_cons.mp hx with rfl | hx
          · exact hc
          · exact h2 x hx
      exact gen ls ht
    have r24 : (1 + r).toNat ≤ m ∧ 1 ≤ (1 + r).toNat := by omega
    refine ⟨ls.map S, .inl (SqL.of hD4), ?_, ?_⟩
    · exact joinSz _ (by rw [fl.1, hl]; omega)
    rw [join_flat lit_nil]
    exact q _ H4 (t2.trans t4) (B4.mono (by omega)) (by rw [fl.1, hl]; exact r24.2) (by rw [fl.1, hl]; exact r24.1) fl.2

/-! ### _law_signs(), level 1 -/
abbrev s__law_signs : Stmt := top 24
abbrev N__law_signs : List Str := []
theorem sc__law_signs : FnScope N__law_signs [] (defScope s__law_signs) := ⟨rfl, rfl, rfl, by decide +kernel, rfl, by decide +kernel, by decide +kernel⟩
theorem ok__law_signs (D : Df K mg "_law_signs" s__law_signs []) : Ct P w K mg base CX0 1 "_law_signs" [] (sp__law_signs K) := by
  refine ct0 D sc__law_signs fun f cdv A outer s H  Q E hr h => ⟨_, (pss_one (ps_ret pe_str)), ?_⟩
  exact h

/-! ### _law_marks(), level 2 -/
abbrev s__law_marks : Stmt := top 25
abbrev N__law_marks : List Str := []
theorem sc__law_marks : FnScope N__law_marks [] (defScope s__law_marks) := ⟨rfl, rfl, rfl, by decide +kernel, rfl, by decide +kernel, by decide +kernel⟩
theorem ok__law_marks (C__law_signs : Ct P w K mg base CX0 1 "_law_signs" [] (sp__law_signs K)) (D : Df K mg "_law_marks" s__law_marks []) : Ct P w K mg base CX0 2 "_law_marks" [] (sp__law_marks K) := by
  refine ct0 D sc__law_marks fun f cdv A outer s H  Q E hr h => ⟨_, (pss_one (ps_ret (pe_op (k_add K) (pe_op (k_add K) (pe_op (k_add K) (pe_op (k_add K) pe_str pe_str) pe_str) pe_str) (pe_cl0 C__law_signs (hr.mono (by decide)) pass0)))), ?_⟩
  refine ⟨by decide +kernel, ?_⟩
  refine ⟨by decide +kernel, ?_⟩
  refine ⟨by decide +kernel, ?_⟩
  refine ⟨rfl, ?_⟩
  refine ⟨by decide +kernel, ?_⟩
  have key : ∀ z : Str, z = S mrk → Q (.str z) H := fun z e => by
    rw [e]
    exact h
  refine key _ ?_
  decide +kernel

/-! ### _law_any_text(_law_box_here), level 3 -/
abbrev s__law_any_text : Stmt := top 29
abbrev N__law_any_text : List Str := ["_law_box_here", "_law_way", "_law_good", "_law_spot"]
theorem sc__law_any_text : FnScope N__law_any_text ["_law_box_here"] (defScope s__law_any_text) := ⟨rfl, rfl, rfl, by decide +kernel, rfl, by decide +kernel, by decide +kernel⟩
theorem ok__law_any_text (T : Txt K mg e_InvalidName e_InvalidText e_NoFile e_QueueError e_Disk) (C__law_word : Ct P w K mg base CX0 2 "_law_word" ["_law_box_here", "_law_signs_here", "_law_most"] (sp__law_word K)) (C__law_marks : Ct P w K mg base CX0 2 "_law_marks" [] (sp__law_marks K)) (C__law_take : Ct P w K mg base CX0 1 "_law_take" ["_law_box_here", "_law_many"] (sp__law_take K)) (D : Df K mg "_law_any_text" s__law_any_text ["_law_box_here"]) : Ct P w K mg base CX0 3 "_law_any_text" ["_law_box_here"] (sp__law_any_text K) := by
  refine ct1 D sc__law_any_text fun f cdv A outer s H a_box_here Q E hr h => ⟨_, (pss_cons (ps_parZ (i := 1) (j := 2) (by rfl) sc__law_any_text.nd rfl rfl (by decide) rfl rfl (pa_cons (pe_cl C__law_take (hr.mono (by decide)) pass0 (pa_cons (pz 0) (pa_cons pe_int pa_nil))) (pa_cons (pe_cl C__law_word (hr.mono (by decide)) pass0 (pa_cons (pz 0) (pa_cons (pe_cl0 C__law_marks (hr.mono (by decide)) pass0) (pa_cons pe_int pa_nil)))) pa_nil)) (by rfl))
    (pss_cons (ps_if (pt_cmpZ (k_eq K hr.units) (pz 1) pe_int (nomark _)) 
      (pss_one (ps_ret (pe_ix (k_ix K) (pe_lzS (pa_cons pe_str (pa_cons pe_non (pa_cons pe_int (pa_cons (pe_lzS (pa_cons pe_str pa_nil)) (pa_cons (pe_tz (pa_cons pe_str (pa_cons pe_str pa_nil))) (pa_cons pe_bl (pa_cons (pe_callTy (k_dict K rfl) (by rfl) T.n_dict bt_dict (pa_cons (pe_lzS pa_nil) pa_nil)) pa_nil)))))))) (pe_cl C__law_take (hr.mono (by decide)) pass0 (pa_cons (pz 0) (pa_cons pe_int pa_nil))) (fun _ _ => rfl)))) pss_nil)
    (pss_cons (ps_if (pt_cmpZ (k_eq K hr.units) (pz 1) pe_int (nomark _)) 
      (pss_cons (ps_set (i := 3) sc__law_any_text.nd rfl (Or.inl rfl) (pe_cl C__law_take (hr.mono (by decide)) pass0 (pa_cons (pz 0) (pa_cons (pe_op (k_add K) (pe_callB (k_len K) (by rfl) T.n_len bt_len (pa_cons (pz 2) pa_nil)) pe_int) pa_nil))))
      (pss_one (ps_ret (pe_op (k_add K) (pe_op (k_add K) (pe_slice (k_sl K) (pz 2) po_none (po_z (pz 3))) (pe_ix (k_ix K) pe_str (pe_cl C__law_take (hr.mono (by decide)) pass0 (pa_cons (pz 0) (pa_cons pe_int pa_nil))) (fun _ _ => rfl))) (pe_slice (k_sl K) (pz 2) (po_z (pz 3)) po_none))))) pss_nil)
    (pss_one (ps_ret (pz 2)))))), ?_⟩
  obtain ⟨b, n, rfl, hB, hn, q⟩ := h
  refine ⟨b, 12, n, rfl, rfl, by decide, by decide, hB, by omega, fun way H1 t1 B1 w0 w1 => ?_⟩
  refine ⟨rfl, ?_⟩
  refine ⟨b, n + 1, S mrk, 24, rfl, rfl, rfl, B1, by omega, by decide +kernel, by decide +kernel, by decide, by decide, fun l H2 t2 B2 l1 l2 lm => ?_⟩
  have t12 := t1.trans t2
  rw [cps_S] at lm
  refine ite2 (fun hw => ?_) (fun hw => ?_)
  · refine ⟨by show 1 ≤ sizeLine; decide, fun a1 H3 n3 m3 => ?_⟩
    refine ⟨by show 2 ≤ sizeLine; decide, fun a2 H4 n4 => ?_⟩
    refine ⟨by show 0 ≤ sizeLine; decide, fun a0 H5 n5 m5 => ?_⟩
    refine .inl ⟨[], [], SqL.of n5.here, .nil, fun a3 H6 n6 => ?_⟩
    refine ⟨by show 7 ≤ sizeLine; decide, fun p H7 n7 m7 => ?_⟩
    have s27 := (((n3.same.trans n4.same).trans n5.same).trans n6.same).trans n7.same
    have B7 := B2.same s27
    have np : p ≠ b := (B2.ne ((((n3.same.trans n4.same).trans n5.same).trans n6.same).free n7.fresh)).symm
    refine ⟨b, 7, n + 1 + 30, rfl, rfl, by decide, by decide, B7, by omega, fun r H8 t8 B8 r0 r1 => ?_⟩
    obtain ⟨w, e, hw, _⟩ := atI_some (xs := [V.str "", .non, .int 0, .ref a1, .ref a2, .bl true, .ref a3]) (r := r) r0 (by show _ < 7; omega)
    refine ⟨_, w, .inl (SqL.of (t8.at np n7.here)), e, ?_⟩
    have free : ∀ {a : Addr}, H2 a = none → H a = none := fun {a} z => by
      cases e : H a with
      | none => rfl
      | some o =>
        by_cases c : a = b
        · exact absurd z (by rw [c]; obtain ⟨o, h⟩ := B2.some; rw [h]; simp)
        · rw [t12.at c e] at z; cases z
    have far : ∀ {a : Addr}, H2 a = none → a ≠ b := fun {a} z e => by
      obtain ⟨o, h⟩ := B2.some
      rw [← e, z] at h
      cases h
    have f1 := n3.fresh
    have f2 := n3.same.free n4.fresh
    have f3 := (((n3.same.trans n4.same).trans n5.same)).free n6.fresh
    have go : ∀ d, OddV H H8 w d → txOk d = true → Q w H8 := fun d g k1 => q w d H8 ((t12.trans (But.of s27)).trans t8) (B8.mono (by omega)) g k1
    have k1 := t8.at (far f1) (n7.keep (n6.keep (n5.keep (n4.keep n3.here))))
    have k2 := t8.at (far f2) (n7.keep (n6.keep (n5.keep n4.here)))
    have k3 := t8.at (far f3) (n7.keep n6.here)
    simp only [List.mem_cons, List.not_mem_nil, or_false] at hw
    rcases hw with rfl | rfl | rfl | rfl | rfl | rfl | rfl
    · exact go (.str "") (.flat (.str _) (by decide +kernel) rfl) (by decide +kernel)
    · exact go .none (.flat .non (by decide +kernel) rfl) rfl
    · exact go (.int 0) (.flat (.int _) (by decide +kernel) rfl) rfl
    · exact go (.list [.str "ab"]) ⟨.lst k1 (fun _ => m3) (.cons (.str _) .nil), by decide +kernel, fun p e => by cases e; exact free f1, fun ds e => by
        cases e
        exact ⟨by decide, fun d hd => by rw [List.mem_singleton.mp hd]; exact ⟨rfl, by decide +kernel⟩⟩⟩ rfl
    · exact go (.tuple [.str "a", .str "b"]) ⟨.tup k2 (.cons (.str _) (.cons (.str _) .nil)), by decide +kernel, fun p e => by cases e; exact free f2, fun ds e => by cases e⟩ rfl
    · exact go (.bool true) (.flat (.bl _) (by decide +kernel) rfl) rfl
    · exact go (.dict []) ⟨.dic k3 .nil, by decide +kernel, fun p e => by cases e; exact free f3, fun ds e => by cases e⟩ rfl
  refine ite2 (fun hw1 => ?_) (fun hw1 => ?_)
  · refine ⟨sz (by rw [length_S]; omega), ?_⟩
    rw [length_S]
    refine ⟨b, _, _, rfl, rfl, by omega, by omega, B2, by omega, fun r H3 t3 B3 r0 r1 => ?_⟩
    obtain ⟨j, rfl⟩ : ∃ j : Nat, r = (j : Int) := ⟨r.toNat, by omega⟩
    refine ⟨sz (by rw [length_S]; omega), ?_⟩
    rw [cut_n]
    refine ⟨b, 2, _, rfl, rfl, by decide, by decide, B3, by omega, fun i H4 t4 B4 i0 i1 => ?_⟩
    obtain ⟨c, e, hc⟩ := marks i0 i1
    refine ⟨c, by decide, e, ?_⟩
    rw [show (⟨#[c]⟩ : Str) = S [c] from rfl]
    refine ⟨sz (by rw [length_S, length_S, List.length_take]; show _ + 1 ≤ _; omega), ?_⟩
    rw [S_cat]
    refine ⟨sz (by rw [length_S]; omega), ?_⟩
    rw [cut_from]
    refine ⟨sz (by rw [length_S, length_S, List.length_append, List.length_take, List.length_drop]; show _ + 1 + _ ≤ _; omega), ?_⟩
    rw [S_cat]
    have asc := put_asc (j := j) (c := c) (mem_asc lm) (by omega)
    have len := put_len (l := l) (j := j) (c := c)
    have bad := tx_bad asc put_in (by omega) (by omega)
    exact q _ _ H4 ((t12.trans t3).trans t4) (B4.mono (by omega)) (.s asc (by omega)) bad.1
  · exact q _ _ H2 t12 (B2.mono (by omega)) (.s (mem_asc lm) (by omega)) (tx_good lm l1 (by omega)).1

/-! ### _law_pool(), level 1 -/
abbrev s__law_pool : Stmt := top 26
abbrev N__law_pool : List Str := []
theorem sc__law_pool : FnScope N__law_pool [] (defScope s__law_pool) := ⟨rfl, rfl, rfl, by decide +kernel, rfl, by decide +kernel, by decide +kernel⟩
theorem ok__law_pool (D : Df K mg "_law_pool" s__law_pool []) : Ct P w K mg base CX0 1 "_law_pool" [] (sp__law_pool K) := by
  refine ct0 D sc__law_pool fun f cdv A outer s H  Q E hr h => ⟨_, (pss_one (ps_ret (pe_lz (pa_cons pe_str (pa_cons pe_str (pa_cons pe_str (pa_cons pe_str (pa_cons pe_str (pa_cons pe_str (pa_cons pe_str (pa_cons pe_str (pa_cons pe_str (pa_cons pe_str (pa_cons pe_str (pa_cons pe_str pa_nil))))))))))))))), ?_⟩
  have q := h
  refine ⟨by show 12 ≤ sizeLine; decide, fun p H2 n2 => ?_⟩
  exact q p H2 n2

/-! ### _law_any_name(_law_box_here, _law_files), level 3 -/
abbrev s__law_any_name : Stmt := top 28
abbrev N__law_any_name : List Str := ["_law_box_here", "_law_files", "_law_way", "_law_known", "_law_good", "_law_spot"]
theorem sc__law_any_name : FnScope N__law_any_name ["_law_box_here", "_law_files"] (defScope s__law_any_name) := ⟨rfl, rfl, rfl, by decide +kernel, rfl, by decide +kernel, by decide +kernel⟩
theorem ok__law_any_name (T : Txt K mg e_InvalidName e_InvalidText e_NoFile e_QueueError e_Disk) (C__law_take : Ct P w K mg base CX0 1 "_law_take" ["_law_box_here", "_law_many"] (sp__law_take K)) (C__law_pool : Ct P w K mg base CX0 1 "_law_pool" [] (sp__law_pool K)) (C__law_word : Ct P w K mg base CX0 2 "_law_word" ["_law_box_here", "_law_signs_here", "_law_most"] (sp__law_word K)) (C__law_signs : Ct P w K mg base CX0 1 "_law_signs" [] (sp__law_signs K)) (D : Df K mg "_law_any_name" s__law_any_name ["_law_box_here", "_law_files"]) : Ct P w K mg base CX0 3 "_law_any_name" ["_law_box_here", "_law_files"] (sp__law_any_name K) := by
  refine ct2 D sc__law_any_name fun f cdv A outer s H a_box_here a_files Q E hr h => ⟨_, (pss_cons (ps_parZ (i := 2) (j := 3) (by rfl) sc__law_any_name.nd rfl rfl (by decide) rfl rfl (pa_cons (pe_cl C__law_take (hr.mono (by decide)) pass0 (pa_cons (pz 0) (pa_cons pe_int pa_nil))) (pa_cons (pe_callB (k_sortS K) (by rfl) T.n_sorted bt_sorted (pa_cons (pe_callTy (c_listD rfl) (by rfl) T.n_list bt_list (pa_cons (pz 1) pa_nil)) pa_nil)) pa_nil)) (by rfl))
    (pss_cons (ps_if (PW.pt (pw_and (pt_cmpZ o_ltS (pz 2) pe_int (nomark _)) (pw_and1 (pt_cmpZ (k_ne K hr.units) (pz 3) (pe_lzS pa_nil) (nomark _))))) 
      (pss_one (ps_ret (pe_ix (k_ix K) (pz 3) (pe_cl C__law_take (hr.mono (by decide)) pass0 (pa_cons (pz 0) (pa_cons (pe_callB (k_len K) (by rfl) T.n_len bt_len (pa_cons (pz 3) pa_nil)) pa_nil))) (fun _ _ => rfl)))) pss_nil)
    (pss_cons (ps_if (pt_cmpZ o_ltS (pz 2) pe_int (nomark _)) 
      (pss_one (ps_ret (pe_ix (k_ix K) (pe_cl0 C__law_pool (hr.mono (by decide)) pass0) (pe_cl C__law_take (hr.mono (by decide)) pass0 (pa_cons (pz 0) (pa_cons pe_int pa_nil))) (fun _ _ => rfl)))) pss_nil)
    (pss_cons (ps_if (pt_cmpZ (k_eq K hr.units) (pz 2) pe_int (nomark _)) 
      (pss_one (ps_ret (pe_cl C__law_word (hr.mono (by decide)) pass0 (pa_cons (pz 0) (pa_cons (pe_cl0 C__law_signs (hr.mono (by decide)) pass0) (pa_cons pe_int pa_nil)))))) pss_nil)
    (pss_cons (ps_set (i := 4) sc__law_any_name.nd rfl (Or.inl rfl) (pe_cl C__law_word (hr.mono (by decide)) pass0 (pa_cons (pz 0) (pa_cons (pe_cl0 C__law_signs (hr.mono (by decide)) pass0) (pa_cons pe_int pa_nil)))))
    (pss_cons (ps_set (i := 5) sc__law_any_name.nd rfl (Or.inl rfl) (pe_cl C__law_take (hr.mono (by decide)) pass0 (pa_cons (pz 0) (pa_cons (pe_op (k_add K) (pe_callB (k_len K) (by rfl) T.n_len bt_len (pa_cons (pz 4) pa_nil)) pe_int) pa_nil))))
    (pss_cons (ps_if (pt_cmpZ (k_eq K hr.units) (pz 2) pe_int (nomark _)) 
      (pss_one (ps_ret (pe_op (k_add K) (pe_op (k_add K) (pe_slice (k_sl K) (pz 4) po_none (po_z (pz 5))) (pe_ix (k_ix K) pe_str (pe_cl C__law_take (hr.mono (by decide)) pass0 (pa_cons (pz 0) (pa_cons pe_int pa_nil))) (fun _ _ => rfl))) (pe_slice (k_sl K) (pz 4) (po_z (pz 5)) po_none)))) pss_nil)
    (pss_one (ps_ret (pe_ix (k_ix K) (pe_lzS (pa_cons pe_str (pa_cons pe_str (pa_cons pe_non (pa_cons pe_int (pa_cons pe_bl (pa_cons (pe_lzS (pa_cons pe_str pa_nil)) (pa_cons (pe_tz (pa_cons pe_str pa_nil)) (pa_cons (pe_callTy (k_dict K rfl) (by rfl) T.n_dict bt_dict (pa_cons (pe_lzS (pa_cons (pe_tz (pa_cons pe_str (pa_cons pe_int pa_nil))) pa_nil)) pa_nil)) (pa_cons pe_int (pa_cons pe_str pa_nil))))))))))) (pe_cl C__law_take (hr.mono (by decide)) pass0 (pa_cons (pz 0) (pa_cons pe_int pa_nil))) (fun _ _ => rfl))))))))))), ?_⟩
  obtain ⟨b, n, L, Δ, rfl, rfl, hB, hn, hL, hlen, hnm, q⟩ := h
  refine ⟨b, 10, n, rfl, rfl, by decide, by decide, hB, by omega, fun way H1 t1 B1 w0 w1 => ?_⟩
  obtain ⟨kvs, adr, hd, tb, _⟩ := id hL
  obtain ⟨_, _, _, _, hbx, _⟩ := id hB
  have hd1 := t1.at (ne_obj hd hbx (by simp)) hd
  refine ⟨kvs, hd1, fun pl H2 n2 => ?_⟩
  refine ⟨Δ.names, SqL.of (by rw [n2.here, tb.mem]), hlen, fun ys pk H3 pm so n3 => ?_⟩
  have s13 := n2.same.trans n3.same
  have B3 := B1.same s13
  have t13 := t1.trans (But.of s13)
  have ynm : ∀ j ∈ ys, nmS j = true := fun j hj => hnm j (pm.mem_iff.mp hj)
  have npb : pk ≠ b := (B1.ne (n2.same.free n3.fresh)).symm
  refine ite2 (fun hw => ?_) (fun hw => ?_)
  · have hw' : way < 4 := dT hw
    refine ⟨by show 0 ≤ sizeLine; decide, fun pe H4 n4 m4 => ?_⟩
    have hk4 : SqL K H4 pk (ys.map V.str) := SqL.of (n4.keep n3.here)
    obtain ⟨d, e, hd, he, sd, se, eq⟩ := ne_names (K := K) ynm hk4 (SqL.of n4.here)
    refine ⟨d, e, hd, he, sd, se, ?_⟩
    rw [eq]
    have B4 := B3.same n4.same
    cases ye : ys with
    | nil =>
      refine iteY (decide_eq_true (by omega : way < 7)) ?_
      refine ⟨rfl, fun pp H5 n5 => ?_⟩
      have np : pp ≠ b := (B4.ne n5.fresh).symm
      refine ⟨b, 12, n + 1, rfl, rfl, by decide, by decide, B4.same n5.same, by omega, fun r H6 t6 B6 r0 r1 => ?_⟩
      obtain ⟨nm, e, hn⟩ := pool_at r0 r1
      refine ⟨_, _, .inl (SqL.of (t6.at np n5.here)), e, ?_⟩
      exact q _ _ H6 (((t13.nw n4).nw n5).trans t6) (B6.mono (by omega)) (.nm hn) (nm_ok2 hn)
    | cons y r =>
      have yl : ys.length < 64 := by rw [pm.length_eq]; exact hlen
      refine .inl ⟨_, .inl hk4, ?_⟩
      rw [List.length_map]
      refine ⟨b, _, n + 1, rfl, rfl, by rw [ye]; show (0 : Int) < ((r.length + 1 : Nat) : Int); omega, by omega, B4, by omega, fun r H6 t6 B6 r0 r1 => ?_⟩
      obtain ⟨v, e1, e2, _⟩ := atI_some (xs := ys.map V.str) r0 (by rw [List.length_map]; exact r1)
      obtain ⟨nm, hm, rfl⟩ := List.mem_map.mp e2
      refine ⟨_, _, .inl (SqL.of (t6.at npb (n4.keep n3.here))), e1, ?_⟩
      exact q _ _ H6 ((t13.nw n4).trans t6) (B6.mono (by omega)) (.nm (ynm nm hm)) (nm_ok2 (ynm nm hm))
  refine iteF ?_
  refine ite2 (fun hw7 => ?_) (fun hw7 => ?_)
  · refine ⟨rfl, fun pp H5 n5 => ?_⟩
    have np : pp ≠ b := (B3.ne n5.fresh).symm
    refine ⟨b, 12, n + 1, rfl, rfl, by decide, by decide, B3.same n5.same, by omega, fun r H6 t6 B6 r0 r1 => ?_⟩
    obtain ⟨nm, e, hn⟩ := pool_at r0 r1
    refine ⟨_, _, .inl (SqL.of (t6.at np n5.here)), e, ?_⟩
    exact q _ _ H6 ((t13.nw n5).trans t6) (B6.mono (by omega)) (.nm hn) (nm_ok2 hn)
  refine ite2 (fun hw8 => ?_) (fun hw8 => ?_)
  · refine ⟨rfl, ?_⟩
    refine ⟨b, n + 1, _, 12, rfl, rfl, rfl, B3, by omega, by decide +kernel, by decide +kernel, by decide, by decide, fun l H4 t4 B4 l1 l2 lm => ?_⟩
    have g : nmS (S l) = true := nm_S lm l1 l2
    exact q _ _ H4 (t13.trans t4) (B4.mono (by omega)) (.nm g) (nm_ok2 g)
  refine ⟨rfl, ?_⟩
  refine ⟨b, n + 1, _, 6, rfl, rfl, rfl, B3, by omega, by decide +kernel, by decide +kernel, by decide, by decide, fun l H4 t4 B4 l1 l2 lm => ?_⟩
  have lm2 : ∀ c ∈ l, c < 128 := fun c hc => by have := alf_pr c (lm c hc); omega
  refine ⟨sz (by rw [length_S]; omega), ?_⟩
  rw [length_S]
  refine ⟨b, _, n + 31, rfl, rfl, by omega, by omega, B4, by omega, fun r H5 t5 B5 r0 r1 => ?_⟩
  obtain ⟨j, rfl⟩ : ∃ j : Nat, r = (j : Int) := ⟨r.toNat, by omega⟩
  refine ite2 (fun hw9 => ?_) (fun hw9 => ?_)
  · refine ⟨sz (by rw [length_S]; omega), ?_⟩
    rw [cut_n]
    refine ⟨b, 9, _, rfl, rfl, by decide, by decide, B5, by omega, fun i H6 t6 B6 i0 i1 => ?_⟩
    obtain ⟨c, e, hc⟩ := odd_marks i0 i1
    refine ⟨c, by decide, e, ?_⟩
    rw [show (⟨#[c]⟩ : Str) = S [c] from rfl]
    refine ⟨sz (by rw [length_S, length_S, List.length_take]; show _ + 1 ≤ _; omega), ?_⟩
    rw [S_cat]
    refine ⟨sz (by rw [length_S]; omega), ?_⟩
    rw [cut_from]
    refine ⟨sz (by rw [length_S, length_S, List.length_append, List.length_take, List.length_drop]; show _ + 1 + _ ≤ _; omega), ?_⟩
    rw [S_cat]
    have asc := put_asc (j := j) (c := c) lm2 hc
    have len := put_len (l := l) (j := j) (c := c)
    exact q _ _ H6 (((t13.trans t4).trans t5).trans t6) (B6.mono (by omega)) (.s asc (by omega)) (nm_ok asc (by omega))
  · refine ⟨by show 1 ≤ sizeLine; decide, fun a1 H6 n6 m6 => ?_⟩
    refine ⟨by show 1 ≤ sizeLine; decide, fun a2 H7 n7 => ?_⟩
    refine ⟨by show 2 ≤ sizeLine; decide, fun a0 H8 n8 => ?_⟩
    refine ⟨by show 1 ≤ sizeLine; decide, fun a9 H9 n9 m9 => ?_⟩
    refine .inl ⟨[a0], [(Sum.inr "a", .int 1)], SqL.of n9.here, .cons (SqT.of (n9.keep n8.here)) .nil, fun a3 H10 n10 => ?_⟩
    refine ⟨by show 10 ≤ sizeLine; decide, fun p H11 n11 m11 => ?_⟩
    have s1 := (n6.same.trans n7.same).trans n8.same
    have s2 := (s1.trans n9.same)
    have s3 := (s2.trans n10.same).trans n11.same
    have B11 := B5.same s3
    have np : p ≠ b := (B5.ne ((s2.trans n10.same).free n11.fresh)).symm
    refine ⟨b, 10, n + 32, rfl, rfl, by decide, by decide, B11, by omega, fun r H12 t12 B12 r0 r1 => ?_⟩
    obtain ⟨w, e, hw, _⟩ := atI_some (xs := [V.str "", .str "abcdefghijkl0", .non, .int 7, .bl true, .ref a1, .ref a2, .ref a3, .int 0, .str "Log-0001"]) (r := r) r0 (by show _ < 10; omega)
    refine ⟨_, w, .inl (SqL.of (t12.at np n11.here)), e, ?_⟩
    have tt := ((t13.trans t4).trans t5)
    have free : ∀ {a : Addr}, H5 a = none → H a = none := fun {a} z => by
      cases e : H a with
      | none => rfl
      | some o =>
        by_cases c : a = b
        · exact absurd z (by rw [c]; obtain ⟨o, h⟩ := B5.some; rw [h]; simp)
        · rw [tt.at c e] at z; cases z
    have far : ∀ {a : Addr}, H5 a = none → a ≠ b := fun {a} z e => by
      obtain ⟨o, h⟩ := B5.some
      rw [← e, z] at h
      cases h
    have f1 := n6.fresh
    have f2 := n6.same.free n7.fresh
    have f3 := s2.free n10.fresh
    have go : ∀ d, OddV H H12 w d → nmOk d = true → Q w H12 := fun d g k1 => q w d H12 ((tt.trans (But.of s3)).trans t12) (B12.mono (by omega)) g k1
    have k1 := t12.at (far f1) (n11.keep (n10.keep (n9.keep (n8.keep (n7.keep n6.here)))))
    have k2 := t12.at (far f2) (n11.keep (n10.keep (n9.keep (n8.keep n7.here))))
    have k3 := t12.at (far f3) (n11.keep n10.here)
    simp only [List.mem_cons, List.not_mem_nil, or_false] at hw
    rcases hw with rfl | rfl | rfl | rfl | rfl | rfl | rfl | rfl | rfl | rfl
    · exact go (.str "") (.flat (.str _) (by decide +kernel) rfl) (by decide +kernel)
    · exact go (.str "abcdefghijkl0") (.flat (.str _) (by decide +kernel) rfl) (by decide +kernel)
    · exact go .none (.flat .non (by decide +kernel) rfl) rfl
    · exact go (.int 7) (.flat (.int _) (by decide +kernel) rfl) rfl
    · exact go (.bool true) (.flat (.bl _) (by decide +kernel) rfl) rfl
    · exact go (.list [.str "a"]) ⟨.lst k1 (fun _ => m6) (.cons (.str _) .nil), by decide +kernel, fun p e => by cases e; exact free f1, fun ds e => by
        cases e
        exact ⟨by decide, fun d hd => by rw [List.mem_singleton.mp hd]; exact ⟨rfl, by decide +kernel⟩⟩⟩ rfl
    · exact go (.tuple [.str "a"]) ⟨.tup k2 (.cons (.str _) .nil), by decide +kernel, fun p e => by cases e; exact free f2, fun ds e => by cases e⟩ rfl
    · exact go (.dict [(.str "a", .int 1)]) ⟨.dic k3 (.cons (.int _) .nil), by decide +kernel, fun p e => by cases e; exact free f3, fun ds e => by cases e⟩ rfl
    · exact go (.int 0) (.flat (.int _) (by decide +kernel) rfl) rfl
    · exact go (.str "Log-0001") (.flat (.str _) (by decide +kernel) rfl) (by decide +kernel)

/-! ### _law_is_name(_law_thing), level 2 -/
abbrev s__law_is_name : Stmt := top 30
abbrev N__law_is_name : List Str := ["_law_thing", "_law_sign"]
theorem sc__law_is_name : FnScope N__law_is_name ["_law_thing"] (defScope s__law_is_name) := ⟨rfl, rfl, rfl, by decide +kernel, rfl, by decide +kernel, by decide +kernel⟩
theorem ok__law_is_name (T : Txt K mg e_InvalidName e_InvalidText e_NoFile e_QueueError e_Disk) (C__law_signs : Ct P w K mg base CX0 1 "_law_signs" [] (sp__law_signs K)) (D : Df K mg "_law_is_name" s__law_is_name ["_law_thing"]) : Ct P w K mg base CX0 2 "_law_is_name" ["_law_thing"] (sp__law_is_name K) := by
  refine ct1 D sc__law_is_name fun f cdv A outer s H a_thing Q E hr h => ⟨_, (pss_cons (ps_if (PW.pt (pw_or (pt_not (pt_trK K (pe_callB (k_isi K) (by rfl) T.n_isinstance bt_isinstance (pa_cons (pz 0) (pa_cons (pe_bltn (v := .ty "str") (by rfl) T.n_str bt_str rfl) pa_nil))))) (pw_or1 (pt_not (pt_chT o_le o_le pe_int (pe_callB (k_len K) (by rfl) T.n_len bt_len (pa_cons (pz 0) pa_nil)) pe_int))))) 
      (pss_one (ps_ret pe_bl)) pss_nil)
    (pss_one (ps_ret (pe_cmpR (k_eq K hr.units) (pe_lcz (own := [("_law_sign", 1)]) (by rfl) sc__law_is_name.nd (pi_sz (pz 0)) (blkOk_by (own := [("_law_sign", 1)]) (N := N__law_is_name) (sc := defScope s__law_is_name) (by decide +kernel)) (fun _ _ _ _ _ => (pg_name (i := 1) sc__law_is_name.nd rfl (Or.inl rfl))) (fun _ _ _ _ _ => (pts_one (pt_cmpZ (k_nin K) (pz 1) (pe_cl0 C__law_signs (hr.mono (by decide)) pass0) (by rfl)))) (fun _ _ _ _ _ => (pz 1))) (pe_lz pa_nil) (nomark _))))), ?_⟩
  obtain ⟨d, hd, ho, q⟩ := h
  refine ⟨by decide, kindD d, hd.kind, ?_⟩
  cases d with
  | str x =>
    obtain rfl := hd.str
    have hz := (Bool.and_eq_true _ _ ▸ ho : asciiS x = true ∧ _)
    have hx : x.length ≤ 30 := of_decide_eq_true hz.2
    have q : ∀ H2, Same H H2 → Q (.bl (nmS x)) H2 := q
    have hlen : x.length = x.cps.toList.length := by rw [Array.length_toList]; rfl
    refine ⟨sz (by omega), ?_⟩
    refine ite2 (fun h1 => ?_) (fun h1 => ?_)
    · have h1' : (1 : Int) ≤ x.length := dT h1
      refine ite2 (fun h2 => ?_) (fun h2 => ?_)
      · have h2' : ¬ (x.length : Int) ≤ 12 := nT h2
        have e : nmS x = false := by
          unfold nmS
          rw [decide_eq_false (p := x.length ≤ 12) (by omega), Bool.and_false]
          rfl
        rw [e] at q
        exact q H (Same.refl H)
      · have h2' : (x.length : Int) ≤ 12 := nF h2
        refine fun D hD => lc_w (wk_str x) (by rw [signsV_len]; omega) (fun i acc H3 => Same H H3 ∧ acc = ((x.cps.toList.take i).filter fun c => !inAlf c).map signV) (fun H3 n3 => ⟨n3.same, rfl⟩) (fun _ _ _ _ => trivial)
          (fun i acc H3 p => by rw [p.2, List.length_map]; exact Nat.le_trans (List.length_filter_le _ _) (by rw [List.length_take]; omega)) ?_ ?_
        · rintro i y acc H3 hx' hD3 ⟨s3, rfl⟩
          obtain ⟨c, hc, rfl⟩ := signsV_at hx'
          refine ⟨rfl, ?_⟩
          refine ⟨rfl, ?_⟩
          refine ⟨c, rfl, ?_⟩
          rw [show decide (c ∈ ("abcdefghijklmnopqrstuvwxyz0123456789-" : Str).cps.toList) = inAlf c from rfl, filter_step hc]
          cases e : inAlf c with
          | true => exact ⟨hD3, s3, by simp⟩
          | false => exact ⟨hD3, fun H5 w5 => ⟨s3.wr hD w5, by simp⟩⟩
        · rintro acc H3 _ hD3 ⟨s3, rfl⟩
          rw [signsV_len, hlen, List.take_length] at hD3
          have dg : (x.cps.toList.filter fun c => !inAlf c).isEmpty = x.cps.toList.all inAlf := filter_none _
          have lt : ∀ c ∈ x.cps.toList.filter (fun c => !inAlf c), c < 128 := fun c hc => lt_of_ascii hz.1 (List.mem_filter.mp hc).1
          generalize x.cps.toList.filter (fun c => !inAlf c) = bads at hD3 dg lt
          rw [signs_strs] at hD3
          refine ⟨Nat.zero_le _, fun p H4 n4 => ?_⟩
          refine ⟨_, _, dp_strs (SqL.of (n4.keep hD3)), dp_strs (ls := []) (SqL.of n4.here), shaped_asc lt, shaped_asc (cs := []) (fun _ z => by cases z), ?_⟩
          rw [eqv_strs_nil, dg]
          have e : nmS x = x.cps.toList.all inAlf := by
            unfold nmS
            rw [decide_eq_true (p := 1 ≤ x.length) (by omega), decide_eq_true (p := x.length ≤ 12) (by omega), Bool.and_self, Bool.true_and]
          rw [e] at q
          rw [← Bool.false_xor (x.cps.toList.all _)] at q
          exact q _ (s3.trans n4.same)
    · have h1' : ¬ (1 : Int) ≤ x.length := dF h1
      have e : nmS x = false := by
        unfold nmS
        rw [decide_eq_false (p := 1 ≤ x.length) (by omega)]
        rfl
      rw [e] at q
      exact q H (Same.refl H)
  | _ => exact q H (Same.refl H)

/-! ### _law_is_text(_law_thing), level 3 -/
abbrev s__law_is_text : Stmt := top 31
abbrev N__law_is_text : List Str := ["_law_thing", "_law_sign"]
theorem sc__law_is_text : FnScope N__law_is_text ["_law_thing"] (defScope s__law_is_text) := ⟨rfl, rfl, rfl, by decide +kernel, rfl, by decide +kernel, by decide +kernel⟩
theorem ok__law_is_text (T : Txt K mg e_InvalidName e_InvalidText e_NoFile e_QueueError e_Disk) (C__law_marks : Ct P w K mg base CX0 2 "_law_marks" [] (sp__law_marks K)) (D : Df K mg "_law_is_text" s__law_is_text ["_law_thing"]) : Ct P w K mg base CX0 3 "_law_is_text" ["_law_thing"] (sp__law_is_text K) := by
  refine ct1 D sc__law_is_text fun f cdv A outer s H a_thing Q E hr h => ⟨_, (pss_cons (ps_if (PW.pt (pw_or (pt_not (pt_trK K (pe_callB (k_isi K) (by rfl) T.n_isinstance bt_isinstance (pa_cons (pz 0) (pa_cons (pe_bltn (v := .ty "str") (by rfl) T.n_str bt_str rfl) pa_nil))))) (pw_or1 (pt_cmpZ (k_eq K hr.units) (pe_callB (k_len K) (by rfl) T.n_len bt_len (pa_cons (pz 0) pa_nil)) pe_int (nomark _))))) 
      (pss_one (ps_ret pe_bl)) pss_nil)
    (pss_one (ps_ret (pe_cmpR (k_eq K hr.units) (pe_lcz (own := [("_law_sign", 1)]) (by rfl) sc__law_is_text.nd (pi_sz (pz 0)) (blkOk_by (own := [("_law_sign", 1)]) (N := N__law_is_text) (sc := defScope s__law_is_text) (by decide +kernel)) (fun _ _ _ _ _ => (pg_name (i := 1) sc__law_is_text.nd rfl (Or.inl rfl))) (fun _ _ _ _ _ => (pts_one (pt_cmpZ (k_nin K) (pz 1) (pe_cl0 C__law_marks (hr.mono (by decide)) pass0) (by rfl)))) (fun _ _ _ _ _ => (pz 1))) (pe_lz pa_nil) (nomark _))))), ?_⟩
  obtain ⟨d, hd, ho, q⟩ := h
  refine ⟨by decide, kindD d, hd.kind, ?_⟩
  cases d with
  | str x =>
    obtain rfl := hd.str
    have hz := (Bool.and_eq_true _ _ ▸ (Bool.and_eq_true _ _ ▸ ho : _ ∧ _).1 : asciiS x = true ∧ _)
    have hx : x.length ≤ 30 := of_decide_eq_true hz.2
    have q : ∀ H2, Same H H2 → Q (.bl (mkS x)) H2 := q
    have hlen : x.length = x.cps.toList.length := by rw [Array.length_toList]; rfl
    refine ⟨sz (by omega), ?_⟩
    refine ite2 (fun h1 => ?_) (fun h1 => ?_)
    · have h1' : x.length = 0 := by
        have z : V.int (x.length : Int) = V.int 0 := of_decide_eq_true (by rw [Bool.false_xor] at h1; exact h1)
        have := V.int.inj z
        omega
      have e : mkS x = false := by
        unfold mkS
        rw [decide_eq_false (p := x.length ≠ 0) (by omega)]
        rfl
      rw [e] at q
      exact q H (Same.refl H)
    · have h1' : x.length ≠ 0 := fun z => h1 (by rw [z]; rfl)
      refine fun D hD => lc_w (wk_str x) (by rw [signsV_len]; omega) (fun i acc H3 => Same H H3 ∧ acc = ((x.cps.toList.take i).filter fun c => !inMrk c).map signV) (fun H3 n3 => ⟨n3.same, rfl⟩) (fun _ _ _ _ => trivial)
          (fun i acc H3 p => by rw [p.2, List.length_map]; exact Nat.le_trans (List.length_filter_le _ _) (by rw [List.length_take]; omega)) ?_ ?_
      · rintro i y acc H3 hx' hD3 ⟨s3, rfl⟩
        obtain ⟨c, hc, rfl⟩ := signsV_at hx'
        refine ⟨rfl, ?_⟩
        refine ⟨rfl, ?_⟩
        refine ⟨c, rfl, ?_⟩
        rw [cps_S, show decide (c ∈ mrk) = inMrk c from rfl, filter_step hc]
        cases e : inMrk c with
        | true => exact ⟨hD3, s3, by simp⟩
        | false => exact ⟨hD3, fun H5 w5 => ⟨s3.wr hD w5, by simp⟩⟩
      · rintro acc H3 _ hD3 ⟨s3, rfl⟩
        rw [signsV_len, hlen, List.take_length] at hD3
        have dg : (x.cps.toList.filter fun c => !inMrk c).isEmpty = x.cps.toList.all inMrk := filter_none _
        have lt : ∀ c ∈ x.cps.toList.filter (fun c => !inMrk c), c < 128 := fun c hc => lt_of_ascii hz.1 (List.mem_filter.mp hc).1
        generalize x.cps.toList.filter (fun c => !inMrk c) = bads at hD3 dg lt
        rw [signs_strs] at hD3
        refine ⟨Nat.zero_le _, fun p H4 n4 => ?_⟩
        refine ⟨_, _, dp_strs (SqL.of (n4.keep hD3)), dp_strs (ls := []) (SqL.of n4.here), shaped_asc lt, shaped_asc (cs := []) (fun _ z => by cases z), ?_⟩
        rw [eqv_strs_nil, dg]
        have e : mkS x = x.cps.toList.all inMrk := by
          unfold mkS
          rw [decide_eq_true (p := x.length ≠ 0) h1', Bool.true_and]
        rw [e] at q
        rw [← Bool.false_xor (x.cps.toList.all _)] at q
        exact q _ (s3.trans n4.same)
  | _ => exact q H (Same.refl H)

/-! ### _law_due(_law_files, _law_counts, _law_way, _law_name, _law_text), level 4 -/
abbrev s__law_due : Stmt := top 32
abbrev N__law_due : List Str := ["_law_files", "_law_counts", "_law_way", "_law_name", "_law_text", "_law_old"]
theorem sc__law_due : FnScope N__law_due ["_law_files", "_law_counts", "_law_way", "_law_name", "_law_text"] (defScope s__law_due) := ⟨rfl, rfl, rfl, by decide +kernel, rfl, by decide +kernel, by decide +kernel⟩
theorem ok__law_due (T : Txt K mg e_InvalidName e_InvalidText e_NoFile e_QueueError e_Disk) (C__law_is_name : Ct P w K mg base CX0 2 "_law_is_name" ["_law_thing"] (sp__law_is_name K)) (C__law_is_text : Ct P w K mg base CX0 3 "_law_is_text" ["_law_thing"] (sp__law_is_text K)) (D : Df K mg "_law_due" s__law_due ["_law_files", "_law_counts", "_law_way", "_law_name", "_law_text"]) : Ct P w K mg base CX0 4 "_law_due" ["_law_files", "_law_counts", "_law_way", "_law_name", "_law_text"] (sp__law_due K) := by
  refine ct5 D sc__law_due fun f cdv A outer s H a_files a_counts a_way a_name a_text Q E hr h => ⟨_, (pss_cons (ps_if (pt_not (pt_trK K (pe_cl C__law_is_name (hr.mono (by decide)) pass0 (pa_cons (pz 3) pa_nil)))) 
      (pss_one (ps_ret (pe_lzS (pa_cons pe_str (pa_cons (pz 3) pa_nil))))) pss_nil)
    (pss_cons (ps_if (PW.pt (pw_and (pt_cmpZ o_ltS (pz 2) pe_int (nomark _)) (pw_and1 (pt_not (pt_trK K (pe_cl C__law_is_text (hr.mono (by decide)) pass0 (pa_cons (pz 4) pa_nil))))))) 
      (pss_one (ps_ret (pe_lzS (pa_cons pe_str (pa_cons (pz 4) pa_nil))))) pss_nil)
    (pss_cons (ps_if (PW.pt (pw_and (pt_cmpZ o_ge (pz 2) pe_int (nomark _)) (pw_and1 (pt_cmpZ (o_ninZ (hu_of hr)) (pz 3) (pz 0) (by rfl))))) 
      (pss_one (ps_ret (pe_lzS (pa_cons pe_str (pa_cons (pz 3) pa_nil))))) pss_nil)
    (pss_cons (ps_if (pt_cmpZ o_ltS (pz 2) pe_int (nomark _)) 
      (pss_cons (ps_set (i := 5) sc__law_due.nd rfl (Or.inl rfl) (pe_dg2 (hu_of hr) (pz 0) (pz 3) (pe_lzS (pa_cons pe_str (pa_cons pe_int pa_nil))) ⟨rfl, rfl, rfl, rfl⟩))
      (pss_one (ps_asg (pe_lzS (pa_cons (pe_op (k_add K) (pe_ix (k_ix K) (pz 5) pe_int (fun _ _ => rfl)) (pz 4)) (pa_cons (pe_ix (k_ix K) (pz 5) pe_int (fun _ _ => rfl)) pa_nil))) (pg_sub (pz 0) (pz 3) (s_dict (hu_of hr)))))) pss_nil)
    (pss_cons (ps_if (pt_cmpZ (k_in K) (pz 2) (pe_lzS (pa_cons pe_int (pa_cons pe_int pa_nil))) (by rfl)) 
      (pss_one (ps_asg (pe_lzS (pa_cons (pe_ix (k_ix K) (pe_dg (hu_of hr) (pz 0) (pz 3) (fun _ _ => rfl)) pe_int (fun _ _ => rfl)) (pa_cons (pe_callB (k_len K) (by rfl) T.n_len bt_len (pa_cons (pe_ix (k_ix K) (pe_dg (hu_of hr) (pz 0) (pz 3) (fun _ _ => rfl)) pe_int (fun _ _ => rfl)) pa_nil)) pa_nil))) (pg_sub (pz 0) (pz 3) (s_dict (hu_of hr))))) pss_nil)
    (pss_cons (ps_if (pt_cmpZ (k_in K) (pz 2) (pe_lzS (pa_cons pe_int (pa_cons pe_int pa_nil))) (by rfl)) 
      (pss_one (ps_expr (pe_dpop1 (pz 0) (pz 3) ⟨rfl, rfl, rfl, rfl⟩))) pss_nil)
    (pss_cons (ps_asg (pe_op (k_add K) (pe_ix (k_ix K) (pz 1) pe_int (fun _ _ => rfl)) (pe_callTy c_int (by rfl) T.n_int bt_int (pa_cons (pe_cmpR o_ltS (pz 2) pe_int (nomark _)) pa_nil))) (pg_sub (pz 1) pe_int s_list))
    (pss_cons (ps_if (pt_cmpZ o_ltS (pz 2) pe_int (nomark _)) 
      (pss_one (ps_ret (pe_lzS (pa_cons pe_str (pa_cons pe_non pa_nil))))) pss_nil)
    (pss_one (ps_ret (pe_lzS (pa_cons pe_str (pa_cons (pe_ix (k_ix K) (pe_dg (hu_of hr) (pz 0) (pz 3) (fun _ _ => rfl)) (pe_callTy c_int (by rfl) T.n_int bt_int (pa_cons (pe_cmpR o_ge (pz 2) pe_int (nomark _)) pa_nil)) (fun _ _ => rfl)) pa_nil))))))))))))), ?_⟩
  obtain ⟨L, cc, Δ, c, i, k, rfl, rfl, rfl, i0, i9, hL, hcc, hk, k1, h⟩ := h
  obtain ⟨kvs, adr, hd, tb, hp⟩ := id hL
  rcases h with ⟨⟨d, vd, ho, hb⟩, q⟩ | ⟨hi, n, rfl, hn, ⟨e, vt, hte, hbe⟩, q⟩ | ⟨hi, n, rfl, hn, hni, q⟩ | ⟨n, t, rfl, hn, ht, hni, q⟩
  · refine ⟨d, vd, ho, fun H2 s2 => ?_⟩
    rw [hb]
    refine ⟨by show 2 ≤ sizeLine; decide, fun p H3 n3 m3 => ?_⟩
    exact q p H3 (s2.trans n3.same) (s2.free n3.fresh) m3 n3.here
  · refine ⟨.str n, vd_str n, nm_ok2 hn, fun H2 s2 => ?_⟩
    rw [show nmD (.str n) = true from hn]
    walk_at "past"
    refine iteY (decide_eq_true hi) ?_
    refine ⟨e, vt.same s2, hte, fun H3 s3 => ?_⟩
    rw [hbe]
    refine ⟨by show 2 ≤ sizeLine; decide, fun p H4 n4 m4 => ?_⟩
    exact q p H4 ((s2.trans s3).trans n4.same) ((s2.trans s3).free n4.fresh) m4 n4.here
  · refine ⟨.str n, vd_str n, nm_ok2 hn, fun H2 s2 => ?_⟩
    rw [show nmD (.str n) = true from hn]
    walk_at "past"
    refine iteN (decide_eq_false (by omega)) ?_
    refine iteF ?_
    refine iteY (decide_eq_true hi) ?_
    refine ⟨kvs, Sum.inr n, s2 _ _ hd, rfl, ?_⟩
    rw [tb.no hni]
    refine ⟨by show 2 ≤ sizeLine; decide, fun p H4 n4 m4 => ?_⟩
    exact q p H4 (s2.trans n4.same) (s2.free n4.fresh) m4 n4.here
  · refine ⟨.str n, vd_str n, nm_ok2 hn, fun H2 s2 => ?_⟩
    rw [show nmD (.str n) = true from hn]
    walk_at "past"
    have nLc : L ≠ cc := ne_obj hd hcc (by simp)
    by_cases hi : i < 2
    · obtain ⟨rfl, hm, hto⟩ := ht hi
      refine iteY (decide_eq_true hi) ?_
      refine ⟨.str t, vd_str t, hto, fun H3 s3 => ?_⟩
      rw [show txD (.str t) = true from hm]
      walk_at "past"
      refine iteN (decide_eq_false (by omega)) ?_
      refine iteF ?_
      refine iteY (decide_eq_true hi) ?_
      have s03 := s2.trans s3
      refine ⟨⟨_, s03 _ _ hd⟩, ?_⟩
      refine ⟨by show 2 ≤ sizeLine; decide, fun pz H4 n4 m4 => ?_⟩
      have s04 := s03.trans n4.same
      refine ⟨kvs, Sum.inr n, s04 _ _ hd, rfl, ?_⟩
      obtain ⟨po, hpo, ho⟩ : ∃ po, (valV kvs (Sum.inr n)).getD (V.ref pz) = .ref po ∧ H4 po = some (.lst [.str (Δ.tx n), .int (Δ.mt n : Nat)]) := by
        by_cases z : n ∈ Δ.names
        · exact ⟨adr n, by rw [tb.at z]; rfl, by rw [Ds.tx_in z, Ds.mt_in z]; exact s04 _ _ (hp n z)⟩
        · refine ⟨pz, by rw [tb.no z]; rfl, ?_⟩
          rw [n4.here]
          unfold Ds.tx Ds.mt
          rw [if_neg z, if_neg z]
          rfl
      rw [hpo]
      have lt : (Δ.tx n).length ≤ 30 * k := by
        unfold Ds.tx
        split
        · exact hk.tx n (by assumption)
        · exact Nat.zero_le _
      have lt2 : t.length ≤ 30 := by
        have hto : (asciiS t && decide (t.length ≤ 30) && _) = true := hto
        rw [Bool.and_eq_true, Bool.and_eq_true] at hto
        exact of_decide_eq_true hto.1.2
      refine ⟨_, _, .inl (SqL.of ho), rfl, ?_⟩
      refine ⟨sz (by omega), ?_⟩
      refine ⟨_, _, .inl (SqL.of ho), rfl, ?_⟩
      refine ⟨by show 2 ≤ sizeLine; decide, fun pn H5 n5 m5 => ?_⟩
      have s05 := s04.trans n5.same
      refine ⟨kvs, Sum.inr n, s05 _ _ hd, rfl, szlt (by rw [tb.len]; have := hk.len; omega), fun H6 w6 => ?_⟩
      refine ⟨by show 2 ≤ sizeLine; decide, fun p23 H7 n7 m7 => ?_⟩
      refine ⟨_, .inl (SqL.of n7.here), rfl, rfl, ?_⟩
      refine iteN (in2N (by omega) (by omega)) ?_
      refine ⟨by show 2 ≤ sizeLine; decide, fun p45 H8 n8 m8 => ?_⟩
      refine ⟨_, .inl (SqL.of n8.here), rfl, rfl, ?_⟩
      refine iteN (in2N (by omega) (by omega)) ?_
      have nLc2 : cc ≠ L := fun z => nLc z.symm
      have c8 := n8.keep (n7.keep (w6.keep nLc2 (s05 _ _ hcc)))
      refine ⟨_, _, .inl (SqL.of c8), rfl, ?_⟩
      refine ⟨_, 0, c8, rfl, fun H9 w9 => ?_⟩
      refine iteY (decide_eq_true (by omega)) ?_
      refine ⟨by show 2 ≤ sizeLine; decide, fun p H10 n10 m10 => ?_⟩
      have kp : Kp [L, cc] H H9 := Kp.wr (((Kp.wr (Kp.same s05) (by simp) w6).nw n7).nw n8) (by simp) w9
      have fr : ∀ {q : Addr}, H9 q = none → H q = none := fun {q} z => by
        cases e : H q with
        | none => rfl
        | some o =>
          by_cases c1 : q = L
          · rw [c1, w9.keep nLc (n8.keep (n7.keep w6.here))] at z; cases z
          · by_cases c2 : q = cc
            · rw [c2, w9.here] at z; cases z
            · rw [kp.at (by simp [c1, c2]) e] at z; cases z
      have pnL : pn ≠ L := fun z => by have := s04 _ _ hd; rw [← z, n5.fresh] at this; cases this
      have pnc : pn ≠ cc := fun z => by have := s04 _ _ hcc; rw [← z, n5.fresh] at this; cases this
      have eA : act i Δ n t = Δ.put n (Δ.tx n ++ t) (Δ.mt n) := if_pos hi
      have eT : tell i Δ n = .non := if_pos (by omega)
      have eO : one i = 1 := if_pos (by omega)
      have k6 : decide (i < 6) = true := decide_eq_true (by omega)
      rw [eA, eT, eO] at q
      refine q p H10 (kp.nw n10) (fr n10.fresh) m10 (LawAt.same ?_ n10.same) (n10.keep ?_) n10.here
      · refine lawPut tb (fun j hj => kp.at ?_ (hp j hj)) (w9.keep nLc (n8.keep (n7.keep w6.here))) (w9.keep pnc (n8.keep (n7.keep (w6.keep pnL n5.here))))
        have c1 := ne_obj (hp j hj) hd (by simp)
        have c2 := ne_obj (hp j hj) hcc (by simp)
        simp [c1, c2]
      · rw [w9.here]
        simp [k6]
    · have hin := hni (by omega)
      refine iteN (decide_eq_false hi) ?_
      refine iteF ?_
      refine iteY (decide_eq_true (by omega)) ?_
      refine ⟨kvs, Sum.inr n, s2 _ _ hd, rfl, ?_⟩
      rw [tb.has, decide_eq_true hin]
      refine zB_bl ?_
      dsimp only
      rw [if_neg (show ¬ (true ^^ true) = true by decide)]
      refine iteN (decide_eq_false hi) ?_
      have nLc2 : cc ≠ L := fun z => nLc z.symm
      rcases (by omega : (i = 2 ∨ i = 3) ∨ (i = 4 ∨ i = 5) ∨ (i = 6 ∨ i = 7) ∨ (i = 8 ∨ i = 9)) with hs | hs | hs | hs
      · refine ⟨by show 2 ≤ sizeLine; decide, fun p23 H3 n3 m3 => ?_⟩
        refine ⟨_, .inl (SqL.of n3.here), rfl, rfl, ?_⟩
        have s3 := s2.trans n3.same
        refine iteY (in2Y hs) ?_
        refine ⟨⟨_, s3 _ _ hd⟩, ?_⟩
        refine ⟨kvs, Sum.inr n, _, s3 _ _ hd, rfl, tb.at hin, ?_⟩
        refine ⟨_, _, .inl (SqL.of (s3 _ _ (hp n hin))), rfl, ?_⟩
        refine ⟨⟨_, s3 _ _ hd⟩, ?_⟩
        refine ⟨kvs, Sum.inr n, _, s3 _ _ hd, rfl, tb.at hin, ?_⟩
        refine ⟨_, _, .inl (SqL.of (s3 _ _ (hp n hin))), rfl, ?_⟩
        refine ⟨sz (by have := hk.tx n hin; omega), ?_⟩
        refine ⟨by show 2 ≤ sizeLine; decide, fun pn H5 n5 m5 => ?_⟩
        have s05 := s3.trans n5.same
        refine ⟨kvs, Sum.inr n, s05 _ _ hd, rfl, szlt (by rw [tb.len]; have := hk.len; omega), fun H6 w6 => ?_⟩
        refine ⟨by show 2 ≤ sizeLine; decide, fun p45 H8 n8 m8 => ?_⟩
        refine ⟨_, .inl (SqL.of n8.here), rfl, rfl, ?_⟩
        refine iteN (in2N (by omega) (by omega)) ?_
        have c8 := n8.keep (w6.keep nLc2 (s05 _ _ hcc))
        refine ⟨_, _, .inl (SqL.of c8), rfl, ?_⟩
        refine ⟨_, 0, c8, rfl, fun H9 w9 => ?_⟩
        refine iteY (decide_eq_true (by omega)) ?_
        refine ⟨by show 2 ≤ sizeLine; decide, fun p H10 n10 m10 => ?_⟩
        have kp : Kp [L, cc] H H9 := Kp.wr ((Kp.wr (Kp.same s05) (by simp) w6).nw n8) (by simp) w9
        have hL9 := w9.keep nLc (n8.keep w6.here)
        have pnL : pn ≠ L := fun z => by have := s3 _ _ hd; rw [← z, n5.fresh] at this; cases this
        have pnc : pn ≠ cc := fun z => by have := s3 _ _ hcc; rw [← z, n5.fresh] at this; cases this
        have eA : act i Δ n t = Δ.put n (Δ.txt n) (Δ.txt n).length := by unfold act; rw [if_neg hi, if_pos (by omega)]
        have eT : tell i Δ n = .non := if_pos (by omega)
        have eO : one i = 1 := if_pos (by omega)
        have k6 : decide (i < 6) = true := decide_eq_true (by omega)
        have res : LawAt H9 L (Δ.put n (Δ.txt n) (Δ.txt n).length) := lawPut tb (fun j hj => kp.at (by simp [ne_obj (hp j hj) hd (by simp), ne_obj (hp j hj) hcc (by simp)]) (hp j hj)) hL9 (w9.keep pnc (n8.keep (w6.keep pnL n5.here)))
        have fr : ∀ {q : Addr}, H9 q = none → H q = none := fun {q} z => by
          cases e : H q with
          | none => rfl
          | some o =>
            by_cases c1 : q = L
            · rw [c1, hL9] at z; cases z
            · by_cases c2 : q = cc
              · rw [c2, w9.here] at z; cases z
              · rw [kp.at (by simp [c1, c2]) e] at z; cases z
        rw [eA, eT, eO] at q
        refine q p H10 (kp.nw n10) (fr n10.fresh) m10 (LawAt.same res n10.same) (n10.keep ?_) n10.here
        rw [w9.here]
        simp [k6]
      · refine ⟨by show 2 ≤ sizeLine; decide, fun p23 H3 n3 m3 => ?_⟩
        refine ⟨_, .inl (SqL.of n3.here), rfl, rfl, ?_⟩
        have s3 := s2.trans n3.same
        refine iteN (in2N (by omega) (by omega)) ?_
        refine ⟨by show 2 ≤ sizeLine; decide, fun p45 H4 n4 m4 => ?_⟩
        refine ⟨_, .inl (SqL.of n4.here), rfl, rfl, ?_⟩
        have s4 := s3.trans n4.same
        refine iteY (in2Y hs) ?_
        refine ⟨L, rfl, .inl ⟨kvs, .inl (s4 _ _ hd)⟩, ?_⟩
        refine ⟨kvs, Sum.inr n, _, s4 _ _ hd, rfl, tb.at hin, ?_⟩
        have w6 : Wr H4 L (.dK (dropK kvs (Sum.inr n))) (upd H4 L (.dK (dropK kvs (Sum.inr n)))) := wr
        generalize upd H4 L (.dK (dropK kvs (Sum.inr n))) = H6 at w6
        have c8 := w6.keep nLc2 (s4 _ _ hcc)
        refine ⟨_, _, .inl (SqL.of c8), rfl, ?_⟩
        refine ⟨_, 0, c8, rfl, fun H9 w9 => ?_⟩
        refine iteY (decide_eq_true (by omega)) ?_
        refine ⟨by show 2 ≤ sizeLine; decide, fun p H10 n10 m10 => ?_⟩
        have kp : Kp [L, cc] H H9 := Kp.wr (Kp.wr (Kp.same s4) (by simp) w6) (by simp) w9
        have hL9 := w9.keep nLc w6.here
        have eA : act i Δ n t = Δ.drop n := by unfold act; rw [if_neg hi, if_neg (by omega), if_pos (by omega)]
        have eT : tell i Δ n = .non := if_pos (by omega)
        have eO : one i = 1 := if_pos (by omega)
        have k6 : decide (i < 6) = true := decide_eq_true (by omega)
        have res : LawAt H9 L (Δ.drop n) := lawDrop tb (fun j hj => kp.at (by simp [ne_obj (hp j hj) hd (by simp), ne_obj (hp j hj) hcc (by simp)]) (hp j hj)) hL9
        have fr : ∀ {q : Addr}, H9 q = none → H q = none := fun {q} z => by
          cases e : H q with
          | none => rfl
          | some o =>
            by_cases c1 : q = L
            · rw [c1, hL9] at z; cases z
            · by_cases c2 : q = cc
              · rw [c2, w9.here] at z; cases z
              · rw [kp.at (by simp [c1, c2]) e] at z; cases z
        rw [eA, eT, eO] at q
        refine q p H10 (kp.nw n10) (fr n10.fresh) m10 (LawAt.same res n10.same) (n10.keep ?_) n10.here
        rw [w9.here]
        simp [k6]
      · refine ⟨by show 2 ≤ sizeLine; decide, fun p23 H3 n3 m3 => ?_⟩
        refine ⟨_, .inl (SqL.of n3.here), rfl, rfl, ?_⟩
        have s3 := s2.trans n3.same
        refine iteN (in2N (by omega) (by omega)) ?_
        refine ⟨by show 2 ≤ sizeLine; decide, fun p45 H4 n4 m4 => ?_⟩
        refine ⟨_, .inl (SqL.of n4.here), rfl, rfl, ?_⟩
        have s4 := s3.trans n4.same
        refine iteN (in2N (by omega) (by omega)) ?_
        have c8 := s4 _ _ hcc
        refine ⟨_, _, .inl (SqL.of c8), rfl, ?_⟩
        refine ⟨_, 0, c8, rfl, fun H9 w9 => ?_⟩
        refine iteN (decide_eq_false (by omega)) ?_
        have kp : Kp [L, cc] H H9 := Kp.wr (Kp.same s4) (by simp) w9
        have hL9 := w9.keep nLc (s4 _ _ hd)
        have hp9 : ∀ j ∈ Δ.names, H9 (adr j) = some (.lst [.str (Δ.txt j), .int (Δ.sy j : Nat)]) := fun j hj => kp.at (by simp [ne_obj (hp j hj) hd (by simp), ne_obj (hp j hj) hcc (by simp)]) (hp j hj)
        refine ⟨⟨_, hL9⟩, ?_⟩
        refine ⟨kvs, Sum.inr n, _, hL9, rfl, tb.at hin, ?_⟩
        have k8 : decide (8 ≤ i) = false := decide_eq_false (by omega)
        refine ⟨_, V.str (Δ.txt n), .inl (SqL.of (hp9 n hin)), by rw [k8]; rfl, ?_⟩
        have eT : tell i Δ n = .str (Δ.txt n) := by unfold tell; rw [if_neg (by omega), if_pos (by omega)]
        refine ⟨by show 2 ≤ sizeLine; decide, fun p H10 n10 m10 => ?_⟩
        have eA : act i Δ n t = Δ := by unfold act; rw [if_neg hi, if_neg (by omega), if_neg (by omega)]
        have eO : one i = 0 := if_neg (by omega)
        have k6 : decide (i < 6) = false := decide_eq_false (by omega)
        have res : LawAt H9 L Δ := ⟨kvs, adr, hL9, tb, hp9⟩
        have fr : ∀ {q : Addr}, H9 q = none → H q = none := fun {q} z => by
          cases e : H q with
          | none => rfl
          | some o =>
            by_cases c1 : q = L
            · rw [c1, hL9] at z; cases z
            · by_cases c2 : q = cc
              · rw [c2, w9.here] at z; cases z
              · rw [kp.at (by simp [c1, c2]) e] at z; cases z
        rw [eA, eT, eO] at q
        refine q p H10 (kp.nw n10) (fr n10.fresh) m10 (LawAt.same res n10.same) (n10.keep ?_) n10.here
        rw [w9.here]
        simp [k6]
      · refine ⟨by show 2 ≤ sizeLine; decide, fun p23 H3 n3 m3 => ?_⟩
        refine ⟨_, .inl (SqL.of n3.here), rfl, rfl, ?_⟩
        have s3 := s2.trans n3.same
        refine iteN (in2N (by omega) (by omega)) ?_
        refine ⟨by show 2 ≤ sizeLine; decide, fun p45 H4 n4 m4 => ?_⟩
        refine ⟨_, .inl (SqL.of n4.here), rfl, rfl, ?_⟩
        have s4 := s3.trans n4.same
        refine iteN (in2N (by omega) (by omega)) ?_
        have c8 := s4 _ _ hcc
        refine ⟨_, _, .inl (SqL.of c8), rfl, ?_⟩
        refine ⟨_, 0, c8, rfl, fun H9 w9 => ?_⟩
        refine iteN (decide_eq_false (by omega)) ?_
        have kp : Kp [L, cc] H H9 := Kp.wr (Kp.same s4) (by simp) w9
        have hL9 := w9.keep nLc (s4 _ _ hd)
        have hp9 : ∀ j ∈ Δ.names, H9 (adr j) = some (.lst [.str (Δ.txt j), .int (Δ.sy j : Nat)]) := fun j hj => kp.at (by simp [ne_obj (hp j hj) hd (by simp), ne_obj (hp j hj) hcc (by simp)]) (hp j hj)
        refine ⟨⟨_, hL9⟩, ?_⟩
        refine ⟨kvs, Sum.inr n, _, hL9, rfl, tb.at hin, ?_⟩
        have k8 : decide (8 ≤ i) = true := decide_eq_true (by omega)
        refine ⟨_, V.int (Δ.sy n : Nat), .inl (SqL.of (hp9 n hin)), by rw [k8]; rfl, ?_⟩
        have eT : tell i Δ n = .int (Δ.sy n : Nat) := by unfold tell; rw [if_neg (by omega), if_neg (by omega)]
        refine ⟨by show 2 ≤ sizeLine; decide, fun p H10 n10 m10 => ?_⟩
        have eA : act i Δ n t = Δ := by unfold act; rw [if_neg hi, if_neg (by omega), if_neg (by omega)]
        have eO : one i = 0 := if_neg (by omega)
        have k6 : decide (i < 6) = false := decide_eq_false (by omega)
        have res : LawAt H9 L Δ := ⟨kvs, adr, hL9, tb, hp9⟩
        have fr : ∀ {q : Addr}, H9 q = none → H q = none := fun {q} z => by
          cases e : H q with
          | none => rfl
          | some o =>
            by_cases c1 : q = L
            · rw [c1, hL9] at z; cases z
            · by_cases c2 : q = cc
              · rw [c2, w9.here] at z; cases z
              · rw [kp.at (by simp [c1, c2]) e] at z; cases z
        rw [eA, eT, eO] at q
        refine q p H10 (kp.nw n10) (fr n10.fresh) m10 (LawAt.same res n10.same) (n10.keep ?_) n10.here
        rw [w9.here]
        simp [k6]

/-! ### _law_same(_law_told_here, _law_due_here), level 1 -/
abbrev s__law_same : Stmt := top 34
abbrev N__law_same : List Str := ["_law_told_here", "_law_due_here", "_law_handed"]
theorem sc__law_same : FnScope N__law_same ["_law_told_here", "_law_due_here"] (defScope s__law_same) := ⟨rfl, rfl, rfl, by decide +kernel, rfl, by decide +kernel, by decide +kernel⟩
theorem ok__law_same (T : Txt K mg e_InvalidName e_InvalidText e_NoFile e_QueueError e_Disk) (D : Df K mg "_law_same" s__law_same ["_law_told_here", "_law_due_here"]) : Cg P w K mg base CX0 1 "_law_same" ["_law_told_here", "_law_due_here"] (sp__law_same K) := by
  refine cg2 D sc__law_same fun f cdv A outer s H a_told_here a_due_here Q E hr h => ⟨_, (pss_cons (ps_if (pt_cmpZ (k_ne K hr.room.units) (pe_callB (c_repr hr) (by rfl) T.n_repr bt_repr (pa_cons (pz 0) pa_nil)) (pe_callB (c_repr hr) (by rfl) T.n_repr bt_repr (pa_cons (pz 1) pa_nil)) (nomark _)) 
      (pss_one (ps_ret pe_bl)) pss_nil)
    (pss_cons (ps_if (PW.pt (pw_or (pt_cmpZ (k_eq K hr.room.units) (pe_ix (k_ix K) (pz 1) pe_int (fun _ _ => rfl)) pe_str (nomark _)) (pw_or1 (pt_not (pt_trK K (pe_callB (k_isi K) (by rfl) T.n_isinstance bt_isinstance (pa_cons (pe_ix (k_ix K) (pz 1) pe_int (fun _ _ => rfl)) (pa_cons (pe_bltn (v := .ty "list") (by rfl) T.n_list bt_list rfl) pa_nil)))))))) 
      (pss_one (ps_ret pe_bl)) pss_nil)
    (pss_cons (ps_set (i := 2) sc__law_same.nd rfl (Or.inl rfl) (pe_ix (k_ix K) (pz 1) pe_int (fun _ _ => rfl)))
    (pss_cons (ps_expr (pe_mlK K PySem.F.slot_list_append PySem.F.type_list_append m_append (pz 2) (pa_cons pe_str pa_nil)))
    (pss_one (ps_ret (pe_cmpR (k_eq K hr.room.units) (pe_callB (c_repr hr) (by rfl) T.n_repr bt_repr (pa_cons (pz 0) pa_nil)) (pe_callB (c_repr hr) (by rfl) T.n_repr bt_repr (pa_cons (pz 1) pa_nil)) (nomark _)))))))), ?_⟩
  obtain ⟨pt, pd, w, v, d, rfl, rfl, ht, hd, mt, md, hw, dz, sw, h⟩ := h
  obtain ⟨c1, c2, c3⟩ := sw2 hw sw
  refine ⟨true, _, dz2 ht mt dz, fun _ => rfl, c1, c2, c3, ?_⟩
  refine ⟨true, _, dz2 hd md dz, fun _ => rfl, c1, c2, c3, ?_⟩
  refine iteN (nself _) ?_
  refine ⟨_, _, .inl (SqL.of hd), rfl, ?_⟩
  rcases h with ⟨hwt, q⟩ | ⟨hne, hk, q⟩ | ⟨hne, b, ds, rfl, rfl, hat, hsw, hl, nb1, nb2, q⟩
  · refine iteY (show (false ^^ decide (V.str w = V.str "told")) = true by rw [hwt, decide_eq_true rfl]; rfl) ?_
    exact q
  · refine iteN (show (false ^^ decide (V.str w = V.str "told")) = false by rw [Bool.false_xor]; exact decide_eq_false fun z => hne (V.str.inj z)) ?_
    refine ⟨_, _, .inl (SqL.of hd), rfl, ?_⟩
    refine ⟨by decide, kindD d, Dz.kind dz, ?_⟩
    rw [hk]
    refine zTr_bl ?_
    dsimp only
    rw [if_pos (show (!false) = true by decide)]
    exact q
  · refine iteN (show (false ^^ decide (V.str w = V.str "told")) = false by rw [Bool.false_xor]; exact decide_eq_false fun z => hne (V.str.inj z)) ?_
    refine ⟨_, _, .inl (SqL.of hd), rfl, ?_⟩
    refine ⟨by decide, _, Dz.kind dz, ?_⟩
    rw [show isK (kindD (PyData.list ds)) "list" = true from isK_list]
    walk_at "past"
    refine ⟨_, _, .inl (SqL.of hd), rfl, ?_⟩
    obtain ⟨xs, hb, mb, hx⟩ : ∃ xs, H b = some (.lst xs) ∧ b ≠ sysModules ∧ DzAll true H xs ds := by
      cases dz with
      | lst h n a => exact ⟨_, h, n rfl, a⟩
    have hxl := DzAll.len hx
    refine ⟨⟨_, SqL.of hb⟩, xs, hb, szlt (by omega), fun H2 w2 => ?_⟩
    have ht2 := w2.keep (fun z => nb1 z.symm) ht
    have hd2 := w2.keep (fun z => nb2 z.symm) hd
    have dz' : Dz true H2 (.ref b) (.list (ds ++ [.str "more"])) := .lst w2.here (fun _ => mb) (DzAll.app (DzAll.atom hx hat) (.cons (.str _) .nil))
    have sw' : Sw 3 100000 (.list (ds ++ [.str "more"])) := by
      have := Sw.list (k := 0) (B := 2000) (m := 3) (ds := ds ++ [.str "more"]) (fun x hx => ?_) (by simp; omega)
      · exact this.mono (by decide) (by decide)
      · rcases List.mem_append.mp hx with z | z
        · have := hsw x z
          exact ⟨this.sh, by rw [show x.depth = 0 by have := hat x z; cases x <;> first | rfl | cases this]; exact Nat.le_refl _, this.ln⟩
        · rw [List.mem_singleton.mp z]
          have := sw_odd (d := .str "more") (by decide +kernel)
          exact ⟨this.sh, Nat.le_refl _, this.ln⟩
    obtain ⟨c1, c2, c3⟩ := sw2 hw sw'
    refine ⟨true, _, dz2 ht2 mt dz', fun _ => rfl, c1, c2, c3, ?_⟩
    refine ⟨true, _, dz2 hd2 md dz', fun _ => rfl, c1, c2, c3, ?_⟩
    show Q (.bl (false ^^ decide (V.str _ = V.str _))) H2
    rw [eself]
    exact q H2 w2.but

/-! ### is_file_name(value), level 1 -/
abbrev s_is_file_name : Stmt := top 16
abbrev N_is_file_name : List Str := ["value", "sign"]
theorem sc_is_file_name : FnScope N_is_file_name ["value"] (defScope s_is_file_name) := ⟨rfl, rfl, rfl, by decide +kernel, rfl, by decide +kernel, by decide +kernel⟩
theorem ok_is_file_name (T : Txt K mg e_InvalidName e_InvalidText e_NoFile e_QueueError e_Disk) (D : Df K mg "is_file_name" s_is_file_name ["value"]) : Ct P w K mg base CX0 1 "is_file_name" ["value"] (sp_is_file_name K) := by
  refine ct1 D sc_is_file_name fun f cdv A outer s H a_value Q E hr h => ⟨_, (pss_cons (ps_if (PW.pt (pw_or (pt_not (pt_trK K (pe_callB (k_isi K) (by rfl) T.n_isinstance bt_isinstance (pa_cons (pz 0) (pa_cons (pe_bltn (v := .ty "str") (by rfl) T.n_str bt_str rfl) pa_nil))))) (pw_or1 (pt_not (pt_chT o_le o_le pe_int (pe_callB (k_len K) (by rfl) T.n_len bt_len (pa_cons (pz 0) pa_nil)) (pe_gk T.c_MOST_NAME)))))) 
      (pss_one (ps_ret pe_bl)) pss_nil)
    (pss_one (ps_ret (pe_callB (k_all K rfl) (by rfl) T.n_all bt_all (pa_cons (pe_lcz (own := [("sign", 1)]) (by rfl) sc_is_file_name.nd (pi_sz (pz 0)) (blkOk_by (own := [("sign", 1)]) (N := N_is_file_name) (sc := defScope s_is_file_name) (by decide +kernel)) (fun _ _ _ _ _ => (pg_name (i := 1) sc_is_file_name.nd rfl (Or.inl rfl))) (fun _ _ _ _ _ => pts_nil) (fun _ _ _ _ _ => (pe_cmpR (k_in K) (pz 1) (pe_gk T.c_NAME_SIGNS) (by rfl)))) pa_nil))))), ?_⟩
  obtain ⟨d, hd, ho, q⟩ := h
  refine ⟨by decide, kindD d, hd.kind, ?_⟩
  cases d with
  | str x =>
    obtain rfl := hd.str
    have hz := (Bool.and_eq_true _ _ ▸ ho : asciiS x = true ∧ _)
    have hx : x.length ≤ 30 := of_decide_eq_true hz.2
    have q : ∀ H2, Same H H2 → Q (.bl (nmS x)) H2 := q
    have hlen : x.length = x.cps.toList.length := by rw [Array.length_toList]; rfl
    refine ⟨sz (by omega), ?_⟩
    refine ite2 (fun h1 => ?_) (fun h1 => ?_)
    · have h1' : (1 : Int) ≤ x.length := dT h1
      refine ite2 (fun h2 => ?_) (fun h2 => ?_)
      · have h2' : ¬ (x.length : Int) ≤ 12 := nT h2
        have e : nmS x = false := by
          unfold nmS
          rw [decide_eq_false (p := x.length ≤ 12) (by omega), Bool.and_false]
          rfl
        rw [e] at q
        exact q H (Same.refl H)
      · have h2' : (x.length : Int) ≤ 12 := nF h2
        refine fun D hD => lc_w (wk_str x) (by rw [signsV_len]; omega) (fun i acc H3 => Same H H3 ∧ acc = ((x.cps.toList.take i).map fun c => V.bl (inAlf c))) (fun H3 n3 => ⟨n3.same, rfl⟩) (fun _ _ _ _ => trivial)
          (fun i acc H3 p => by rw [p.2, List.length_map, List.length_take]; omega) ?_ ?_
        · rintro i y acc H3 hx' hD3 ⟨s3, rfl⟩
          obtain ⟨c, hc, rfl⟩ := signsV_at hx'
          refine ⟨rfl, ?_⟩
          refine ⟨c, rfl, hD3, fun H5 w5 => ⟨s3.wr hD w5, ?_⟩⟩
          rw [List.take_add_one, hc]
          simp [inAlf, alf]
        · rintro acc H3 _ hD3 ⟨s3, rfl⟩
          rw [signsV_len, hlen, List.take_length] at hD3
          refine ⟨x.cps.toList.map inAlf, .inl (.inl (by rw [hD3, List.map_map]; rfl)), ?_⟩
          have e : nmS x = x.cps.toList.all inAlf := by
            unfold nmS
            rw [decide_eq_true (p := 1 ≤ x.length) (by omega), decide_eq_true (p := x.length ≤ 12) (by omega), Bool.and_self, Bool.true_and]
          rw [e] at q
          show Q (.bl ((List.map inAlf x.cps.toList).all id)) H3
          rw [List.all_map]
          exact q _ s3
    · have h1' : ¬ (1 : Int) ≤ x.length := dF h1
      have e : nmS x = false := by
        unfold nmS
        rw [decide_eq_false (p := 1 ≤ x.length) (by omega)]
        rfl
      rw [e] at q
      exact q H (Same.refl H)
  | _ => exact q H (Same.refl H)

/-! ### is_signs(value), level 1 -/
abbrev s_is_signs : Stmt := top 12
abbrev N_is_signs : List Str := ["value"]
theorem sc_is_signs : FnScope N_is_signs ["value"] (defScope s_is_signs) := ⟨rfl, rfl, rfl, by decide +kernel, rfl, by decide +kernel, by decide +kernel⟩
theorem ok_is_signs (T : Txt K mg e_InvalidName e_InvalidText e_NoFile e_QueueError e_Disk) (D : Df K mg "is_signs" s_is_signs ["value"]) : Ct P w K mg base CX0 1 "is_signs" ["value"] (sp_is_signs K) := by
  refine ct1 D sc_is_signs fun f cdv A outer s H a_value Q E hr h => ⟨_, (pss_one (ps_ret (pe_andZ (pe_callB (k_isi K) (by rfl) T.n_isinstance bt_isinstance (pa_cons (pz 0) (pa_cons (pe_bltn (v := .ty "str") (by rfl) T.n_str bt_str rfl) pa_nil))) (pe_andZ (pe_ms0 PySem.F.slot_str_isascii PySem.F.type_str_isascii m_isascii (pz 0)) (pe_one (pe_ms0 PySem.F.slot_str_isprintable PySem.F.type_str_isprintable m_isprintable (pz 0))))))), ?_⟩
  obtain ⟨d, hd, ha, q⟩ := h
  refine ⟨by decide, kindD d, hd.kind, ?_⟩
  cases d with
  | str x =>
    obtain rfl := hd.str
    have hx := (Bool.and_eq_true _ _ ▸ ha : asciiS x = true ∧ _).1
    refine iteY (isascii_D hx) ?_
    show Q (.bl (Txt.isprintable x)) H
    rw [isprintable_D hx]
    exact q
  | _ => exact q

/-! ### Disk_use_power(self), level 1 -/
abbrev s_Disk_use_power : Stmt := (clsB (top 19)).getD 13 (.Pass ⟨0, 0, 0, 0⟩)
abbrev N_Disk_use_power : List Str := ["self"]
theorem sc_Disk_use_power : FnScope N_Disk_use_power ["self"] (defScope s_Disk_use_power) := ⟨rfl, rfl, rfl, by decide +kernel, rfl, by decide +kernel, by decide +kernel⟩
theorem ok_Disk_use_power (T : Txt K mg e_InvalidName e_InvalidText e_NoFile e_QueueError e_Disk) (D : Dm K e_Disk "use_power" "Disk.use_power" s_Disk_use_power ["self"]) : Mt P w K mg base CX0 1 e_Disk "use_power" ["self"] (sp_Disk_use_power K) := by
  refine mt1 D sc_Disk_use_power fun f cdv A outer s H a_self Q E hr h => ⟨_, (pss_cons (ps_if (pt_cmpZ (k_eq K hr.units) (pe_fdC T.k_Disk T.f_Disk_left (pz 0)) pe_int (nomark _)) 
      (pss_one ps_never) pss_nil)
    (pss_cons (ps_if (pt_cmpZ o_isn (pe_fdC T.k_Disk T.f_Disk_left (pz 0)) pe_non (nomark _)) 
      (pss_one (ps_faC T.k_Disk T.f_Disk_left (pz 0) pe_int ip_sub)) pss_nil)
    (pss_one (ps_faC T.k_Disk T.f_Disk_calls (pz 0) pe_int ip_add)))), ?_⟩
  obtain ⟨a, f, m, Δ, c, rfl, hD, q⟩ := h
  obtain ⟨nfm, C, dx, kf, km, hc, h1, h2, h3, t1, t2⟩ := id hD
  obtain rfl := hc.one T.a_Disk
  refine ⟨_, _, _, h1, rfl, ?_⟩
  refine ⟨_, _, _, h1, rfl, ?_⟩
  refine ⟨_, _, _, h1, rfl, ?_⟩
  refine ⟨_, _, rfl, rfl, _, _, h1, by show 4 < 1000; decide, fun H4 w4 => ?_⟩
  refine q H4 (Kp.wr Kp.refl (List.mem_singleton.mpr rfl) w4) ⟨nfm, _, _, _, _, hc, w4.here, w4.keep (ne_obj h2 h1 (by simp)) h2, w4.keep (ne_obj h3 h1 (by simp)) h3, t1, t2⟩

/-! ### Disk_write(self, name, text), level 3 -/
abbrev s_Disk_write : Stmt := (clsB (top 19)).getD 1 (.Pass ⟨0, 0, 0, 0⟩)
abbrev N_Disk_write : List Str := ["self", "name", "text"]
theorem sc_Disk_write : FnScope N_Disk_write ["self", "name", "text"] (defScope s_Disk_write) := ⟨rfl, rfl, rfl, by decide +kernel, rfl, by decide +kernel, by decide +kernel⟩
theorem ok_Disk_write (T : Txt K mg e_InvalidName e_InvalidText e_NoFile e_QueueError e_Disk) (R_InvalidName : Er P w K mg base 1 "InvalidName" "given" e_InvalidName) (R_InvalidText : Er P w K mg base 1 "InvalidText" "given" e_InvalidText) (C_is_file_name : Ct P w K mg base CX0 1 "is_file_name" ["value"] (sp_is_file_name K)) (C_is_signs : Ct P w K mg base CX0 1 "is_signs" ["value"] (sp_is_signs K)) (M_Disk_use_power : Mt P w K mg base CX0 1 e_Disk "use_power" ["self"] (sp_Disk_use_power K)) (D : Dm K e_Disk "write" "Disk.write" s_Disk_write ["self", "name", "text"]) : Mt P w K mg base (L2.CX P w) 3 e_Disk "write" ["self", "name", "text"] (sp_Disk_write K) := by
  refine mx3 D sc_Disk_write fun f cdv A outer s H a_self a_name a_text Q E hr h => ⟨_, (pss_cons (ps_if (pt_not (pt_trK K (pe_cl C_is_file_name (hr.mono (by decide)) pass0 (pa_cons (pz 1) pa_nil)))) 
      (pss_one (ps_rz rfl (takes_of rfl rfl rfl rfl) R_InvalidName (hr.mono (by decide)) (pa_cons (pz 1) pa_nil))) pss_nil)
    (pss_cons (ps_if (PW.pt (pw_or (pt_not (pt_trK K (pe_cl C_is_signs (hr.mono (by decide)) pass0 (pa_cons (pz 2) pa_nil)))) (pw_or1 (pt_cmpZ (k_eq K hr.units) (pz 2) pe_str (nomark _))))) 
      (pss_one (ps_rz rfl (takes_of rfl rfl rfl rfl) R_InvalidText (hr.mono (by decide)) (pa_cons (pz 2) pa_nil))) pss_nil)
    (pss_cons (ps_expr (pe_mtA0 M_Disk_use_power (hr.mono (by decide)) at0 (pz 0)))
    (pss_cons (ps_asg (pe_op (k_add K) (pe_dg2 (hu_of hr) (pe_fdC T.k_Disk T.f_Disk_files (pz 0)) (pz 1) pe_str ⟨rfl, rfl, rfl, rfl⟩) (pz 2)) (pg_sub (pe_fdC T.k_Disk T.f_Disk_files (pz 0)) (pz 1) (s_dict (hu_of hr))))
    (pss_one (ps_asg (pe_dg2 (hu_of hr) (pe_fdC T.k_Disk T.f_Disk_marks (pz 0)) (pz 1) pe_int ⟨rfl, rfl, rfl, rfl⟩) (pg_sub (pe_fdC T.k_Disk T.f_Disk_marks (pz 0)) (pz 1) (s_dict (hu_of hr))))))))), ?_⟩
  obtain ⟨a, f, m, Δ, c, k, rfl, hD, hk, k1, h⟩ := h
  obtain ⟨nfm, C, dx, kf, km, hc, h1, h2, h3, t1, t2⟩ := id hD
  obtain rfl := hc.one T.a_Disk
  rcases h with ⟨⟨d, hd, ho, hb⟩, rz⟩ | ⟨n, rfl, hn, ⟨e, he, hte, hbe⟩, rz⟩ | ⟨n, t, rfl, rfl, hn, ht, hto, q⟩
  · refine ⟨d, hd, ho, fun H2 s2 => ?_⟩
    rw [hb]
    refine fun d H3 n3 => ?_
    exact rz.go T.a_InvalidName s2 n3
  · refine ⟨.str n, vd_str n, nm_ok2 hn, fun H2 s2 => ?_⟩
    rw [show nmD (.str n) = true from hn]
    refine ⟨e, he.same s2, txt_ok hte, ?_⟩
    rcases tx_cases hte hbe with z | ⟨z, rfl⟩
    · rw [z]
      refine fun d H3 n3 => ?_
      exact rz.go T.a_InvalidText s2 n3
    · rw [z]
      obtain rfl := he.str
      refine fun d H3 n3 => ?_
      exact rz.go T.a_InvalidText s2 n3
  · refine ⟨.str n, vd_str n, nm_ok2 hn, fun H2 s2 => ?_⟩
    rw [show nmD (.str n) = true from hn]
    refine ⟨.str t, vd_str t, txt_ok hto, ?_⟩
    obtain ⟨z1, z2⟩ := tx_right hto ht
    rw [z1]
    refine iteN z2 ?_
    refine ⟨_, _, s2 _ _ h1, rfl, ?_⟩
    refine ⟨a, f, m, Δ, c, rfl, hD.same s2, fun H3 kp3 hD3 => ?_⟩
    obtain ⟨_, C, dx3, kf3, km3, hc3, h13, h23, h33, t13, t23⟩ := id hD3
    obtain rfl := hc3.one T.a_Disk
    refine ⟨_, _, _, h13, rfl, ?_⟩
    refine ⟨⟨_, h23⟩, ?_⟩
    refine ⟨kf3, Sum.inr n, h23, rfl, ?_⟩
    rw [t13.2, show (if n ∈ Δ.names then some ((fun j => V.str (Δ.txt j)) n) else none).getD (V.str "") = V.str (Δ.tx n) by unfold Ds.tx; by_cases z : n ∈ Δ.names <;> simp [z]]
    have lt : (Δ.tx n).length ≤ 30 * k := by
      unfold Ds.tx
      split
      · exact hk.tx n (by assumption)
      · exact Nat.zero_le _
    have lt2 : t.length ≤ 30 := by
      have hto : (asciiS t && decide (t.length ≤ 30) && _) = true := hto
      rw [Bool.and_eq_true, Bool.and_eq_true] at hto
      exact of_decide_eq_true hto.1.2
    refine ⟨sz (by omega), ?_⟩
    refine ⟨_, _, _, h13, rfl, ?_⟩
    refine ⟨kf3, Sum.inr n, h23, rfl, szlt (by rw [t13.len]; have := hk.len; omega), fun H4 w4 => ?_⟩
    have h14 := w4.keep (ne_obj h13 h23 (by simp)) h13
    have h34 := w4.keep (fun z => nfm z.symm) h33
    refine ⟨_, _, _, h14, rfl, ?_⟩
    refine ⟨⟨_, h34⟩, ?_⟩
    refine ⟨km3, Sum.inr n, h34, rfl, ?_⟩
    rw [t23.2, show (if n ∈ Δ.names then some ((fun j => V.int (Δ.sy j : Nat)) n) else none).getD (V.int 0) = V.int (Δ.mt n : Nat) by unfold Ds.mt; by_cases z : n ∈ Δ.names <;> simp [z]]
    refine ⟨_, _, _, h14, rfl, ?_⟩
    refine ⟨km3, Sum.inr n, h34, rfl, szlt (by rw [t23.len]; have := hk.len; omega), fun H5 w5 => ?_⟩
    refine q H5 ((Kp.same s2).trans ((kp3.sub (by simp)).trans (Kp.wr (Kp.wr Kp.refl (by simp) w4) (by simp) w5))) ?_
    refine ⟨nfm, _, _, _, _, hc, w5.keep (ne_obj h14 h34 (by simp)) h14, w5.keep nfm w4.here, w5.here, ?_, ?_⟩
    · exact (t13.put n (.str (Δ.tx n ++ t))).ext fun j => by
        show (if j = n then V.str _ else V.str _) = V.str (if j = n then _ else _)
        by_cases z : j = n <;> simp [z]
    · exact (t23.put n (.int (Δ.mt n : Nat))).ext fun j => by
        show (if j = n then V.int _ else V.int _) = V.int (((if j = n then _ else _ : Nat)) : Int)
        by_cases z : j = n <;> simp [z]

/-! ### Disk_check_file(self, name), level 3 -/
abbrev s_Disk_check_file : Stmt := (clsB (top 19)).getD 12 (.Pass ⟨0, 0, 0, 0⟩)
abbrev N_Disk_check_file : List Str := ["self", "name"]
theorem sc_Disk_check_file : FnScope N_Disk_check_file ["self", "name"] (defScope s_Disk_check_file) := ⟨rfl, rfl, rfl, by decide +kernel, rfl, by decide +kernel, by decide +kernel⟩
theorem ok_Disk_check_file (T : Txt K mg e_InvalidName e_InvalidText e_NoFile e_QueueError e_Disk) (R_InvalidName : Er P w K mg base 1 "InvalidName" "given" e_InvalidName) (R_NoFile : Er P w K mg base 1 "NoFile" "name" e_NoFile) (C_is_file_name : Ct P w K mg base CX0 1 "is_file_name" ["value"] (sp_is_file_name K)) (D : Dm K e_Disk "check_file" "Disk.check_file" s_Disk_check_file ["self", "name"]) : Mt P w K mg base (L2.CX P w) 3 e_Disk "check_file" ["self", "name"] (sp_Disk_check_file K) := by
  refine mx2 D sc_Disk_check_file fun f cdv A outer s H a_self a_name Q E hr h => ⟨_, (pss_cons (ps_if (pt_not (pt_trK K (pe_cl C_is_file_name (hr.mono (by decide)) pass0 (pa_cons (pz 1) pa_nil)))) 
      (pss_one (ps_rz rfl (takes_of rfl rfl rfl rfl) R_InvalidName (hr.mono (by decide)) (pa_cons (pz 1) pa_nil))) pss_nil)
    (pss_one (ps_if (pt_cmpZ (o_ninZ (hu_of hr)) (pz 1) (pe_fdC T.k_Disk T.f_Disk_files (pz 0)) (by rfl)) 
      (pss_one (ps_rz rfl (takes_of rfl rfl rfl rfl) R_NoFile (hr.mono (by decide)) (pa_cons (pz 1) pa_nil))) pss_nil))), ?_⟩
  obtain ⟨a, f, m, Δ, c, lf, rfl, hD, h⟩ := h
  obtain ⟨nfm, C, dx, kf, km, hc, h1, h2, h3, t1, t2⟩ := id hD
  obtain rfl := hc.one T.a_Disk
  rcases h with ⟨⟨d, hd, ho, hb⟩, rz⟩ | ⟨n, rfl, hn, hi, rz⟩ | ⟨n, rfl, hn, hi, q⟩
  · refine ⟨d, hd, ho, fun H2 s2 => ?_⟩
    rw [hb]
    refine fun d H3 n3 => ?_
    exact rz.go T.a_InvalidName s2 n3
  · refine ⟨.str n, vd_str n, nm_ok2 hn, fun H2 s2 => ?_⟩
    rw [show nmD (.str n) = true from hn]
    refine ⟨_, _, _, s2 _ _ h1, rfl, ?_⟩
    refine ⟨kf, Sum.inr n, s2 _ _ h2, rfl, ?_⟩
    rw [t1.no hi]
    refine fun d H3 n3 => ?_
    exact rz.go T.a_NoFile s2 n3
  · refine ⟨.str n, vd_str n, nm_ok2 hn, fun H2 s2 => ?_⟩
    rw [show nmD (.str n) = true from hn]
    refine ⟨_, _, _, s2 _ _ h1, rfl, ?_⟩
    refine ⟨kf, Sum.inr n, s2 _ _ h2, rfl, ?_⟩
    rw [t1.at hi]
    exact q H2 s2

/-! ### Disk_sync(self, name), level 4 -/
abbrev s_Disk_sync : Stmt := (clsB (top 19)).getD 2 (.Pass ⟨0, 0, 0, 0⟩)
abbrev N_Disk_sync : List Str := ["self", "name"]
theorem sc_Disk_sync : FnScope N_Disk_sync ["self", "name"] (defScope s_Disk_sync) := ⟨rfl, rfl, rfl, by decide +kernel, rfl, by decide +kernel, by decide +kernel⟩
theorem ok_Disk_sync (T : Txt K mg e_InvalidName e_InvalidText e_NoFile e_QueueError e_Disk) (M_Disk_check_file : Mt P w K mg base (L2.CX P w) 3 e_Disk "check_file" ["self", "name"] (sp_Disk_check_file K)) (M_Disk_use_power : Mt P w K mg base CX0 1 e_Disk "use_power" ["self"] (sp_Disk_use_power K)) (D : Dm K e_Disk "sync" "Disk.sync" s_Disk_sync ["self", "name"]) : Mt P w K mg base (L2.CX P w) 4 e_Disk "sync" ["self", "name"] (sp_Disk_sync K) := by
  refine mx2 D sc_Disk_sync fun f cdv A outer s H a_self a_name Q E hr h => ⟨_, (pss_cons (ps_expr (pe_mtA M_Disk_check_file (hr.mono (by decide)) (passAt (takes_of rfl rfl rfl rfl)) (pz 0) (pa_cons (pz 1) pa_nil)))
    (pss_cons (ps_expr (pe_mtA0 M_Disk_use_power (hr.mono (by decide)) at0 (pz 0)))
    (pss_one (ps_asg (pe_callB (k_len K) (by rfl) T.n_len bt_len (pa_cons (pe_dg (hu_of hr) (pe_fdC T.k_Disk T.f_Disk_files (pz 0)) (pz 1) (fun _ _ => rfl)) pa_nil)) (pg_sub (pe_fdC T.k_Disk T.f_Disk_marks (pz 0)) (pz 1) (s_dict (hu_of hr))))))), ?_⟩
  obtain ⟨a, f, m, Δ, c, k, rfl, hD, hk, k1, h⟩ := h
  obtain ⟨nfm, C, dx, kf, km, hc, h1, h2, h3, t1, t2⟩ := id hD
  obtain rfl := hc.one T.a_Disk
  refine ⟨_, _, h1, rfl, ?_⟩
  refine ⟨a, f, m, Δ, c, .non, rfl, hD, ?_⟩
  rcases h with h | h | ⟨n, rfl, hn, hi, q⟩
  · exact .inl h
  · exact .inr (.inl h)
  · refine .inr (.inr ⟨n, rfl, hn, hi, fun H2 s2 => ?_⟩)
    refine ⟨_, _, s2 _ _ h1, rfl, ?_⟩
    refine ⟨a, f, m, Δ, c, rfl, hD.same s2, fun H3 kp3 hD3 => ?_⟩
    obtain ⟨_, C, dx3, kf3, km3, hc3, h13, h23, h33, t13, t23⟩ := id hD3
    obtain rfl := hc3.one T.a_Disk
    refine ⟨_, _, _, h13, rfl, ?_⟩
    refine ⟨⟨_, h23⟩, ?_⟩
    refine ⟨kf3, Sum.inr n, _, h23, rfl, t13.at hi, ?_⟩
    have lt := hk.tx n hi
    refine ⟨sz (by omega), ?_⟩
    refine ⟨_, _, _, h13, rfl, ?_⟩
    refine ⟨km3, Sum.inr n, h33, rfl, szlt (by rw [t23.len]; have := hk.len; omega), fun H4 w4 => ?_⟩
    refine q H4 ((Kp.same s2).trans ((kp3.sub (by simp)).trans (Kp.wr Kp.refl (by simp) w4))) ?_
    have t1' := (t13.ext (g' := fun j => .str (if j = n then Δ.txt n else Δ.txt j)) fun j => by by_cases z : j = n <;> simp [z])
    refine ⟨nfm, _, _, _, _, hc, w4.keep (ne_obj h13 h33 (by simp)) h13, w4.keep nfm h23, w4.here, ?_, ?_⟩
    · show Tb kf3 (if n ∈ Δ.names then Δ.names else Δ.names ++ [n]) _
      rw [if_pos hi]
      exact t1'
    · exact (t23.put n (.int ((Δ.txt n).length : Nat))).ext fun j => by
        show (if j = n then V.int _ else V.int _) = V.int (((if j = n then _ else _ : Nat)) : Int)
        by_cases z : j = n <;> simp [z]

/-! ### Disk_drop(self, name), level 4 -/
abbrev s_Disk_drop : Stmt := (clsB (top 19)).getD 3 (.Pass ⟨0, 0, 0, 0⟩)
abbrev N_Disk_drop : List Str := ["self", "name"]
theorem sc_Disk_drop : FnScope N_Disk_drop ["self", "name"] (defScope s_Disk_drop) := ⟨rfl, rfl, rfl, by decide +kernel, rfl, by decide +kernel, by decide +kernel⟩
theorem ok_Disk_drop (T : Txt K mg e_InvalidName e_InvalidText e_NoFile e_QueueError e_Disk) (M_Disk_check_file : Mt P w K mg base (L2.CX P w) 3 e_Disk "check_file" ["self", "name"] (sp_Disk_check_file K)) (M_Disk_use_power : Mt P w K mg base CX0 1 e_Disk "use_power" ["self"] (sp_Disk_use_power K)) (D : Dm K e_Disk "drop" "Disk.drop" s_Disk_drop ["self", "name"]) : Mt P w K mg base (L2.CX P w) 4 e_Disk "drop" ["self", "name"] (sp_Disk_drop K) := by
  refine mx2 D sc_Disk_drop fun f cdv A outer s H a_self a_name Q E hr h => ⟨_, (pss_cons (ps_expr (pe_mtA M_Disk_check_file (hr.mono (by decide)) (passAt (takes_of rfl rfl rfl rfl)) (pz 0) (pa_cons (pz 1) pa_nil)))
    (pss_cons (ps_expr (pe_mtA0 M_Disk_use_power (hr.mono (by decide)) at0 (pz 0)))
    (pss_cons (ps_ddel (pe_fdC T.k_Disk T.f_Disk_files (pz 0)) (pz 1))
    (pss_one (ps_ddel (pe_fdC T.k_Disk T.f_Disk_marks (pz 0)) (pz 1)))))), ?_⟩
  obtain ⟨a, f, m, Δ, c, rfl, hD, h⟩ := h
  obtain ⟨nfm, C, dx, kf, km, hc, h1, h2, h3, t1, t2⟩ := id hD
  obtain rfl := hc.one T.a_Disk
  refine ⟨_, _, h1, rfl, ?_⟩
  refine ⟨a, f, m, Δ, c, .non, rfl, hD, ?_⟩
  rcases h with h | h | ⟨n, rfl, hn, hi, q⟩
  · exact .inl h
  · exact .inr (.inl h)
  · refine .inr (.inr ⟨n, rfl, hn, hi, fun H2 s2 => ?_⟩)
    refine ⟨_, _, s2 _ _ h1, rfl, ?_⟩
    refine ⟨a, f, m, Δ, c, rfl, hD.same s2, fun H3 kp3 hD3 => ?_⟩
    obtain ⟨_, C, dx3, kf3, km3, hc3, h13, h23, h33, t13, t23⟩ := id hD3
    obtain rfl := hc3.one T.a_Disk
    refine ⟨_, _, _, h13, rfl, ?_⟩
    refine ⟨f, kf3, Sum.inr n, rfl, h23, rfl, by rw [t13.at hi]; rfl, ?_⟩
    have w4 : Wr H3 f (.dK (dropK kf3 (Sum.inr n))) (upd H3 f (.dK (dropK kf3 (Sum.inr n)))) := wr
    generalize upd H3 f (.dK (dropK kf3 (Sum.inr n))) = H4 at w4
    have h14 := w4.keep (ne_obj h13 h23 (by simp)) h13
    have h34 := w4.keep (fun z => nfm z.symm) h33
    refine ⟨_, _, _, h14, rfl, ?_⟩
    refine ⟨m, km3, Sum.inr n, rfl, h34, rfl, by rw [t23.at hi]; rfl, ?_⟩
    have w5 : Wr H4 m (.dK (dropK km3 (Sum.inr n))) (upd H4 m (.dK (dropK km3 (Sum.inr n)))) := wr
    generalize upd H4 m (.dK (dropK km3 (Sum.inr n))) = H5 at w5
    refine q H5 ((Kp.same s2).trans ((kp3.sub (by simp)).trans (Kp.wr (Kp.wr Kp.refl (by simp) w4) (by simp) w5))) ?_
    exact ⟨nfm, _, _, _, _, hc, w5.keep (ne_obj h14 h34 (by simp)) h14, w5.keep nfm w4.here, w5.here, t13.drop n, t23.drop n⟩

/-! ### Disk_read(self, name), level 4 -/
abbrev s_Disk_read : Stmt := (clsB (top 19)).getD 6 (.Pass ⟨0, 0, 0, 0⟩)
abbrev N_Disk_read : List Str := ["self", "name"]
theorem sc_Disk_read : FnScope N_Disk_read ["self", "name"] (defScope s_Disk_read) := ⟨rfl, rfl, rfl, by decide +kernel, rfl, by decide +kernel, by decide +kernel⟩
theorem ok_Disk_read (T : Txt K mg e_InvalidName e_InvalidText e_NoFile e_QueueError e_Disk) (M_Disk_check_file : Mt P w K mg base (L2.CX P w) 3 e_Disk "check_file" ["self", "name"] (sp_Disk_check_file K)) (D : Dm K e_Disk "read" "Disk.read" s_Disk_read ["self", "name"]) : Mt P w K mg base (L2.CX P w) 4 e_Disk "read" ["self", "name"] (sp_Disk_read K) := by
  refine mx2 D sc_Disk_read fun f cdv A outer s H a_self a_name Q E hr h => ⟨_, (pss_cons (ps_expr (pe_mtA M_Disk_check_file (hr.mono (by decide)) (passAt (takes_of rfl rfl rfl rfl)) (pz 0) (pa_cons (pz 1) pa_nil)))
    (pss_one (ps_ret (pe_dg (hu_of hr) (pe_fdC T.k_Disk T.f_Disk_files (pz 0)) (pz 1) (fun _ _ => rfl))))), ?_⟩
  obtain ⟨a, f, m, Δ, c, lf, rfl, hD, h⟩ := h
  obtain ⟨nfm, C, dx, kf, km, hc, h1, h2, h3, t1, t2⟩ := id hD
  obtain rfl := hc.one T.a_Disk
  refine ⟨_, _, h1, rfl, ?_⟩
  refine ⟨a, f, m, Δ, c, lf, rfl, hD, ?_⟩
  rcases h with h | h | ⟨n, rfl, hn, hi, q⟩
  · exact .inl h
  · exact .inr (.inl h)
  · refine .inr (.inr ⟨n, rfl, hn, hi, fun H2 s2 => ?_⟩)
    refine ⟨_, _, _, s2 _ _ h1, rfl, ?_⟩
    refine ⟨⟨_, s2 _ _ h2⟩, ?_⟩
    refine ⟨kf, Sum.inr n, _, s2 _ _ h2, rfl, t1.at hi, q H2 s2⟩

/-! ### Disk_synced(self, name), level 4 -/
abbrev s_Disk_synced : Stmt := (clsB (top 19)).getD 8 (.Pass ⟨0, 0, 0, 0⟩)
abbrev N_Disk_synced : List Str := ["self", "name"]
theorem sc_Disk_synced : FnScope N_Disk_synced ["self", "name"] (defScope s_Disk_synced) := ⟨rfl, rfl, rfl, by decide +kernel, rfl, by decide +kernel, by decide +kernel⟩
theorem ok_Disk_synced (T : Txt K mg e_InvalidName e_InvalidText e_NoFile e_QueueError e_Disk) (M_Disk_check_file : Mt P w K mg base (L2.CX P w) 3 e_Disk "check_file" ["self", "name"] (sp_Disk_check_file K)) (D : Dm K e_Disk "synced" "Disk.synced" s_Disk_synced ["self", "name"]) : Mt P w K mg base (L2.CX P w) 4 e_Disk "synced" ["self", "name"] (sp_Disk_synced K) := by
  refine mx2 D sc_Disk_synced fun f cdv A outer s H a_self a_name Q E hr h => ⟨_, (pss_cons (ps_expr (pe_mtA M_Disk_check_file (hr.mono (by decide)) (passAt (takes_of rfl rfl rfl rfl)) (pz 0) (pa_cons (pz 1) pa_nil)))
    (pss_one (ps_ret (pe_dg (hu_of hr) (pe_fdC T.k_Disk T.f_Disk_marks (pz 0)) (pz 1) (fun _ _ => rfl))))), ?_⟩
  obtain ⟨a, f, m, Δ, c, lf, rfl, hD, h⟩ := h
  obtain ⟨nfm, C, dx, kf, km, hc, h1, h2, h3, t1, t2⟩ := id hD
  obtain rfl := hc.one T.a_Disk
  refine ⟨_, _, h1, rfl, ?_⟩
  refine ⟨a, f, m, Δ, c, lf, rfl, hD, ?_⟩
  rcases h with h | h | ⟨n, rfl, hn, hi, q⟩
  · exact .inl h
  · exact .inr (.inl h)
  · refine .inr (.inr ⟨n, rfl, hn, hi, fun H2 s2 => ?_⟩)
    refine ⟨_, _, _, s2 _ _ h1, rfl, ?_⟩
    refine ⟨⟨_, s2 _ _ h3⟩, ?_⟩
    refine ⟨km, Sum.inr n, _, s2 _ _ h3, rfl, t2.at hi, q H2 s2⟩

/-! ### _law_told(_law_disk, _law_way, _law_name, _law_text), level 5 -/
abbrev s__law_told : Stmt := top 33
abbrev N__law_told : List Str := ["_law_disk", "_law_way", "_law_name", "_law_text", "e"]
theorem sc__law_told : FnScope N__law_told ["_law_disk", "_law_way", "_law_name", "_law_text"] (defScope s__law_told) := ⟨rfl, rfl, rfl, by decide +kernel, rfl, by decide +kernel, by decide +kernel⟩
theorem ok__law_told (T : Txt K mg e_InvalidName e_InvalidText e_NoFile e_QueueError e_Disk) (M_Disk_write : Mt P w K mg base (L2.CX P w) 3 e_Disk "write" ["self", "name", "text"] (sp_Disk_write K)) (M_Disk_sync : Mt P w K mg base (L2.CX P w) 4 e_Disk "sync" ["self", "name"] (sp_Disk_sync K)) (M_Disk_drop : Mt P w K mg base (L2.CX P w) 4 e_Disk "drop" ["self", "name"] (sp_Disk_drop K)) (M_Disk_read : Mt P w K mg base (L2.CX P w) 4 e_Disk "read" ["self", "name"] (sp_Disk_read K)) (M_Disk_synced : Mt P w K mg base (L2.CX P w) 4 e_Disk "synced" ["self", "name"] (sp_Disk_synced K)) (MK_Disk_write_text_name : MtK P w K mg base (L2.CX P w) 3 e_Disk "write" ["self", "name", "text"] ["text", "name"] perm_1_0 (sp_Disk_write K)) (MK_Disk_sync_name : MtK P w K mg base (L2.CX P w) 4 e_Disk "sync" ["self", "name"] ["name"] perm_0 (sp_Disk_sync K)) (MK_Disk_drop_name : MtK P w K mg base (L2.CX P w) 4 e_Disk "drop" ["self", "name"] ["name"] perm_0 (sp_Disk_drop K)) (MK_Disk_read_name : MtK P w K mg base (L2.CX P w) 4 e_Disk "read" ["self", "name"] ["name"] perm_0 (sp_Disk_read K)) (MK_Disk_synced_name : MtK P w K mg base (L2.CX P w) 4 e_Disk "synced" ["self", "name"] ["name"] perm_0 (sp_Disk_synced K)) (D : Df K mg "_law_told" s__law_told ["_law_disk", "_law_way", "_law_name", "_law_text"]) : Ct P w K mg base CX0 5 "_law_told" ["_law_disk", "_law_way", "_law_name", "_law_text"] (sp__law_told K) := by
  refine ct4 D sc__law_told fun f cdv A outer s H a_disk a_way a_name a_text Q E hr h => ⟨_, (pss_one (ps_tryC rfl rfl sc__law_told.nd takes0 (fun W pn xe tk ps => 
        (pss_cons (ps_if (pt_cmpZ (k_eq K hr.units) (pz 1) pe_int (nomark _)) 
          (pss_one (ps_ret (pe_lzS (pa_cons pe_str (pa_cons (pe_mtA M_Disk_write (hr.mono (by decide)) (passAt tk) (pz 0) (pa_cons (pz 2) (pa_cons (pz 3) pa_nil))) pa_nil))))) pss_nil)
        (pss_cons (ps_if (pt_cmpZ (k_eq K hr.units) (pz 1) pe_int (nomark _)) 
          (pss_one (ps_ret (pe_lzS (pa_cons pe_str (pa_cons (pe_mtK MK_Disk_write_text_name (hr.mono (by decide)) (passAt tk) (pz 0) (pk_cons (pz 3) (pk_cons (pz 2) pk_nil))) pa_nil))))) pss_nil)
        (pss_cons (ps_if (pt_cmpZ o_ltS (pz 1) pe_int (nomark _)) 
          (pss_one (ps_ret (pe_lzS (pa_cons pe_str (pa_cons (pe_ifExp (pt_cmpZ (k_eq K hr.units) (pz 1) pe_int (nomark _)) (pe_mtA M_Disk_sync (hr.mono (by decide)) (passAt tk) (pz 0) (pa_cons (pz 2) pa_nil)) (pe_mtK MK_Disk_sync_name (hr.mono (by decide)) (passAt tk) (pz 0) (pk_cons (pz 2) pk_nil))) pa_nil))))) pss_nil)
        (pss_cons (ps_if (pt_cmpZ o_ltS (pz 1) pe_int (nomark _)) 
          (pss_one (ps_ret (pe_lzS (pa_cons pe_str (pa_cons (pe_ifExp (pt_cmpZ (k_eq K hr.units) (pz 1) pe_int (nomark _)) (pe_mtA M_Disk_drop (hr.mono (by decide)) (passAt tk) (pz 0) (pa_cons (pz 2) pa_nil)) (pe_mtK MK_Disk_drop_name (hr.mono (by decide)) (passAt tk) (pz 0) (pk_cons (pz 2) pk_nil))) pa_nil))))) pss_nil)
        (pss_cons (ps_if (pt_cmpZ o_ltS (pz 1) pe_int (nomark _)) 
          (pss_one (ps_ret (pe_lzS (pa_cons pe_str (pa_cons (pe_ifExp (pt_cmpZ (k_eq K hr.units) (pz 1) pe_int (nomark _)) (pe_mtA M_Disk_read (hr.mono (by decide)) (passAt tk) (pz 0) (pa_cons (pz 2) pa_nil)) (pe_mtK MK_Disk_read_name (hr.mono (by decide)) (passAt tk) (pz 0) (pk_cons (pz 2) pk_nil))) pa_nil))))) pss_nil)
        (pss_one (ps_ret (pe_lzS (pa_cons pe_str (pa_cons (pe_ifExp (pt_cmpZ (k_eq K hr.units) (pz 1) pe_int (nomark _)) (pe_mtA M_Disk_synced (hr.mono (by decide)) (passAt tk) (pz 0) (pa_cons (pz 2) pa_nil)) (pe_mtK MK_Disk_synced_name (hr.mono (by decide)) (passAt tk) (pz 0) (pk_cons (pz 2) pk_nil))) pa_nil))))))))))) (.cons (i := 4) ⟨rfl, by decide, .inl T.g_InvalidName⟩ rfl rfl (fun a oe cls d pn hz hf => 
        (pss_one (ps_ret (pe_lzS (pa_cons pe_str (pa_cons (pe_xf T.s_InvalidName.xf T.n_InvalidName hz hf (pz 4)) pa_nil)))))) (.cons (i := 4) ⟨rfl, by decide, .inl T.g_InvalidText⟩ rfl rfl (fun a oe cls d pn hz hf => 
        (pss_one (ps_ret (pe_lzS (pa_cons pe_str (pa_cons (pe_xf T.s_InvalidText.xf T.n_InvalidText hz hf (pz 4)) pa_nil)))))) (.cons (i := 4) ⟨rfl, by decide, .inl T.g_NoFile⟩ rfl rfl (fun a oe cls d pn hz hf => 
        (pss_one (ps_ret (pe_lzS (pa_cons pe_str (pa_cons (pe_xf T.s_NoFile.xf T.n_NoFile hz hf (pz 4)) pa_nil)))))) .nil))))), ?_⟩
  obtain ⟨a, f, m, Δ, c, i, k, rfl, rfl, i0, i9, hD, hk, k1, h⟩ := h
  obtain ⟨nfm, C, dx, kf, km, hc, h1, h2, h3, t1, t2⟩ := id hD
  obtain rfl := hc.one T.a_Disk
  have fr : ∀ {H2 : Hp} {q : Addr}, Kp [a, f, m] H H2 → H2 a ≠ none → H2 f ≠ none → H2 m ≠ none → H2 q = none → H q = none := fun {H2 q} kp za zf zm z => by
    cases e : H q with
    | none => rfl
    | some o =>
      by_cases c1 : q = a
      · exact (za (c1 ▸ z)).elim
      · by_cases c2 : q = f
        · exact (zf (c2 ▸ z)).elim
        · by_cases c3 : q = m
          · exact (zm (c3 ▸ z)).elim
          · rw [kp.at (by simp [c1, c2, c3]) e] at z; cases z
  rcases h with ⟨hb, q⟩ | ⟨hi, n, rfl, hn, hb, q⟩ | ⟨hi, n, rfl, hn, hni, q⟩ | ⟨n, t, rfl, hn, ht, hni, q⟩
  · rcases (by omega : i = 0 ∨ i = 1 ∨ i = 2 ∨ i = 3 ∨ i = 4 ∨ i = 5 ∨ i = 6 ∨ i = 7 ∨ i = 8 ∨ i = 9) with rfl | rfl | rfl | rfl | rfl | rfl | rfl | rfl | rfl | rfl
    · refine ⟨_, _, h1, rfl, ?_⟩
      refine ⟨a, f, m, Δ, c, k, rfl, hD, hk, k1, .inl ⟨hb, fun C d H2 hc s2 hd => ?_⟩⟩
      obtain rfl := hc.one T.a_InvalidName
      refine ⟨true, T.s_InvalidName.exm T.x_InvalidName_InvalidName, fun _ a na => ?_, fun z => by cases z⟩
      refine ⟨rfl, rfl, d, _, _, rfl, hd, rfl, ?_⟩
      refine ⟨by show 2 ≤ sizeLine; decide, fun p H3 n3 m3 => ?_⟩
      exact q p H3 (s2.trans n3.same) (s2.free n3.fresh) m3 n3.here
    · refine ⟨_, _, h1, rfl, ?_⟩
      refine ⟨a, f, m, Δ, c, k, rfl, hD, hk, k1, .inl ⟨hb, fun C d H2 hc s2 hd => ?_⟩⟩
      obtain rfl := hc.one T.a_InvalidName
      refine ⟨true, T.s_InvalidName.exm T.x_InvalidName_InvalidName, fun _ a na => ?_, fun z => by cases z⟩
      refine ⟨rfl, rfl, d, _, _, rfl, hd, rfl, ?_⟩
      refine ⟨by show 2 ≤ sizeLine; decide, fun p H3 n3 m3 => ?_⟩
      exact q p H3 (s2.trans n3.same) (s2.free n3.fresh) m3 n3.here
    · refine ⟨_, _, h1, rfl, ?_⟩
      refine ⟨a, f, m, Δ, c, k, rfl, hD, hk, k1, .inl ⟨hb, fun C d H2 hc s2 hd => ?_⟩⟩
      obtain rfl := hc.one T.a_InvalidName
      refine ⟨true, T.s_InvalidName.exm T.x_InvalidName_InvalidName, fun _ a na => ?_, fun z => by cases z⟩
      refine ⟨rfl, rfl, d, _, _, rfl, hd, rfl, ?_⟩
      refine ⟨by show 2 ≤ sizeLine; decide, fun p H3 n3 m3 => ?_⟩
      exact q p H3 (s2.trans n3.same) (s2.free n3.fresh) m3 n3.here
    · refine ⟨_, _, h1, rfl, ?_⟩
      refine ⟨a, f, m, Δ, c, k, rfl, hD, hk, k1, .inl ⟨hb, fun C d H2 hc s2 hd => ?_⟩⟩
      obtain rfl := hc.one T.a_InvalidName
      refine ⟨true, T.s_InvalidName.exm T.x_InvalidName_InvalidName, fun _ a na => ?_, fun z => by cases z⟩
      refine ⟨rfl, rfl, d, _, _, rfl, hd, rfl, ?_⟩
      refine ⟨by show 2 ≤ sizeLine; decide, fun p H3 n3 m3 => ?_⟩
      exact q p H3 (s2.trans n3.same) (s2.free n3.fresh) m3 n3.here
    · refine ⟨_, _, h1, rfl, ?_⟩
      refine ⟨a, f, m, Δ, c, rfl, hD, .inl ⟨hb, fun C d H2 hc s2 hd => ?_⟩⟩
      obtain rfl := hc.one T.a_InvalidName
      refine ⟨true, T.s_InvalidName.exm T.x_InvalidName_InvalidName, fun _ a na => ?_, fun z => by cases z⟩
      refine ⟨rfl, rfl, d, _, _, rfl, hd, rfl, ?_⟩
      refine ⟨by show 2 ≤ sizeLine; decide, fun p H3 n3 m3 => ?_⟩
      exact q p H3 (s2.trans n3.same) (s2.free n3.fresh) m3 n3.here
    · refine ⟨_, _, h1, rfl, ?_⟩
      refine ⟨a, f, m, Δ, c, rfl, hD, .inl ⟨hb, fun C d H2 hc s2 hd => ?_⟩⟩
      obtain rfl := hc.one T.a_InvalidName
      refine ⟨true, T.s_InvalidName.exm T.x_InvalidName_InvalidName, fun _ a na => ?_, fun z => by cases z⟩
      refine ⟨rfl, rfl, d, _, _, rfl, hd, rfl, ?_⟩
      refine ⟨by show 2 ≤ sizeLine; decide, fun p H3 n3 m3 => ?_⟩
      exact q p H3 (s2.trans n3.same) (s2.free n3.fresh) m3 n3.here
    · refine ⟨_, _, h1, rfl, ?_⟩
      refine ⟨a, f, m, Δ, c, .non, rfl, hD, .inl ⟨hb, fun C d H2 hc s2 hd => ?_⟩⟩
      obtain rfl := hc.one T.a_InvalidName
      refine ⟨true, T.s_InvalidName.exm T.x_InvalidName_InvalidName, fun _ a na => ?_, fun z => by cases z⟩
      refine ⟨rfl, rfl, d, _, _, rfl, hd, rfl, ?_⟩
      refine ⟨by show 2 ≤ sizeLine; decide, fun p H3 n3 m3 => ?_⟩
      exact q p H3 (s2.trans n3.same) (s2.free n3.fresh) m3 n3.here
    · refine ⟨_, _, h1, rfl, ?_⟩
      refine ⟨a, f, m, Δ, c, .non, rfl, hD, .inl ⟨hb, fun C d H2 hc s2 hd => ?_⟩⟩
      obtain rfl := hc.one T.a_InvalidName
      refine ⟨true, T.s_InvalidName.exm T.x_InvalidName_InvalidName, fun _ a na => ?_, fun z => by cases z⟩
      refine ⟨rfl, rfl, d, _, _, rfl, hd, rfl, ?_⟩
      refine ⟨by show 2 ≤ sizeLine; decide, fun p H3 n3 m3 => ?_⟩
      exact q p H3 (s2.trans n3.same) (s2.free n3.fresh) m3 n3.here
    · refine ⟨_, _, h1, rfl, ?_⟩
      refine ⟨a, f, m, Δ, c, .non, rfl, hD, .inl ⟨hb, fun C d H2 hc s2 hd => ?_⟩⟩
      obtain rfl := hc.one T.a_InvalidName
      refine ⟨true, T.s_InvalidName.exm T.x_InvalidName_InvalidName, fun _ a na => ?_, fun z => by cases z⟩
      refine ⟨rfl, rfl, d, _, _, rfl, hd, rfl, ?_⟩
      refine ⟨by show 2 ≤ sizeLine; decide, fun p H3 n3 m3 => ?_⟩
      exact q p H3 (s2.trans n3.same) (s2.free n3.fresh) m3 n3.here
    · refine ⟨_, _, h1, rfl, ?_⟩
      refine ⟨a, f, m, Δ, c, .non, rfl, hD, .inl ⟨hb, fun C d H2 hc s2 hd => ?_⟩⟩
      obtain rfl := hc.one T.a_InvalidName
      refine ⟨true, T.s_InvalidName.exm T.x_InvalidName_InvalidName, fun _ a na => ?_, fun z => by cases z⟩
      refine ⟨rfl, rfl, d, _, _, rfl, hd, rfl, ?_⟩
      refine ⟨by show 2 ≤ sizeLine; decide, fun p H3 n3 m3 => ?_⟩
      exact q p H3 (s2.trans n3.same) (s2.free n3.fresh) m3 n3.here
  · rcases (by omega : i = 0 ∨ i = 1) with rfl | rfl
    · refine ⟨_, _, h1, rfl, ?_⟩
      refine ⟨a, f, m, Δ, c, k, rfl, hD, hk, k1, .inr (.inl ⟨n, rfl, hn, hb, fun C d H2 hc s2 hd => ?_⟩)⟩
      obtain rfl := hc.one T.a_InvalidText
      refine ⟨false, T.s_InvalidName.exm T.x_InvalidText_InvalidName, (fun z => by cases z), fun _ => ?_⟩
      refine ⟨true, T.s_InvalidText.exm T.x_InvalidText_InvalidText, fun _ a na => ?_, fun z => by cases z⟩
      refine ⟨rfl, rfl, d, _, _, rfl, hd, rfl, ?_⟩
      refine ⟨by show 2 ≤ sizeLine; decide, fun p H3 n3 m3 => ?_⟩
      exact q p H3 (s2.trans n3.same) (s2.free n3.fresh) m3 n3.here
    · refine ⟨_, _, h1, rfl, ?_⟩
      refine ⟨a, f, m, Δ, c, k, rfl, hD, hk, k1, .inr (.inl ⟨n, rfl, hn, hb, fun C d H2 hc s2 hd => ?_⟩)⟩
      obtain rfl := hc.one T.a_InvalidText
      refine ⟨false, T.s_InvalidName.exm T.x_InvalidText_InvalidName, (fun z => by cases z), fun _ => ?_⟩
      refine ⟨true, T.s_InvalidText.exm T.x_InvalidText_InvalidText, fun _ a na => ?_, fun z => by cases z⟩
      refine ⟨rfl, rfl, d, _, _, rfl, hd, rfl, ?_⟩
      refine ⟨by show 2 ≤ sizeLine; decide, fun p H3 n3 m3 => ?_⟩
      exact q p H3 (s2.trans n3.same) (s2.free n3.fresh) m3 n3.here
  · rcases (by omega : i = 2 ∨ i = 3 ∨ i = 4 ∨ i = 5 ∨ i = 6 ∨ i = 7 ∨ i = 8 ∨ i = 9) with rfl | rfl | rfl | rfl | rfl | rfl | rfl | rfl
    · refine ⟨_, _, h1, rfl, ?_⟩
      refine ⟨a, f, m, Δ, c, k, rfl, hD, hk, k1, .inr (.inl ⟨n, rfl, hn, hni, fun C d H2 hc s2 hd => ?_⟩)⟩
      obtain rfl := hc.one T.a_NoFile
      refine ⟨false, T.s_InvalidName.exm T.x_NoFile_InvalidName, (fun z => by cases z), fun _ => ?_⟩
      refine ⟨false, T.s_InvalidText.exm T.x_NoFile_InvalidText, (fun z => by cases z), fun _ => ?_⟩
      refine ⟨true, T.s_NoFile.exm T.x_NoFile_NoFile, fun _ a na => ?_, fun z => by cases z⟩
      refine ⟨rfl, rfl, d, _, _, rfl, hd, rfl, ?_⟩
      refine ⟨by show 2 ≤ sizeLine; decide, fun p H3 n3 m3 => ?_⟩
      exact q p H3 (s2.trans n3.same) (s2.free n3.fresh) m3 n3.here
    · refine ⟨_, _, h1, rfl, ?_⟩
      refine ⟨a, f, m, Δ, c, k, rfl, hD, hk, k1, .inr (.inl ⟨n, rfl, hn, hni, fun C d H2 hc s2 hd => ?_⟩)⟩
      obtain rfl := hc.one T.a_NoFile
      refine ⟨false, T.s_InvalidName.exm T.x_NoFile_InvalidName, (fun z => by cases z), fun _ => ?_⟩
      refine ⟨false, T.s_InvalidText.exm T.x_NoFile_InvalidText, (fun z => by cases z), fun _ => ?_⟩
      refine ⟨true, T.s_NoFile.exm T.x_NoFile_NoFile, fun _ a na => ?_, fun z => by cases z⟩
      refine ⟨rfl, rfl, d, _, _, rfl, hd, rfl, ?_⟩
      refine ⟨by show 2 ≤ sizeLine; decide, fun p H3 n3 m3 => ?_⟩
      exact q p H3 (s2.trans n3.same) (s2.free n3.fresh) m3 n3.here
    · refine ⟨_, _, h1, rfl, ?_⟩
      refine ⟨a, f, m, Δ, c, rfl, hD, .inr (.inl ⟨n, rfl, hn, hni, fun C d H2 hc s2 hd => ?_⟩)⟩
      obtain rfl := hc.one T.a_NoFile
      refine ⟨false, T.s_InvalidName.exm T.x_NoFile_InvalidName, (fun z => by cases z), fun _ => ?_⟩
      refine ⟨false, T.s_InvalidText.exm T.x_NoFile_InvalidText, (fun z => by cases z), fun _ => ?_⟩
      refine ⟨true, T.s_NoFile.exm T.x_NoFile_NoFile, fun _ a na => ?_, fun z => by cases z⟩
      refine ⟨rfl, rfl, d, _, _, rfl, hd, rfl, ?_⟩
      refine ⟨by show 2 ≤ sizeLine; decide, fun p H3 n3 m3 => ?_⟩
      exact q p H3 (s2.trans n3.same) (s2.free n3.fresh) m3 n3.here
    · refine ⟨_, _, h1, rfl, ?_⟩
      refine ⟨a, f, m, Δ, c, rfl, hD, .inr (.inl ⟨n, rfl, hn, hni, fun C d H2 hc s2 hd => ?_⟩)⟩
      obtain rfl := hc.one T.a_NoFile
      refine ⟨false, T.s_InvalidName.exm T.x_NoFile_InvalidName, (fun z => by cases z), fun _ => ?_⟩
      refine ⟨false, T.s_InvalidText.exm T.x_NoFile_InvalidText, (fun z => by cases z), fun _ => ?_⟩
      refine ⟨true, T.s_NoFile.exm T.x_NoFile_NoFile, fun _ a na => ?_, fun z => by cases z⟩
      refine ⟨rfl, rfl, d, _, _, rfl, hd, rfl, ?_⟩
      refine ⟨by show 2 ≤ sizeLine; decide, fun p H3 n3 m3 => ?_⟩
      exact q p H3 (s2.trans n3.same) (s2.free n3.fresh) m3 n3.here
    · refine ⟨_, _, h1, rfl, ?_⟩
      refine ⟨a, f, m, Δ, c, .non, rfl, hD, .inr (.inl ⟨n, rfl, hn, hni, fun C d H2 hc s2 hd => ?_⟩)⟩
      obtain rfl := hc.one T.a_NoFile
      refine ⟨false, T.s_InvalidName.exm T.x_NoFile_InvalidName, (fun z => by cases z), fun _ => ?_⟩
      refine ⟨false, T.s_InvalidText.exm T.x_NoFile_InvalidText, (fun z => by cases z), fun _ => ?_⟩
      refine ⟨true, T.s_NoFile.exm T.x_NoFile_NoFile, fun _ a na => ?_, fun z => by cases z⟩
      refine ⟨rfl, rfl, d, _, _, rfl, hd, rfl, ?_⟩
      refine ⟨by show 2 ≤ sizeLine; decide, fun p H3 n3 m3 => ?_⟩
      exact q p H3 (s2.trans n3.same) (s2.free n3.fresh) m3 n3.here
    · refine ⟨_, _, h1, rfl, ?_⟩
      refine ⟨a, f, m, Δ, c, .non, rfl, hD, .inr (.inl ⟨n, rfl, hn, hni, fun C d H2 hc s2 hd => ?_⟩)⟩
      obtain rfl := hc.one T.a_NoFile
      refine ⟨false, T.s_InvalidName.exm T.x_NoFile_InvalidName, (fun z => by cases z), fun _ => ?_⟩
      refine ⟨false, T.s_InvalidText.exm T.x_NoFile_InvalidText, (fun z => by cases z), fun _ => ?_⟩
      refine ⟨true, T.s_NoFile.exm T.x_NoFile_NoFile, fun _ a na => ?_, fun z => by cases z⟩
      refine ⟨rfl, rfl, d, _, _, rfl, hd, rfl, ?_⟩
      refine ⟨by show 2 ≤ sizeLine; decide, fun p H3 n3 m3 => ?_⟩
      exact q p H3 (s2.trans n3.same) (s2.free n3.fresh) m3 n3.here
    · refine ⟨_, _, h1, rfl, ?_⟩
      refine ⟨a, f, m, Δ, c, .non, rfl, hD, .inr (.inl ⟨n, rfl, hn, hni, fun C d H2 hc s2 hd => ?_⟩)⟩
      obtain rfl := hc.one T.a_NoFile
      refine ⟨false, T.s_InvalidName.exm T.x_NoFile_InvalidName, (fun z => by cases z), fun _ => ?_⟩
      refine ⟨false, T.s_InvalidText.exm T.x_NoFile_InvalidText, (fun z => by cases z), fun _ => ?_⟩
      refine ⟨true, T.s_NoFile.exm T.x_NoFile_NoFile, fun _ a na => ?_, fun z => by cases z⟩
      refine ⟨rfl, rfl, d, _, _, rfl, hd, rfl, ?_⟩
      refine ⟨by show 2 ≤ sizeLine; decide, fun p H3 n3 m3 => ?_⟩
      exact q p H3 (s2.trans n3.same) (s2.free n3.fresh) m3 n3.here
    · refine ⟨_, _, h1, rfl, ?_⟩
      refine ⟨a, f, m, Δ, c, .non, rfl, hD, .inr (.inl ⟨n, rfl, hn, hni, fun C d H2 hc s2 hd => ?_⟩)⟩
      obtain rfl := hc.one T.a_NoFile
      refine ⟨false, T.s_InvalidName.exm T.x_NoFile_InvalidName, (fun z => by cases z), fun _ => ?_⟩
      refine ⟨false, T.s_InvalidText.exm T.x_NoFile_InvalidText, (fun z => by cases z), fun _ => ?_⟩
      refine ⟨true, T.s_NoFile.exm T.x_NoFile_NoFile, fun _ a na => ?_, fun z => by cases z⟩
      refine ⟨rfl, rfl, d, _, _, rfl, hd, rfl, ?_⟩
      refine ⟨by show 2 ≤ sizeLine; decide, fun p H3 n3 m3 => ?_⟩
      exact q p H3 (s2.trans n3.same) (s2.free n3.fresh) m3 n3.here
  · rcases (by omega : i = 0 ∨ i = 1 ∨ i = 2 ∨ i = 3 ∨ i = 4 ∨ i = 5 ∨ i = 6 ∨ i = 7 ∨ i = 8 ∨ i = 9) with rfl | rfl | rfl | rfl | rfl | rfl | rfl | rfl | rfl | rfl
    · obtain ⟨rfl, hm, hto⟩ := ht (by decide)
      refine ⟨_, _, h1, rfl, ?_⟩
      refine ⟨a, f, m, Δ, c, k, rfl, hD, hk, k1, .inr (.inr ⟨n, t, rfl, rfl, hn, hm, hto, fun H2 kp hD2 => ?_⟩)⟩
      refine ⟨by show 2 ≤ sizeLine; decide, fun p H3 n3 m3 => ?_⟩
      obtain ⟨_, _, _, _, _, _, g1, g2, g3, _⟩ := id hD2
      exact q p H3 (kp.nw n3) (fr kp (by rw [g1]; simp) (by rw [g2]; simp) (by rw [g3]; simp) n3.fresh) m3 (hD2.same n3.same) n3.here
    · obtain ⟨rfl, hm, hto⟩ := ht (by decide)
      refine ⟨_, _, h1, rfl, ?_⟩
      refine ⟨a, f, m, Δ, c, k, rfl, hD, hk, k1, .inr (.inr ⟨n, t, rfl, rfl, hn, hm, hto, fun H2 kp hD2 => ?_⟩)⟩
      refine ⟨by show 2 ≤ sizeLine; decide, fun p H3 n3 m3 => ?_⟩
      obtain ⟨_, _, _, _, _, _, g1, g2, g3, _⟩ := id hD2
      exact q p H3 (kp.nw n3) (fr kp (by rw [g1]; simp) (by rw [g2]; simp) (by rw [g3]; simp) n3.fresh) m3 (hD2.same n3.same) n3.here
    · refine ⟨_, _, h1, rfl, ?_⟩
      refine ⟨a, f, m, Δ, c, k, rfl, hD, hk, k1, .inr (.inr ⟨n, rfl, hn, hni (by decide), fun H2 kp hD2 => ?_⟩)⟩
      refine ⟨by show 2 ≤ sizeLine; decide, fun p H3 n3 m3 => ?_⟩
      obtain ⟨_, _, _, _, _, _, g1, g2, g3, _⟩ := id hD2
      exact q p H3 (kp.nw n3) (fr kp (by rw [g1]; simp) (by rw [g2]; simp) (by rw [g3]; simp) n3.fresh) m3 (hD2.same n3.same) n3.here
    · refine ⟨_, _, h1, rfl, ?_⟩
      refine ⟨a, f, m, Δ, c, k, rfl, hD, hk, k1, .inr (.inr ⟨n, rfl, hn, hni (by decide), fun H2 kp hD2 => ?_⟩)⟩
      refine ⟨by show 2 ≤ sizeLine; decide, fun p H3 n3 m3 => ?_⟩
      obtain ⟨_, _, _, _, _, _, g1, g2, g3, _⟩ := id hD2
      exact q p H3 (kp.nw n3) (fr kp (by rw [g1]; simp) (by rw [g2]; simp) (by rw [g3]; simp) n3.fresh) m3 (hD2.same n3.same) n3.here
    · refine ⟨_, _, h1, rfl, ?_⟩
      refine ⟨a, f, m, Δ, c, rfl, hD, .inr (.inr ⟨n, rfl, hn, hni (by decide), fun H2 kp hD2 => ?_⟩)⟩
      refine ⟨by show 2 ≤ sizeLine; decide, fun p H3 n3 m3 => ?_⟩
      obtain ⟨_, _, _, _, _, _, g1, g2, g3, _⟩ := id hD2
      exact q p H3 (kp.nw n3) (fr kp (by rw [g1]; simp) (by rw [g2]; simp) (by rw [g3]; simp) n3.fresh) m3 (hD2.same n3.same) n3.here
    · refine ⟨_, _, h1, rfl, ?_⟩
      refine ⟨a, f, m, Δ, c, rfl, hD, .inr (.inr ⟨n, rfl, hn, hni (by decide), fun H2 kp hD2 => ?_⟩)⟩
      refine ⟨by show 2 ≤ sizeLine; decide, fun p H3 n3 m3 => ?_⟩
      obtain ⟨_, _, _, _, _, _, g1, g2, g3, _⟩ := id hD2
      exact q p H3 (kp.nw n3) (fr kp (by rw [g1]; simp) (by rw [g2]; simp) (by rw [g3]; simp) n3.fresh) m3 (hD2.same n3.same) n3.here
    · refine ⟨_, _, h1, rfl, ?_⟩
      refine ⟨a, f, m, Δ, c, .non, rfl, hD, .inr (.inr ⟨n, rfl, hn, hni (by decide), fun H2 s2 => ?_⟩)⟩
      refine ⟨by show 2 ≤ sizeLine; decide, fun p H3 n3 m3 => ?_⟩
      have e : c + one 6 = c := Int.add_zero c
      rw [e] at q
      exact q p H3 (Kp.same (s2.trans n3.same)) (s2.free n3.fresh) m3 (hD.same (s2.trans n3.same)) n3.here
    · refine ⟨_, _, h1, rfl, ?_⟩
      refine ⟨a, f, m, Δ, c, .non, rfl, hD, .inr (.inr ⟨n, rfl, hn, hni (by decide), fun H2 s2 => ?_⟩)⟩
      refine ⟨by show 2 ≤ sizeLine; decide, fun p H3 n3 m3 => ?_⟩
      have e : c + one 7 = c := Int.add_zero c
      rw [e] at q
      exact q p H3 (Kp.same (s2.trans n3.same)) (s2.free n3.fresh) m3 (hD.same (s2.trans n3.same)) n3.here
    · refine ⟨_, _, h1, rfl, ?_⟩
      refine ⟨a, f, m, Δ, c, .non, rfl, hD, .inr (.inr ⟨n, rfl, hn, hni (by decide), fun H2 s2 => ?_⟩)⟩
      refine ⟨by show 2 ≤ sizeLine; decide, fun p H3 n3 m3 => ?_⟩
      have e : c + one 8 = c := Int.add_zero c
      rw [e] at q
      exact q p H3 (Kp.same (s2.trans n3.same)) (s2.free n3.fresh) m3 (hD.same (s2.trans n3.same)) n3.here
    · refine ⟨_, _, h1, rfl, ?_⟩
      refine ⟨a, f, m, Δ, c, .non, rfl, hD, .inr (.inr ⟨n, rfl, hn, hni (by decide), fun H2 s2 => ?_⟩)⟩
      refine ⟨by show 2 ≤ sizeLine; decide, fun p H3 n3 m3 => ?_⟩
      have e : c + one 9 = c := Int.add_zero c
      rw [e] at q
      exact q p H3 (Kp.same (s2.trans n3.same)) (s2.free n3.fresh) m3 (hD.same (s2.trans n3.same)) n3.here

/-! ### Disk_names(self), level 1 -/
abbrev s_Disk_names : Stmt := (clsB (top 19)).getD 7 (.Pass ⟨0, 0, 0, 0⟩)
abbrev N_Disk_names : List Str := ["self"]
theorem sc_Disk_names : FnScope N_Disk_names ["self"] (defScope s_Disk_names) := ⟨rfl, rfl, rfl, by decide +kernel, rfl, by decide +kernel, by decide +kernel⟩
theorem ok_Disk_names (T : Txt K mg e_InvalidName e_InvalidText e_NoFile e_QueueError e_Disk) (D : Dm K e_Disk "names" "Disk.names" s_Disk_names ["self"]) : Mt P w K mg base CX0 1 e_Disk "names" ["self"] (sp_Disk_names K) := by
  refine mt1 D sc_Disk_names fun f cdv A outer s H a_self Q E hr h => ⟨_, (pss_one (ps_ret (pe_callB (k_sortS K) (by rfl) T.n_sorted bt_sorted (pa_cons (pe_callTy (c_listD rfl) (by rfl) T.n_list bt_list (pa_cons (pe_fdC T.k_Disk T.f_Disk_files (pz 0)) pa_nil)) pa_nil)))), ?_⟩
  obtain ⟨a, f, m, Δ, c, lf, rfl, hD, hl, q⟩ := h
  obtain ⟨nfm, C, dx, kf, km, hc, h1, h2, h3, t1, t2⟩ := id hD
  obtain rfl := hc.one T.a_Disk
  refine ⟨_, _, _, h1, rfl, ?_⟩
  refine ⟨_, h2, fun p H2 n2 => ?_⟩
  refine ⟨Δ.names, SqL.of (by rw [n2.here, t1.mem]), hl, fun ys p' H3 pm so n3 => ?_⟩
  exact q ys p' H3 pm so (n2.same.trans n3.same) (n2.same.free n3.fresh) n3.here

/-! ### Disk_ops(self), level 1 -/
abbrev s_Disk_ops : Stmt := (clsB (top 19)).getD 9 (.Pass ⟨0, 0, 0, 0⟩)
abbrev N_Disk_ops : List Str := ["self"]
theorem sc_Disk_ops : FnScope N_Disk_ops ["self"] (defScope s_Disk_ops) := ⟨rfl, rfl, rfl, by decide +kernel, rfl, by decide +kernel, by decide +kernel⟩
theorem ok_Disk_ops (T : Txt K mg e_InvalidName e_InvalidText e_NoFile e_QueueError e_Disk) (D : Dm K e_Disk "ops" "Disk.ops" s_Disk_ops ["self"]) : Mt P w K mg base CX0 1 e_Disk "ops" ["self"] (sp_Disk_ops K) := by
  refine mt1 D sc_Disk_ops fun f cdv A outer s H a_self Q E hr h => ⟨_, (pss_one (ps_ret (pe_fdC T.k_Disk T.f_Disk_calls (pz 0)))), ?_⟩
  obtain ⟨a, f, m, Δ, c, lf, rfl, hD, q⟩ := h
  obtain ⟨nfm, C, dx, kf, km, hc, h1, h2, h3, t1, t2⟩ := id hD
  obtain rfl := hc.one T.a_Disk
  exact ⟨_, _, _, h1, rfl, q⟩

/-! ### _law_alike(_law_disk, _law_files, _law_counts), level 5 -/
abbrev s__law_alike : Stmt := top 35
abbrev N__law_alike : List Str := ["_law_disk", "_law_files", "_law_counts", "_law_name", "_law_names"]
theorem sc__law_alike : FnScope N__law_alike ["_law_disk", "_law_files", "_law_counts"] (defScope s__law_alike) := ⟨rfl, rfl, rfl, by decide +kernel, rfl, by decide +kernel, by decide +kernel⟩
theorem ok__law_alike (T : Txt K mg e_InvalidName e_InvalidText e_NoFile e_QueueError e_Disk) (M_Disk_read : Mt P w K mg base (L2.CX P w) 4 e_Disk "read" ["self", "name"] (sp_Disk_read K)) (M_Disk_synced : Mt P w K mg base (L2.CX P w) 4 e_Disk "synced" ["self", "name"] (sp_Disk_synced K)) (M_Disk_names : Mt P w K mg base CX0 1 e_Disk "names" ["self"] (sp_Disk_names K)) (M_Disk_ops : Mt P w K mg base CX0 1 e_Disk "ops" ["self"] (sp_Disk_ops K)) (D : Df K mg "_law_alike" s__law_alike ["_law_disk", "_law_files", "_law_counts"]) : Cg P w K mg base CX0 5 "_law_alike" ["_law_disk", "_law_files", "_law_counts"] (sp__law_alike K) := by
  refine cg3 D sc__law_alike fun f cdv A outer s H a_disk a_files a_counts Q E hr h => ⟨_, (pss_cons (ps_for PassesOwn.never rfl (pi_lzK K (pe_ifExp (pt_cmpZ (k_eq K hr.room.units) (pe_op o_mod (pe_callTy c_int (by rfl) T.n_int bt_int (pa_cons (pe_ix (k_ix K) (pz 2) pe_int (fun _ _ => rfl)) pa_nil)) pe_int) pe_int (nomark _)) (pe_rv K (pe_callB (k_sortS K) (by rfl) T.n_sorted bt_sorted (pa_cons (pe_callTy (c_listD rfl) (by rfl) T.n_list bt_list (pa_cons (pz 1) pa_nil)) pa_nil))) (pe_lz pa_nil))) (pg_name (i := 3) sc__law_alike.nd rfl (Or.inl rfl)) 
      (pss_one (ps_if (pt_cmpZ (k_ne K hr.room.units) (pe_callB (c_repr hr) (by rfl) T.n_repr bt_repr (pa_cons (pe_lz (pa_cons (pe_mtA M_Disk_synced (hr.room.mono (by decide)) atL (pz 0) (pa_cons (pz 3) pa_nil)) (pa_cons (pe_mtA M_Disk_read (hr.room.mono (by decide)) atL (pz 0) (pa_cons (pz 3) pa_nil)) pa_nil))) pa_nil)) (pe_callB (c_repr hr) (by rfl) T.n_repr bt_repr (pa_cons (pe_rv K (pe_dg (hu_of hr.room) (pz 1) (pz 3) (fun _ _ => rfl))) pa_nil)) (nomark _)) 
        (pss_one (ps_ret pe_bl)) pss_nil)))
    (pss_cons (ps_set (i := 4) sc__law_alike.nd rfl (Or.inl rfl) (pe_mtA0 M_Disk_names (hr.room.mono (by decide)) at0 (pz 0)))
    (pss_cons (ps_if (PW.pt (pw_or (pt_not (pt_trK K (pe_callB (k_isi K) (by rfl) T.n_isinstance bt_isinstance (pa_cons (pz 4) (pa_cons (pe_bltn (v := .ty "list") (by rfl) T.n_list bt_list rfl) pa_nil))))) (pw_or (pt_cmpZ (k_ne K hr.room.units) (pz 4) (pe_callB (k_sortS K) (by rfl) T.n_sorted bt_sorted (pa_cons (pe_callTy (c_listD rfl) (by rfl) T.n_list bt_list (pa_cons (pz 1) pa_nil)) pa_nil)) (nomark _)) (pw_or1 (pt_cmpZ (k_ne K hr.room.units) (pe_callB (c_repr hr) (by rfl) T.n_repr bt_repr (pa_cons (pe_mtA0 M_Disk_ops (hr.room.mono (by decide)) at0 (pz 0)) pa_nil)) (pe_callB (c_repr hr) (by rfl) T.n_repr bt_repr (pa_cons (pe_ix (k_ix K) (pz 2) pe_int (fun _ _ => rfl)) pa_nil)) (nomark _)))))) 
      (pss_one (ps_ret pe_bl)) pss_nil)
    (pss_cons (ps_expr (pe_mlK K PySem.F.slot_list_append PySem.F.type_list_append m_append (pz 4) (pa_cons pe_str pa_nil)))
    (pss_cons (ps_asg pe_str (pg_sub (pz 4) pe_int s_list))
    (pss_cons (ps_for PassesOwn.never rfl (pi_lzK K (pe_callB (k_sortS K) (by rfl) T.n_sorted bt_sorted (pa_cons (pe_callTy (c_listD rfl) (by rfl) T.n_list bt_list (pa_cons (pz 1) pa_nil)) pa_nil))) (pg_name (i := 3) sc__law_alike.nd rfl (Or.inl rfl)) 
      (pss_one (ps_if (pt_cmpZ (k_ne K hr.room.units) (pe_callB (c_repr hr) (by rfl) T.n_repr bt_repr (pa_cons (pe_lz (pa_cons (pe_mtA M_Disk_read (hr.room.mono (by decide)) atL (pz 0) (pa_cons (pz 3) pa_nil)) (pa_cons (pe_mtA M_Disk_synced (hr.room.mono (by decide)) atL (pz 0) (pa_cons (pz 3) pa_nil)) pa_nil))) pa_nil)) (pe_callB (c_repr hr) (by rfl) T.n_repr bt_repr (pa_cons (pe_dg (hu_of hr.room) (pz 1) (pz 3) (fun _ _ => rfl)) pa_nil)) (nomark _)) 
        (pss_one (ps_ret pe_bl)) pss_nil)))
    (pss_one (ps_ret (pe_cmpR (k_eq K hr.room.units) (pe_mtA0 M_Disk_names (hr.room.mono (by decide)) at0 (pz 0)) (pe_callB (k_sortS K) (by rfl) T.n_sorted bt_sorted (pa_cons (pe_callTy (c_listD rfl) (by rfl) T.n_list bt_list (pa_cons (pz 1) pa_nil)) pa_nil)) (nomark _)))))))))), ?_⟩
  obtain ⟨a, f, m, Δ, c, lf, L, cc, k, rfl, rfl, rfl, hD, hL, hcc, hk, k1, c0, c1, q⟩ := h
  obtain ⟨kvs, adr, hd, tb, hp⟩ := id hL
  obtain ⟨nfm, C, dx, kf, km, hc, h1, h2, h3, t1, t2⟩ := id hD
  obtain rfl := hc.one T.a_Disk
  have swI : ∀ n ∈ Δ.names, Sw 0 30000 (.int (Δ.sy n : Nat)) := fun n hn => sw_int (by omega) (by have := hk.sy n hn; omega)
  have swT : ∀ n ∈ Δ.names, Sw 0 30000 (.str (Δ.txt n)) := fun n hn => sw_str (by have := hk.tx n hn; omega) (hk.ch n hn)
  have nl : Δ.names.length < 64 := by have := hk.len; omega
  refine ⟨_, _, .inl (SqL.of hcc), rfl, ?_⟩
  refine ⟨by show (0 : Int) < _; decide, ?_⟩
  refine ite2 (fun hev => ?_) (fun hev => ?_)
  case' refine_1 =>
    refine ⟨kvs, hd, fun pl H1 n1 => ?_⟩
    refine ⟨Δ.names, SqL.of (by rw [n1.here, tb.mem]), nl, fun ys pk H2 pm so n2 => ?_⟩
    refine ⟨_, SqL.of n2.here, fun pr H3 n3 => ?_⟩
    have s3 := (n1.same.trans n2.same).trans n3.same
    obtain ⟨zs, hpr, hz⟩ : ∃ zs : List Str, H3 pr = some (.lst (zs.map V.str)) ∧ ∀ z ∈ zs, z ∈ Δ.names := ⟨ys.reverse, by rw [n3.here, List.map_reverse], fun z hz => pm.mem_iff.mp (List.mem_reverse.mp hz)⟩
    clear n3 n2 n1
  case' refine_2 =>
    refine ⟨by show 0 ≤ sizeLine; decide, fun pr H3 n3 => ?_⟩
    have s3 := n3.same
    obtain ⟨zs, hpr, hz⟩ : ∃ zs : List Str, H3 pr = some (.lst (zs.map V.str)) ∧ ∀ z ∈ zs, z ∈ Δ.names := ⟨[], n3.here, fun z hz => by cases hz⟩
    clear n3
  all_goals
    refine ⟨⟨_, SqL.of hpr⟩, for_w (wk_list (zs.map V.str)) (fun i σ H' => Same H3 H' ∧ ∃ v w, σ = [some (.ref a), some (.ref L), some (.ref cc), v, w]) ⟨Same.refl _, none, none, rfl⟩ (fun i σ H' p => SqL.of (p.1 _ _ hpr)) ?_ ?_⟩
    · skip
      rintro i x σ H4 hx ⟨s4, v4, w4, rfl⟩
      obtain ⟨n, hn, rfl⟩ : ∃ n, n ∈ zs ∧ x = .str n := by
        rw [List.getElem?_map] at hx
        cases e : zs[i]? with
        | none => rw [e] at hx; cases hx
        | some n => rw [e] at hx; exact ⟨n, List.mem_of_getElem? e, (Option.some.inj hx).symm⟩
      have hin := hz n hn
      have s04 := s3.trans s4
      have good := hk.nm n hin
      refine ⟨_, _, s04 _ _ h1, rfl, ?_⟩
      refine ⟨a, f, m, Δ, c, lf, rfl, hD.same s04, .inr (.inr ⟨n, rfl, good, hin, fun H5 s5 => ?_⟩)⟩
      have s05 := s04.trans s5
      refine ⟨_, _, s05 _ _ h1, rfl, ?_⟩
      refine ⟨a, f, m, Δ, c, lf, rfl, hD.same s05, .inr (.inr ⟨n, rfl, good, hin, fun H6 s6 => ?_⟩)⟩
      have s06 := s05.trans s6
      refine ⟨by show 2 ≤ sizeLine; decide, fun p6 H7 n7 => ?_⟩
      have s07 := s06.trans n7.same
      obtain ⟨d1, d2, d3, d4⟩ := sw_two (swI n hin) (swT n hin) rfl rfl
      refine ⟨false, _, dzTwo n7.here (.int _) (.str _), d1, d2, d3, d4, ?_⟩
      refine ⟨⟨_, s07 _ _ hd⟩, ?_⟩
      refine ⟨kvs, Sum.inr n, _, s07 _ _ hd, rfl, tb.at hin, ?_⟩
      refine ⟨_, SqL.of (s07 _ _ (hp n hin)), fun p8 H8 n8 => ?_⟩
      have h8 : H8 p8 = some (.lst [.int (Δ.sy n : Nat), .str (Δ.txt n)]) := n8.here
      refine ⟨false, _, dzTwo h8 (.int _) (.str _), d1, d2, d3, d4, ?_⟩
      refine iteN (nself _) ?_
      exact ⟨(s4.trans (s5.trans (s6.trans n7.same))).trans n8.same, _, _, rfl⟩
    · rintro σ H4 ⟨s4, v4, w4, rfl⟩
      have s04 := s3.trans s4
      refine ⟨_, _, s04 _ _ h1, rfl, ?_⟩
      refine ⟨a, f, m, Δ, c, lf, rfl, hD.same s04, nl, fun ys pn H5 pm so s5 fr hpn => ?_⟩
      have s05 := s04.trans s5
      refine ⟨by decide, "list", .inl ⟨rfl, _, SqL.of hpn⟩, ?_⟩
      rw [isK_list]
      walk_at "past"
      refine ⟨kvs, s05 _ _ hd, fun p6 H6 n6 => ?_⟩
      refine ⟨Δ.names, SqL.of (by rw [n6.here, tb.mem]), nl, fun ys2 p7 H7 pm2 so2 n7 => ?_⟩
      have s57 := n6.same.trans n7.same
      have s07 := s05.trans s57
      obtain rfl : ys2 = ys := sorted_one (pm2.trans pm.symm) so2 so
      have ynm : ∀ j ∈ ys2, nmS j = true := fun j hj => hk.nm j (pm.mem_iff.mp hj)
      obtain ⟨d, e, he1, he2, e3, e4, e5⟩ := eq_names (K := K) ynm (SqL.of (s57 _ _ hpn)) (SqL.of n7.here)
      refine ⟨d, e, he1, he2, e3, e4, ?_⟩
      rw [e5]
      refine zB_bl ?_
      dsimp only
      rw [if_neg (show ¬ (true ^^ true) = true by decide)]
      refine ⟨_, _, s07 _ _ h1, rfl, ?_⟩
      refine ⟨a, f, m, Δ, c, lf, rfl, hD.same s07, ?_⟩
      have sc := sw_int c0 (by omega)
      refine ⟨true, .int c, .int c, fun _ => rfl, sc.sh, Nat.le_trans sc.dp (by decide), sz (Nat.le_trans sc.ln (by decide)), ?_⟩
      refine ⟨_, _, .inl (SqL.of (s07 _ _ hcc)), rfl, ?_⟩
      refine ⟨true, .int c, .int c, fun _ => rfl, sc.sh, Nat.le_trans sc.dp (by decide), sz (Nat.le_trans sc.ln (by decide)), ?_⟩
      refine iteN (nself _) ?_
      refine ⟨⟨_, SqL.of (s57 _ _ hpn)⟩, _, s57 _ _ hpn, szlt (by rw [List.length_map, pm.length_eq]; omega), fun H8 w8 => ?_⟩
      refine ⟨_, 0, w8.here, ix0 (by simp), fun H9 w9 => ?_⟩
      have s09 := (s07.wr (s04.free fr) w8).wr (s04.free fr) w9
      clear w9 w8 hpr hz s3 s4 s04 s05 s57 s07
      refine ⟨kvs, s09 _ _ hd, fun pl H10 n10 => ?_⟩
      refine ⟨Δ.names, SqL.of (by rw [n10.here, tb.mem]), nl, fun zs pr H11 pm3 so3 n11 => ?_⟩
      have hz : ∀ z ∈ zs, z ∈ Δ.names := fun z hz => pm3.mem_iff.mp hz
      have s3 := (s09.trans n10.same).trans n11.same
      have hpr := n11.here
      clear n11 n10
      refine ⟨⟨_, SqL.of hpr⟩, for_w (wk_list (zs.map V.str)) (fun i σ H' => Same H11 H' ∧ ∃ v w, σ = [some (.ref a), some (.ref L), some (.ref cc), v, w]) ⟨Same.refl _, _, _, rfl⟩ (fun i σ H' p => SqL.of (p.1 _ _ hpr)) ?_ ?_⟩
      · skip
        rintro i x σ H4 hx ⟨s4, v4, w4, rfl⟩
        obtain ⟨n, hn, rfl⟩ : ∃ n, n ∈ zs ∧ x = .str n := by
          rw [List.getElem?_map] at hx
          cases e : zs[i]? with
          | none => rw [e] at hx; cases hx
          | some n => rw [e] at hx; exact ⟨n, List.mem_of_getElem? e, (Option.some.inj hx).symm⟩
        have hin := hz n hn
        have s04 := s3.trans s4
        have good := hk.nm n hin
        refine ⟨_, _, s04 _ _ h1, rfl, ?_⟩
        refine ⟨a, f, m, Δ, c, lf, rfl, hD.same s04, .inr (.inr ⟨n, rfl, good, hin, fun H5 s5 => ?_⟩)⟩
        have s05 := s04.trans s5
        refine ⟨_, _, s05 _ _ h1, rfl, ?_⟩
        refine ⟨a, f, m, Δ, c, lf, rfl, hD.same s05, .inr (.inr ⟨n, rfl, good, hin, fun H6 s6 => ?_⟩)⟩
        have s06 := s05.trans s6
        refine ⟨by show 2 ≤ sizeLine; decide, fun p6 H7 n7 => ?_⟩
        have s07 := s06.trans n7.same
        obtain ⟨d1, d2, d3, d4⟩ := sw_two (swT n hin) (swI n hin) rfl rfl
        refine ⟨false, _, dzTwo n7.here (.str _) (.int _), d1, d2, d3, d4, ?_⟩
        refine ⟨⟨_, s07 _ _ hd⟩, ?_⟩
        refine ⟨kvs, Sum.inr n, _, s07 _ _ hd, rfl, tb.at hin, ?_⟩
        refine ⟨false, _, dzTwo (s07 _ _ (hp n hin)) (.str _) (.int _), d1, d2, d3, d4, ?_⟩
        refine iteN (nself _) ?_
        exact ⟨s4.trans (s5.trans (s6.trans n7.same)), _, _, rfl⟩
      · rintro σ H4 ⟨s4, v5, w5, rfl⟩
        have s04 := s3.trans s4
        refine ⟨_, _, s04 _ _ h1, rfl, ?_⟩
        refine ⟨a, f, m, Δ, c, lf, rfl, hD.same s04, nl, fun ys pn H5 pm so s5 fr hpn => ?_⟩
        have s05 := s04.trans s5
        refine ⟨kvs, s05 _ _ hd, fun p6 H6 n6 => ?_⟩
        refine ⟨Δ.names, SqL.of (by rw [n6.here, tb.mem]), nl, fun ys2 p7 H7 pm2 so2 n7 => ?_⟩
        have s57 := n6.same.trans n7.same
        obtain rfl : ys2 = ys := sorted_one (pm2.trans pm.symm) so2 so
        have ynm : ∀ j ∈ ys2, nmS j = true := fun j hj => hk.nm j (pm.mem_iff.mp hj)
        obtain ⟨d, e, he1, he2, e3, e4, e5⟩ := eq_names (K := K) ynm (SqL.of (s57 _ _ hpn)) (SqL.of n7.here)
        refine ⟨d, e, he1, he2, e3, e4, ?_⟩
        rw [e5]
        exact q H7 (s05.trans s57)

/-! ### Disk___init__(self), level 1 -/
abbrev s_Disk___init__ : Stmt := (clsB (top 19)).getD 0 (.Pass ⟨0, 0, 0, 0⟩)
abbrev N_Disk___init__ : List Str := ["self"]
theorem sc_Disk___init__ : FnScope N_Disk___init__ ["self"] (defScope s_Disk___init__) := ⟨rfl, rfl, rfl, by decide +kernel, rfl, by decide +kernel, by decide +kernel⟩
theorem ok_Disk___init__ (T : Txt K mg e_InvalidName e_InvalidText e_NoFile e_QueueError e_Disk) {fI : Addr} {fd : FuncData} (F : Fun K "__init__" "Disk.__init__" s_Disk___init__ fI fd) : FnOk P w K mg base CX0 1 fI fd ["self"] (sp_Disk___init__ K) := by
  refine ini1 F sc_Disk___init__ fun cdv A outer s H a_self Q E hr h => ⟨_, (pss_cons (ps_fdC T.k_Disk T.f_Disk_files (pz 0) pe_dnewK)
    (pss_cons (ps_fdC T.k_Disk T.f_Disk_marks (pz 0) pe_dnewK)
    (pss_cons (ps_fdC T.k_Disk T.f_Disk_calls (pz 0) pe_int)
    (pss_one (ps_fdC T.k_Disk T.f_Disk_left (pz 0) pe_non))))), ?_⟩
  obtain ⟨a, C, dx, rfl, hc, h1, q⟩ := h
  obtain rfl := hc.one T.a_Disk
  refine fun f hf => ?_
  have n1 := nw (o := .dK []) hf
  generalize upd H f (.dK []) = H1 at n1
  refine ⟨_, _, n1.keep h1, by decide, fun H2 w2 => ?_⟩
  refine fun m hm => ?_
  have n3 := nw (o := .dK []) hm
  generalize upd H2 m (.dK []) = H3 at n3
  refine ⟨_, _, n3.keep w2.here, by show 1 < 1000; decide, fun H4 w4 => ?_⟩
  refine ⟨_, _, w4.here, by show 2 < 1000; decide, fun H5 w5 => ?_⟩
  refine ⟨_, _, w5.here, by show 3 < 1000; decide, fun H6 w6 => ?_⟩
  have nfa : f ≠ a := fun z => by rw [z, h1] at hf; cases hf
  have nma : m ≠ a := fun z => by rw [z, w2.here] at hm; cases hm
  have f2 := w2.keep nfa n1.here
  have nfm : f ≠ m := fun z => by rw [← z, f2] at hm; cases hm
  have hm1 : H m = none := by
    cases e : H m with
    | none => rfl
    | some o => rw [w2.keep nma (n1.keep e)] at hm; cases hm
  refine q f m H6 hf hm1 (Kp.wr (Kp.wr (Kp.wr ((Kp.wr (Kp.same n1.same) (by simp) w2).nw n3) (by simp) w4) (by simp) w5) (by simp) w6) ?_
  exact ⟨nfm, _, _, _, _, hc, w6.here, w6.keep nfa (w5.keep nfa (w4.keep nfa (n3.keep f2))), w6.keep nma (w5.keep nma (w4.keep nma n3.here)), Tb.nil, Tb.nil⟩

/-! ### law(_law_script), level 6 -/
abbrev s_law : Stmt := top 36
abbrev N_law : List Str := ["_law_script", "_law_k", "_law_box_here", "_law_disks", "_law_files", "_law_counts", "_law_turn", "_law_at", "_law_way", "_law_name", "_law_text", "_law_due_here", "_law_other"]
theorem sc_law : FnScope N_law ["_law_script"] (defScope s_law) := ⟨rfl, rfl, rfl, by decide +kernel, rfl, by decide +kernel, by decide +kernel⟩
theorem ok_law (T : Txt K mg e_InvalidName e_InvalidText e_NoFile e_QueueError e_Disk) (C__law_box : Ct P w K mg base CX0 1 "_law_box" ["_law_great"] (sp__law_box K)) (C__law_cell : Ct P w K mg base CX0 1 "_law_cell" ["_law_script", "_law_k"] (sp__law_cell K)) (C__law_take : Ct P w K mg base CX0 1 "_law_take" ["_law_box_here", "_law_many"] (sp__law_take K)) (C__law_any_text : Ct P w K mg base CX0 3 "_law_any_text" ["_law_box_here"] (sp__law_any_text K)) (C__law_any_name : Ct P w K mg base CX0 3 "_law_any_name" ["_law_box_here", "_law_files"] (sp__law_any_name K)) (C__law_pool : Ct P w K mg base CX0 1 "_law_pool" [] (sp__law_pool K)) (C__law_due : Ct P w K mg base CX0 4 "_law_due" ["_law_files", "_law_counts", "_law_way", "_law_name", "_law_text"] (sp__law_due K)) (C__law_same : Cg P w K mg base CX0 1 "_law_same" ["_law_told_here", "_law_due_here"] (sp__law_same K)) (C__law_told : Ct P w K mg base CX0 5 "_law_told" ["_law_disk", "_law_way", "_law_name", "_law_text"] (sp__law_told K)) (C__law_alike : Cg P w K mg base CX0 5 "_law_alike" ["_law_disk", "_law_files", "_law_counts"] (sp__law_alike K)) (N_Disk : Kn P w K mg base 1 "Disk" e_Disk (sp_Disk___init__ K)) (D : Df K mg "law" s_law ["_law_script"]) : Cg P w K mg base CX0 6 "law" ["_law_script"] (sp_law K) := by
  refine cg1 D sc_law fun f cdv A outer s H a_script Q E hr h => ⟨_, (pss_cons (ps_for PassesOwn.never rfl (pi_rngZ (by rfl) T.n_range (pa_cons (pe_callB (c_max rfl) (by rfl) T.n_max bt_max (pa_cons pe_int (pa_cons (pe_callB (c_min rfl) (by rfl) T.n_min bt_min (pa_cons pe_int (pa_cons (pe_callB (k_len K) (by rfl) T.n_len bt_len (pa_cons (pz 0) pa_nil)) pa_nil))) pa_nil))) pa_nil)) (pg_name (i := 1) sc_law.nd rfl (Or.inl rfl)) 
      (pss_cons (ps_set (i := 2) sc_law.nd rfl (Or.inl rfl) (pe_cl C__law_box (hr.room.mono (by decide)) pass0 (pa_cons (pe_cl C__law_cell (hr.room.mono (by decide)) pass0 (pa_cons (pz 0) (pa_cons (pz 1) pa_nil))) pa_nil)))
      (pss_cons (ps_par3 (i := 3) (j := 4) (l := 5) (by rfl) sc_law.nd rfl rfl rfl (by decide) (by decide) (by decide) rfl rfl rfl (pa_cons (pe_lz (pa_cons (pe_new0 N_Disk (hr.room.mono (by decide))) (pa_cons (pe_new0 N_Disk (hr.room.mono (by decide))) pa_nil))) (pa_cons (pe_lz (pa_cons (pe_callTy (k_dict K rfl) (by rfl) T.n_dict bt_dict (pa_cons (pe_lz pa_nil) pa_nil)) (pa_cons (pe_callTy (k_dict K rfl) (by rfl) T.n_dict bt_dict (pa_cons (pe_lz pa_nil) pa_nil)) pa_nil))) (pa_cons (pe_lz (pa_cons (pe_lz (pa_cons pe_int pa_nil)) (pa_cons (pe_lz (pa_cons pe_int pa_nil)) pa_nil))) pa_nil))) (by rfl))
      (pss_one (ps_for PassesOwn.never rfl (pi_rngZ (by rfl) T.n_range (pa_cons pe_int pa_nil)) (pg_name (i := 6) sc_law.nd rfl (Or.inl rfl)) 
        (pss_cons (ps_parZ (i := 7) (j := 8) (by rfl) sc_law.nd rfl rfl (by decide) rfl rfl (pa_cons (pe_cl C__law_take (hr.room.mono (by decide)) pass0 (pa_cons (pz 2) (pa_cons pe_int pa_nil))) (pa_cons (pe_ix (k_ix K) (pe_lz (pa_cons pe_int (pa_cons pe_int (pa_cons pe_int (pa_cons pe_int (pa_cons pe_int (pa_cons pe_int (pa_cons pe_int (pa_cons pe_int (pa_cons pe_int (pa_cons pe_int (pa_cons pe_int (pa_cons pe_int (pa_cons pe_int (pa_cons pe_int pa_nil))))))))))))))) (pe_cl C__law_take (hr.room.mono (by decide)) pass0 (pa_cons (pz 2) (pa_cons pe_int pa_nil))) (fun _ _ => rfl)) pa_nil)) (by rfl))
        (pss_cons (ps_parZ (i := 9) (j := 10) (by rfl) sc_law.nd rfl rfl (by decide) rfl rfl (pa_cons (pe_cl C__law_any_name (hr.room.mono (by decide)) pass0 (pa_cons (pz 2) (pa_cons (pe_ix (k_ix K) (pz 4) (pz 7) (fun _ _ => rfl)) pa_nil))) (pa_cons (pe_cl C__law_any_text (hr.room.mono (by decide)) pass0 (pa_cons (pz 2) pa_nil)) pa_nil)) (by rfl))
        (pss_cons (ps_if (pt_cmpZ o_ltS (pz 6) pe_int (nomark _)) 
          (pss_one (ps_par3 (i := 7) (j := 8) (l := 9) (by rfl) sc_law.nd rfl rfl rfl (by decide) (by decide) (by decide) rfl rfl rfl (pa_cons (pe_op o_mod (pe_callTy c_int (by rfl) T.n_int bt_int (pa_cons (pz 6) pa_nil)) pe_int) (pa_cons (pe_ix (k_ix K) (pe_lz (pa_cons pe_int (pa_cons pe_int (pa_cons pe_int (pa_cons pe_int (pa_cons pe_int (pa_cons pe_int (pa_cons pe_int (pa_cons pe_int pa_nil))))))))) (pz 6) (fun _ _ => rfl)) (pa_cons (pe_ix (k_ix K) (pe_cl0 C__law_pool (hr.room.mono (by decide)) pass0) (pe_cl C__law_take (hr.room.mono (by decide)) pass0 (pa_cons (pz 2) (pa_cons pe_int pa_nil))) (fun _ _ => rfl)) pa_nil))) (by rfl))) pss_nil)
        (pss_cons (ps_set (i := 11) sc_law.nd rfl (Or.inl rfl) (pe_cl C__law_due (hr.room.mono (by decide)) pass0 (pa_cons (pe_ix (k_ix K) (pz 4) (pz 7) (fun _ _ => rfl)) (pa_cons (pe_ix (k_ix K) (pz 5) (pz 7) (fun _ _ => rfl)) (pa_cons (pz 8) (pa_cons (pz 9) (pa_cons (pz 10) pa_nil)))))))
        (pss_cons (ps_if (pt_not (pt_trK K (pe_cg C__law_same (hr.mono (by decide)) pass0 (pa_cons (pe_cl C__law_told (hr.room.mono (by decide)) pass0 (pa_cons (pe_ix (k_ix K) (pz 3) (pz 7) (fun _ _ => rfl)) (pa_cons (pz 8) (pa_cons (pz 9) (pa_cons (pz 10) pa_nil))))) (pa_cons (pz 11) pa_nil))))) 
          (pss_one (ps_ret pe_bl)) pss_nil)
        (pss_one (ps_for PassesOwn.never rfl (pi_lzK K (pe_lz (pa_cons pe_int (pa_cons pe_int pa_nil)))) (pg_name (i := 12) sc_law.nd rfl (Or.inl rfl)) 
          (pss_one (ps_if (pt_not (pt_trK K (pe_cg C__law_alike (hr.mono (by decide)) pass0 (pa_cons (pe_ix (k_ix K) (pz 3) (pz 12) (fun _ _ => rfl)) (pa_cons (pe_ix (k_ix K) (pz 4) (pz 12) (fun _ _ => rfl)) (pa_cons (pe_ix (k_ix K) (pz 5) (pz 12) (fun _ _ => rfl)) pa_nil)))))) 
            (pss_one (ps_ret pe_bl)) pss_nil))))))))))))))
    (pss_one (ps_ret pe_bl))), ?_⟩
  obtain ⟨a, ns, rfl, hS, hl, k⟩ := h
  refine .inl ⟨_, .inl hS, ?_⟩
  rw [List.length_map]
  have rb : ∀ z : Int, (if (if (ns.length : Int) < 4 then (ns.length : Int) else 4) > 2 then (if (ns.length : Int) < 4 then (ns.length : Int) else 4) else 2) = z → 2 ≤ z ∧ z ≤ 4 := fun z e => by
    subst e
    split <;> split <;> omega
  generalize hz : (if (if (ns.length : Int) < 4 then (ns.length : Int) else 4) > 2 then (if (ns.length : Int) < 4 then (ns.length : Int) else 4) else 2) = z
  obtain ⟨z2, z4⟩ := rb z hz
  refine ⟨by omega, by omega, for_w (wk_rng 0 _) (fun i σ H' => Same H H' ∧ ∃ v1 v2 v3 v4 v5 v6 v7 v8 v9 v10 v11 v12 : Option V, σ = [some (.ref a), v1, v2, v3, v4, v5, v6, v7, v8, v9, v10, v11, v12]) ⟨Same.refl H, _, _, _, _, _, _, _, _, _, _, _, _, rfl⟩ (fun _ _ _ _ => trivial) ?_ (fun σ H' p => k H')⟩
  rintro i x σ Hb hx ⟨s0, v1, v2, v3, v4, v5, v6, v7, v8, v9, v10, v11, v12, rfl⟩
  obtain ⟨hi, rfl⟩ := rngV_at hx
  refine ⟨a, _, ns, rfl, rfl, by omega, by omega, sqL_same s0 hS, hl, fun g H1 s1 => ?_⟩
  refine ⟨g, rfl, fun b H2 fb s2 B2 => ?_⟩
  refine fun a0 x0 ha0 hx0 hn0 => ?_
  have n0 := nw (o := .own a0) hx0
  have ha0' : (upd H2 x0 (.own a0)) a0 = none := by rw [upd_ne hn0.symm]; exact ha0
  have n0' := nw (o := .ins e_Disk x0 []) ha0'
  generalize upd (upd H2 x0 (.own a0)) a0 (.ins e_Disk x0 []) = H3 at n0' ⊢
  have s3 := n0.same.trans n0'.same
  refine ⟨a0, e_Disk, x0, rfl, T.a_Disk, n0'.here, fun f0 m0 H4 ff0 fm0 kp4 hD0 => ⟨rfl, ?_⟩⟩
  have s24 : Same H2 H4 := fun p o e => kp4.at (by rw [List.mem_singleton]; exact ne_of_none e ha0) (s3 p o e)
  refine fun a1 x1 ha1 hx1 hn1 => ?_
  have n1 := nw (o := .own a1) hx1
  have ha1' : (upd H4 x1 (.own a1)) a1 = none := by rw [upd_ne hn1.symm]; exact ha1
  have n1' := nw (o := .ins e_Disk x1 []) ha1'
  generalize upd (upd H4 x1 (.own a1)) a1 (.ins e_Disk x1 []) = H5 at n1' ⊢
  have s5 := n1.same.trans n1'.same
  refine ⟨a1, e_Disk, x1, rfl, T.a_Disk, n1'.here, fun f1 m1 H6 ff1 fm1 kp6 hD1 => ⟨rfl, ?_⟩⟩
  have s46 : Same H4 H6 := fun p o e => kp6.at (by rw [List.mem_singleton]; exact ne_of_none e ha1) (s5 p o e)
  refine ⟨by show 2 ≤ sizeLine; decide, fun dl H7 n7 => ?_⟩
  refine ⟨by show 0 ≤ sizeLine; decide, fun e0 H8 n8 => ?_⟩
  refine .inl ⟨[], [], SqL.of n8.here, .nil, fun L0 H9 n9 => ?_⟩
  refine ⟨by show 0 ≤ sizeLine; decide, fun e1 H10 n10 => ?_⟩
  refine .inl ⟨[], [], SqL.of n10.here, .nil, fun L1 H11 n11 => ?_⟩
  refine ⟨by show 2 ≤ sizeLine; decide, fun fl H12 n12 => ?_⟩
  refine ⟨by show 1 ≤ sizeLine; decide, fun c0 H13 n13 => ?_⟩
  refine ⟨by show 1 ≤ sizeLine; decide, fun c1 H14 n14 => ?_⟩
  refine ⟨by show 2 ≤ sizeLine; decide, fun cl H15 n15 => ?_⟩
  refine ⟨_, _, _, rfl, ?_⟩
  have s02 : Same Hb H2 := s1.trans s2
  have s68 := n7.same.trans n8.same
  have s69 := s68.trans n9.same
  have s610 := s69.trans n10.same
  have s611 := s610.trans n11.same
  have s612 := s611.trans n12.same
  have s613 := s612.trans n13.same
  have s614 := s613.trans n14.same
  have s615 := s614.trans n15.same
  have sb15 : Same Hb H15 := (s02.trans s24).trans (s46.trans s615)
  have B15 : BoxAt 0 H15 b := B2.same ((s24.trans s46).trans s615)
  have hD0' : DiskAt K H15 a0 f0 m0 empty 0 .non := hD0.same (s46.trans s615)
  have hD1' : DiskAt K H15 a1 f1 m1 empty 0 .non := hD1.same s615
  have hL0 : H15 L0 = some (.dK []) := n15.keep (n14.keep (n13.keep (n12.keep (n11.keep (n10.keep n9.here)))))
  have hL1 : H15 L1 = some (.dK []) := n15.keep (n14.keep (n13.keep (n12.keep n11.here)))
  have hc0 : H15 c0 = some (.lst [.int 0]) := n15.keep (n14.keep n13.here)
  have hc1 : H15 c1 = some (.lst [.int 0]) := n15.keep n14.here
  obtain ⟨nf0, _, _, _, _, _, p1, p2, p3, _⟩ := id hD0
  obtain ⟨nf1, _, _, _, _, _, q1, q2, q3, _⟩ := id hD1
  have fL0 : H6 L0 = none := s68.free n9.fresh
  have fL1 : H9 L1 = none := n10.same.free n11.fresh
  have fc0 : H11 c0 = none := n12.same.free n13.fresh
  have sd9 : Same H6 H9 := s69
  have sd11 : Same H6 H11 := s611
  have ff14 : H4 f1 = none := s5.free ff1
  have fm14 : H4 m1 = none := s5.free fm1
  have d0 : ∀ q : Addr, H4 q = none → q ≠ a0 ∧ q ≠ f0 ∧ q ≠ m0 := fun q z => ⟨(ne_of_none p1 z).symm, (ne_of_none p2 z).symm, (ne_of_none p3 z).symm⟩
  have d1 : ∀ q : Addr, H6 q = none → q ≠ a1 ∧ q ≠ f1 ∧ q ≠ m1 := fun q z => ⟨(ne_of_none q1 z).symm, (ne_of_none q2 z).symm, (ne_of_none q3 z).symm⟩
  have l0 := d0 L0 (s46.free fL0)
  have l0' := d1 L0 fL0
  have l1 := d0 L1 (s46.free (s69.free fL1))
  have l1' := d1 L1 (s69.free fL1)
  have l01 : L1 ≠ L0 := (ne_of_none n9.here fL1).symm
  have k0 := d0 c0 (s46.free (s611.free fc0))
  have k0' := d1 c0 (s611.free fc0)
  have fc1 : H13 c1 = none := n14.fresh
  have k1' := d0 c1 (s46.free (s613.free fc1))
  have k1'' := d1 c1 (s613.free fc1)
  have k01 : c1 ≠ c0 := (ne_of_none n13.here fc1).symm
  have x0' := d0 a1 ha1
  have x1' := d0 f1 ff14
  have x2' := d0 m1 fm14
  have kl0 : c0 ≠ L1 := (ne_of_none n11.here fc0).symm
  have kl1 : c1 ≠ L0 := (ne_of_none n9.here (((n10.same.trans n11.same).trans n12.same).trans n13.same |>.free fc1)).symm
  have fb' : Hb b = none := s1.free fb
  obtain ⟨s, hs⟩ : ∃ s : Int → Sd, s = fun j => if j = 0 then ⟨a0, f0, m0, L0, c0, empty, 0⟩ else ⟨a1, f1, m1, L1, c1, empty, 0⟩ := ⟨_, rfl⟩
  have e0 : s 0 = ⟨a0, f0, m0, L0, c0, empty, 0⟩ := by rw [hs]; rfl
  have e1 : s 1 = ⟨a1, f1, m1, L1, c1, empty, 0⟩ := by rw [hs]; rfl
  have law0 : ∀ {L : Addr}, H15 L = some (.dK []) → LawAt H15 L empty := fun {L} z => ⟨[], fun _ => L, z, Tb.nil, fun j hj => by cases hj⟩
  have P0 : Pair K Hb H15 dl fl cl s 0 := by
    refine ⟨sb15, ?_, ?_, ?_, fun j hj => ?_, ?_⟩
    · rw [e0, e1]
      exact n15.keep (n14.keep (n13.keep (n12.keep (n11.keep (n10.keep (n9.keep (n8.keep n7.here)))))))
    · rw [e0, e1]
      exact n15.keep (n14.keep (n13.keep n12.here))
    · rw [e0, e1]
      exact n15.here
    · have s24' := s02.trans s24
      have s26' := s24'.trans s46
      rcases hj with rfl | rfl
      · rw [e0]
        refine ⟨⟨hD0', law0 hL0, hc0, l0.2.1, l0.2.2⟩, Dok.nil, Int.le_refl _, Int.le_refl _, fun p hp => ?_⟩
        simp only [Sd.ads, List.mem_cons, List.not_mem_nil, or_false] at hp
        rcases hp with rfl | rfl | rfl | rfl | rfl
        · exact s02.free ha0
        · exact (s02.trans s3).free ff0
        · exact (s02.trans s3).free fm0
        · exact s26'.free fL0
        · exact s26'.free (s611.free fc0)
      · rw [e1]
        refine ⟨⟨hD1', law0 hL1, hc1, l1'.2.1, l1'.2.2⟩, Dok.nil, Int.le_refl _, Int.le_refl _, fun p hp => ?_⟩
        simp only [Sd.ads, List.mem_cons, List.not_mem_nil, or_false] at hp
        rcases hp with rfl | rfl | rfl | rfl | rfl
        · exact s24'.free ha1
        · exact s24'.free ff14
        · exact s24'.free fm14
        · exact s26'.free (s69.free fL1)
        · exact s26'.free (s613.free fc1)
    · rw [e0, e1]
      intro p hp z
      simp only [Sd.ads, List.mem_cons, List.not_mem_nil, or_false] at hp z
      rcases hp with rfl | rfl | rfl | rfl | rfl <;> rcases z with z | z | z | z | z <;> simp_all
  have mem14 : ∀ {y : Int}, y ∈ [0, 1, 0, 1, 0, 2, 3, 2, 4, 5, 6, 7, 8, 9] → 0 ≤ y ∧ y ≤ 9 := fun {y} hy => by
    simp only [List.mem_cons, List.not_mem_nil, or_false] at hy
    omega
  have mem8 : ∀ {y : Int}, y ∈ [0, 0, 0, 0, 0, 1, 2, 3] → 0 ≤ y ∧ y ≤ 9 := fun {y} hy => by
    simp only [List.mem_cons, List.not_mem_nil, or_false] at hy
    omega
  refine ⟨by decide, by decide, for_w (wk_rng 0 _) (fun t σ H' => (∃ s, Pair K Hb H' dl fl cl s t) ∧ BoxAt (200 * t) H' b ∧ ∃ v6 v7 v8 v9 v10 v11 v12 : Option V, σ = [some (.ref a), some (.int (0 + (i : Nat))), some (.ref b), some (.ref dl), some (.ref fl), some (.ref cl), v6, v7, v8, v9, v10, v11, v12])
    ⟨⟨s, P0⟩, B15, _, _, _, _, _, _, _, rfl⟩ (fun _ _ _ _ => trivial) ?_ ?_⟩
  case' refine_2 =>
    rintro σ H' ⟨⟨s, P⟩, _, v6, v7, v8, v9, v10, v11, v12, rfl⟩
    exact ⟨s0.trans P.1, _, _, _, _, _, _, _, _, _, _, _, _, rfl⟩
  clear P0 B15
  clear s hs e0 e1
  rintro t x σ G0 hx ⟨⟨s, P⟩, B, v6, v7, v8, v9, v10, v11, v12, rfl⟩
  obtain ⟨ht, rfl⟩ := rngV_at hx
  have ht : t < 28 := ht
  refine ⟨b, 2, _, rfl, rfl, by decide, by decide, B, by omega, fun ra G1 t1 B1 r0 r1 => ?_⟩
  refine ⟨by show 14 ≤ sizeLine; decide, fun pw G2 n2 => ?_⟩
  have B2' := B1.same n2.same
  have npw : pw ≠ b := (B1.ne n2.fresh).symm
  refine ⟨b, 14, _, rfl, rfl, by decide, by decide, B2', by omega, fun rw' G3 t3 B3 rw0 rw1 => ?_⟩
  obtain ⟨wi, hw, hwm⟩ := menuI [0, 1, 0, 1, 0, 2, 3, 2, 4, 5, 6, 7, 8, 9] rw0 (by show _ < 14; exact rw1)
  refine ⟨_, _, .inl (SqL.of (t3.at npw n2.here)), hw, ?_⟩
  have hwi := mem14 hwm
  have hra : ra = 0 ∨ ra = 1 := by omega
  have t03 := (t1.nw n2).trans t3
  have P3 := P.box B fb' t03
  refine ⟨_, _, .inl (SqL.of P3.2.2.1), two_at (g := fun j => (s j).L) hra, ?_⟩
  have sd3 := P3.2.2.2.2.1 ra hra
  refine ⟨b, _, (s ra).L, (s ra).D, rfl, rfl, B3, by omega, sd3.1.2.1, by have := sd3.2.1.len; omega, sd3.2.1.nm, fun nm d G4 t4 B4 od ok => ?_⟩
  refine ⟨b, _, rfl, B4, by omega, fun tx e G6 t6 B6 oe oke => ?_⟩
  have t06 := (t03.trans t4).trans t6
  have oN := (od.old t03 B3).but B4 t6
  have oT := oe.old (t03.trans t4) B4
  refine ite2 (fun h8 => ?_) (fun h8 => ?_)
  case' refine_1 =>
    have h8' : (t : Int) < 8 := by have := dT h8; omega
    refine ⟨by show (0 : Int) < _; decide, ?_⟩
    refine ⟨by show 8 ≤ sizeLine; decide, fun p8 Ga na => ?_⟩
    obtain ⟨wi, hw2, hwm2⟩ := menuI [0, 0, 0, 0, 0, 1, 2, 3] (r := 0 + (t : Int)) (by omega) (by show _ < 8; omega)
    refine ⟨_, _, .inl (SqL.of na.here), hw2, ?_⟩
    refine ⟨rfl, fun pp Gb nb => ?_⟩
    have Bb := (B6.same na.same).same nb.same
    have npp : pp ≠ b := ((B6.same na.same).ne nb.fresh).symm
    refine ⟨b, 12, _, rfl, rfl, by decide, by decide, Bb, by omega, fun rp G6 tc Bc rp0 rp1 => ?_⟩
    obtain ⟨n2', en, hn2⟩ := pool_at rp0 rp1
    refine ⟨_, _, .inl (SqL.of (tc.at npp nb.here)), en, ?_⟩
    refine ⟨_, _, _, rfl, ?_⟩
    obtain ⟨ra, hra'⟩ : ∃ ra : Int, (0 + (t : Int)) % 2 = ra := ⟨_, rfl⟩
    dsimp only
    rw [hra']
    have hra : ra = 0 ∨ ra = 1 := by omega
    have hwi := mem8 hwm2
    obtain ⟨nm, hnm⟩ : ∃ nm : V, V.str n2' = nm := ⟨_, rfl⟩
    rw [hnm]
    obtain ⟨d, hdd⟩ : ∃ d : PyData, PyData.str n2' = d := ⟨_, rfl⟩
    have oN : OddV G0 G6 nm d := by
      rw [← hnm, ← hdd]
      exact .nm hn2
    have ok : nmOk d = true := by
      rw [← hdd]
      exact nm_ok2 hn2
    have oT := ((oT.same na.same).same nb.same).but Bb tc
    have t06 := ((t06.nw na).nw nb).trans tc
    have B6 : BoxAt (200 * (t + 1)) G6 b := Bc.mono (by omega)
    clear hw2 hwm2 hn2 en hnm hdd Bb npp nb na Bc tc
  case' refine_2 =>
    have B6 : BoxAt (200 * (t + 1)) G6 b := B6.mono (by omega)
  all_goals
    clear od oe
    have P6 := P.box B fb' t06
    have sd := P6.2.2.2.2.1 ra hra
    obtain ⟨hDk, hLw, hcc, nLf, nLm⟩ := sd.1
    refine ⟨_, _, .inl (SqL.of P6.2.2.1), two_at (g := fun j => (s j).L) hra, ?_⟩
    refine ⟨_, _, .inl (SqL.of P6.2.2.2.1), two_at (g := fun j => (s j).cc) hra, ?_⟩
    rcases cs_of (D := (s ra).D) (i := wi) oN oT ok oke with ⟨hb, ds, bb, o, rfl, rfl, hbb⟩ | ⟨hb, hk9⟩ | ⟨⟨n, rfl, hn⟩, hi2, hb, ds, bb, o, rfl, rfl, hbb⟩ | ⟨⟨n, rfl, hn⟩, hi2, hb, hk9⟩ | ⟨n, rfl, rfl, hn, hi2, hm⟩ | ⟨n, tt, rfl, hn, hlt, hge⟩
    case' inl =>
      refine ⟨(s ra).L, (s ra).cc, (s ra).D, (s ra).c, wi, t, rfl, rfl, rfl, hwi.1, hwi.2, hLw, hcc, sd.2.1, by omega, .inl ⟨⟨_, ⟨true, oN.1⟩, ok, hb⟩, fun p G7 s7 fp mp hp => ?_⟩⟩
      refine ⟨_, _, .inl (SqL.of (s7 _ _ P6.2.1)), two_at (g := fun j => (s j).a) hra, ?_⟩
      refine ⟨(s ra).a, (s ra).f, (s ra).m, (s ra).D, (s ra).c, wi, t, rfl, rfl, hwi.1, hwi.2, hDk.same s7, sd.2.1, by omega, .inl ⟨⟨_, ⟨true, Dz.same s7 oN.1⟩, ok, hb⟩, fun p2 G8 s8 fp2 mp2 hp2 => ?_⟩⟩
      refine ⟨p2, p, "name", _, _, rfl, rfl, hp2, s8 _ _ hp, mp2, mp, by simp, Dz.same (s7.trans s8) oN.1, sw_up oN.2.1, ?_⟩
      obtain ⟨pa1, pa2, pa3⟩ := odd_parts oN
      have hbb0 := oN.2.2.1 bb rfl
      refine .inr (.inr ⟨by decide, bb, ds, rfl, rfl, pa1, pa2, pa3, ne_of_none hbb (s7.free fp2), ne_of_none hbb fp, fun G9 w9 => ?_⟩)
      have t09 : But b G0 G9 := ((t06.trans (But.of (s7.trans s8))).butNew hbb0 w9 (fun _ => trivial))
      have B9 : BoxAt (200 * (t + 1)) G9 b := ((B6.same s7).same s8).but (by intro z; rw [z] at B6; obtain ⟨_, _, _, _, hq, _⟩ := B6; obtain ⟨_, _, _, _, hq0, _⟩ := B; rw [z, hbb0] at hq0; cases hq0) w9
      have P9 : ∃ s', Pair K Hb G9 dl fl cl s' (t + 1) := ⟨s, (P.box B fb' t09).mono (Nat.le_succ t)⟩
    case' inr.inl =>
      refine ⟨(s ra).L, (s ra).cc, (s ra).D, (s ra).c, wi, t, rfl, rfl, rfl, hwi.1, hwi.2, hLw, hcc, sd.2.1, by omega, .inl ⟨⟨_, ⟨true, oN.1⟩, ok, hb⟩, fun p G7 s7 fp mp hp => ?_⟩⟩
      refine ⟨_, _, .inl (SqL.of (s7 _ _ P6.2.1)), two_at (g := fun j => (s j).a) hra, ?_⟩
      refine ⟨(s ra).a, (s ra).f, (s ra).m, (s ra).D, (s ra).c, wi, t, rfl, rfl, hwi.1, hwi.2, hDk.same s7, sd.2.1, by omega, .inl ⟨⟨_, ⟨true, Dz.same s7 oN.1⟩, ok, hb⟩, fun p2 G9 s8 fp2 mp2 hp2 => ?_⟩⟩
      refine ⟨p2, p, "name", _, _, rfl, rfl, hp2, s8 _ _ hp, mp2, mp, by simp, Dz.same (s7.trans s8) oN.1, sw_up oN.2.1, ?_⟩
      refine .inr (.inl ⟨by decide, hk9, ?_⟩)
      have B9 : BoxAt (200 * (t + 1)) G9 b := (B6.same s7).same s8
      have P9 : ∃ s', Pair K Hb G9 dl fl cl s' (t + 1) := ⟨s, (P6.same (s7.trans s8)).mono (Nat.le_succ t)⟩
    case' inr.inr.inl =>
      refine ⟨(s ra).L, (s ra).cc, (s ra).D, (s ra).c, wi, t, rfl, rfl, rfl, hwi.1, hwi.2, hLw, hcc, sd.2.1, by omega, .inr (.inl ⟨hi2, n, rfl, hn, ⟨_, ⟨true, oT.1⟩, oke, hb⟩, fun p G7 s7 fp mp hp => ?_⟩)⟩
      refine ⟨_, _, .inl (SqL.of (s7 _ _ P6.2.1)), two_at (g := fun j => (s j).a) hra, ?_⟩
      refine ⟨(s ra).a, (s ra).f, (s ra).m, (s ra).D, (s ra).c, wi, t, rfl, rfl, hwi.1, hwi.2, hDk.same s7, sd.2.1, by omega, .inr (.inl ⟨hi2, n, rfl, hn, ⟨_, ⟨true, Dz.same s7 oT.1⟩, oke, hb⟩, fun p2 G8 s8 fp2 mp2 hp2 => ?_⟩)⟩
      refine ⟨p2, p, "text", _, _, rfl, rfl, hp2, s8 _ _ hp, mp2, mp, by simp, Dz.same (s7.trans s8) oT.1, sw_up oT.2.1, ?_⟩
      obtain ⟨pa1, pa2, pa3⟩ := odd_parts oT
      have hbb0 := oT.2.2.1 bb rfl
      refine .inr (.inr ⟨by decide, bb, ds, rfl, rfl, pa1, pa2, pa3, ne_of_none hbb (s7.free fp2), ne_of_none hbb fp, fun G9 w9 => ?_⟩)
      have t09 : But b G0 G9 := ((t06.trans (But.of (s7.trans s8))).butNew hbb0 w9 (fun _ => trivial))
      have B9 : BoxAt (200 * (t + 1)) G9 b := ((B6.same s7).same s8).but (by intro z; rw [z] at B6; obtain ⟨_, _, _, _, hq, _⟩ := B6; obtain ⟨_, _, _, _, hq0, _⟩ := B; rw [z, hbb0] at hq0; cases hq0) w9
      have P9 : ∃ s', Pair K Hb G9 dl fl cl s' (t + 1) := ⟨s, (P.box B fb' t09).mono (Nat.le_succ t)⟩
    case' inr.inr.inr.inl =>
      refine ⟨(s ra).L, (s ra).cc, (s ra).D, (s ra).c, wi, t, rfl, rfl, rfl, hwi.1, hwi.2, hLw, hcc, sd.2.1, by omega, .inr (.inl ⟨hi2, n, rfl, hn, ⟨_, ⟨true, oT.1⟩, oke, hb⟩, fun p G7 s7 fp mp hp => ?_⟩)⟩
      refine ⟨_, _, .inl (SqL.of (s7 _ _ P6.2.1)), two_at (g := fun j => (s j).a) hra, ?_⟩
      refine ⟨(s ra).a, (s ra).f, (s ra).m, (s ra).D, (s ra).c, wi, t, rfl, rfl, hwi.1, hwi.2, hDk.same s7, sd.2.1, by omega, .inr (.inl ⟨hi2, n, rfl, hn, ⟨_, ⟨true, Dz.same s7 oT.1⟩, oke, hb⟩, fun p2 G9 s8 fp2 mp2 hp2 => ?_⟩)⟩
      refine ⟨p2, p, "text", _, _, rfl, rfl, hp2, s8 _ _ hp, mp2, mp, by simp, Dz.same (s7.trans s8) oT.1, sw_up oT.2.1, ?_⟩
      refine .inr (.inl ⟨by decide, hk9, ?_⟩)
      have B9 : BoxAt (200 * (t + 1)) G9 b := (B6.same s7).same s8
      have P9 : ∃ s', Pair K Hb G9 dl fl cl s' (t + 1) := ⟨s, (P6.same (s7.trans s8)).mono (Nat.le_succ t)⟩
    case' inr.inr.inr.inr.inl =>
      have hk9 : isK (kindD (PyData.str n)) "list" = false := rfl
      refine ⟨(s ra).L, (s ra).cc, (s ra).D, (s ra).c, wi, t, rfl, rfl, rfl, hwi.1, hwi.2, hLw, hcc, sd.2.1, by omega, .inr (.inr (.inl ⟨hi2, n, rfl, hn, hm, fun p G7 s7 fp mp hp => ?_⟩))⟩
      refine ⟨_, _, .inl (SqL.of (s7 _ _ P6.2.1)), two_at (g := fun j => (s j).a) hra, ?_⟩
      refine ⟨(s ra).a, (s ra).f, (s ra).m, (s ra).D, (s ra).c, wi, t, rfl, rfl, hwi.1, hwi.2, hDk.same s7, sd.2.1, by omega, .inr (.inr (.inl ⟨hi2, n, rfl, hn, hm, fun p2 G9 s8 fp2 mp2 hp2 => ?_⟩))⟩
      refine ⟨p2, p, "none", _, _, rfl, rfl, hp2, s8 _ _ hp, mp2, mp, by simp, Dz.same (s7.trans s8) oN.1, sw_up oN.2.1, ?_⟩
      refine .inr (.inl ⟨by decide, hk9, ?_⟩)
      have B9 : BoxAt (200 * (t + 1)) G9 b := (B6.same s7).same s8
      have P9 : ∃ s', Pair K Hb G9 dl fl cl s' (t + 1) := ⟨s, (P6.same (s7.trans s8)).mono (Nat.le_succ t)⟩
    case' inr.inr.inr.inr.inr =>
      refine ⟨(s ra).L, (s ra).cc, (s ra).D, (s ra).c, wi, t, rfl, rfl, rfl, hwi.1, hwi.2, hLw, hcc, sd.2.1, by omega, .inr (.inr (.inr ⟨n, tt, rfl, hn, hlt, hge, fun p G7 kp7 fp mp hL7 hc7 hp => ?_⟩))⟩
      have keepL : ∀ {q : Addr} {xs : List V}, (∀ c, xs ≠ [.int c]) → G6 q = some (.lst xs) → G7 q = some (.lst xs) := fun {q xs} ne e => kp7.at (fun z => sd.1.no (b := q) (by
        simp only [List.mem_cons, List.not_mem_nil, or_false] at z
        rcases z with rfl | rfl <;> simp [Sd.ads]) ne e) e
      refine ⟨_, _, .inl (SqL.of (keepL (fun c => by simp) P6.2.1)), two_at (g := fun j => (s j).a) hra, ?_⟩
      obtain ⟨nfm, C, dx, kf, km, hcl, g1, g2, g3, gt⟩ := id hDk
      have naL : (s ra).a ≠ (s ra).L := by
        obtain ⟨kv, hL⟩ := hLw.dk
        exact ne_obj g1 hL (by simp)
      have nac := ne_obj g1 hcc (by simp)
      have nfc := ne_obj g2 hcc (by simp)
      have nmc := ne_obj g3 hcc (by simp)
      have hDk7 : DiskAt K G7 (s ra).a (s ra).f (s ra).m (s ra).D (s ra).c .non := hDk.kp kp7 (by simp [naL, nac]) (by simp [nLf.symm, nfc]) (by simp [nLm.symm, nmc])
      refine ⟨(s ra).a, (s ra).f, (s ra).m, (s ra).D, (s ra).c, wi, t, rfl, rfl, hwi.1, hwi.2, hDk7, sd.2.1, by omega, .inr (.inr (.inr ⟨n, tt, rfl, hn, hlt, hge, fun p2 G9 kp9 fp2 mp2 hD9 hp2 => ?_⟩))⟩
      have hpp : G9 p = some (.lst [.str "told", tell wi (s ra).D n]) := kp9.at (fun z => hDk7.nolist _ z _ hp) hp
      have tn : ∀ j, j ∈ (s ra).D.names → (((s ra).D.txt j).length ≤ 2000 ∧ (s ra).D.sy j ≤ 100000) := fun j hj => by
        have a1 := sd.2.1.tx j hj
        have a2 := sd.2.1.sy j hj
        omega
      obtain ⟨d9, dz9, sw9⟩ : ∃ d9, Dz true G9 (tell wi (s ra).D n) d9 ∧ Sw 3 100000 d9 := by
        unfold tell
        by_cases h6 : wi < 6
        · rw [if_pos h6]
          exact ⟨_, .non, sw_up (by decide +kernel)⟩
        · rw [if_neg h6]
          have hin := hge (by omega)
          by_cases h8 : wi < 8
          · rw [if_pos h8]
            exact ⟨_, .str _, (sw_str (tn n hin).1 (sd.2.1.ch n hin)).mono (by decide) (by decide)⟩
          · rw [if_neg h8]
            exact ⟨_, .int _, (sw_int (by omega) (by have := (tn n hin).2; omega)).mono (by decide) (by decide)⟩
      refine ⟨p2, p, "told", _, d9, rfl, rfl, hp2, hpp, mp2, mp, by simp, dz9, sw9, ?_⟩
      refine .inl ⟨rfl, ?_⟩
      have kpads : Kp (s ra).ads G6 G9 := (kp7.sub (by simp [Sd.ads])).trans (kp9.sub (by simp [Sd.ads]))
      have dok : Dok (t + 1) (act wi (s ra).D n tt) := sd.2.1.act hn (fun h2 => tx_len (hlt h2).2.2) (fun h2 c hc => by
          have := mrk_pr c ((mk_of (hlt h2).2.1).2 c hc)
          omega) hge
      have hc9 : G9 (s ra).cc = some (.lst [.int ((s ra).c + one wi)]) := kp9.at (by simp [nac.symm, nfc.symm, nmc.symm]) hc7
      have hL9 : LawAt G9 (s ra).L (act wi (s ra).D n tt) := hL7.kp kp9 (by simp [naL.symm, nLf, nLm]) (fun q z xs i => hDk7.nolist q z _)
      have one1 : 0 ≤ one wi ∧ one wi ≤ 1 := by unfold one; split <;> omega
      have P9 := P6.step hra kpads hD9 hL9 hc9 dok (by have := sd.2.2.1; omega) (by have := sd.2.2.2.1; omega)
      have B9 : BoxAt (200 * (t + 1)) G9 b := by
        obtain ⟨gg, ff, s9, x9, hb9, rest9⟩ := B6
        exact ⟨gg, ff, s9, x9, kpads.at (fun z => sd.1.no z (fun c => by simp) hb9) hb9, rest9⟩
    all_goals
      obtain ⟨s', P9⟩ := P9
      walk_at "past"
      refine ⟨by show 2 ≤ sizeLine; decide, fun po G10 n10 => ?_⟩
      have P10 := P9.same n10.same
      have B10 := B9.same n10.same
      refine ⟨⟨_, SqL.of n10.here⟩, for_w (wk_list [V.int 0, .int 1]) (fun i' σ H' => Same G10 H' ∧ ∃ v12' : Option V, σ = [some (.ref a), some (.int (0 + (i : Nat))), some (.ref b), some (.ref dl), some (.ref fl), some (.ref cl), some (.int (0 + (t : Nat))), some (.int ra), some (.int wi), _, _, some (.ref p), v12']) ⟨Same.refl _, _, rfl⟩ (fun i' σ H' z => SqL.of (z.1 _ _ n10.here)) ?_ ?_⟩
      case' refine_2 =>
        rintro σ H' ⟨s11, v12', rfl⟩
        exact ⟨⟨s', P10.same s11⟩, B10.same s11, _, _, _, _, _, _, _, rfl⟩
      rintro i' x σ G11 hx' ⟨s11, v12', rfl⟩
      obtain ⟨j, hj, rfl⟩ : ∃ j : Int, (j = 0 ∨ j = 1) ∧ x = .int j := by
        have m := List.mem_of_getElem? hx'
        simp only [List.mem_cons, List.not_mem_nil, or_false] at m
        rcases m with rfl | rfl
        · exact ⟨0, .inl rfl, rfl⟩
        · exact ⟨1, .inr rfl, rfl⟩
      have P11 := P10.same s11
      have sj := P11.2.2.2.2.1 j hj
      refine ⟨_, _, .inl (SqL.of P11.2.1), two_at (g := fun j => (s' j).a) hj, ?_⟩
      refine ⟨_, _, .inl (SqL.of P11.2.2.1), two_at (g := fun j => (s' j).L) hj, ?_⟩
      refine ⟨_, _, .inl (SqL.of P11.2.2.2.1), two_at (g := fun j => (s' j).cc) hj, ?_⟩
      refine ⟨(s' j).a, (s' j).f, (s' j).m, (s' j).D, (s' j).c, .non, (s' j).L, (s' j).cc, t + 1, rfl, rfl, rfl, sj.1.1, sj.1.2.1, sj.1.2.2.1, sj.2.1, by omega, sj.2.2.1, by have := sj.2.2.2.1; omega, fun G12 s12 => ?_⟩
      walk_at "past"
      exact ⟨s11.trans s12, _, rfl⟩


end
theorem law_asks {K : PySem.W.Frag} {H : Hp} {E : XK} (a : Addr) (ns : List Int) (hl : ns.length ≤ 63) (hS : SqL K H a (ns.map V.int)) : sp_law K [.ref a] H (fun v _ => v = .bl true) E := ⟨a, ns, rfl, hS, hl, fun _ => rfl⟩
theorem all_mk {l : PySem.W.OpenLaw} {w : World} {K : PySem.W.Frag} {h : Heap} {mg : Str → Option Value} {fa : Addr} (X : K.In h) (G : h.Ns mainGlobals mg) (hfa : mg "law" = some (.ref fa))
    {f22 : Addr} {od22 an22 : Option Addr} {sl22 : Array (Option Value)} {oc22 kV22 dc22 pm22 cd22 ct22 : Value}
    (a22 : PySem.W.nsIn K mainGlobals "_law_box" = some (some (.ref f22))) (l22 : K.lookup f22 = some ⟨oc22, od22, .func (PySem.W.fnOf "_law_box" "_law_box" (defArgs s__law_box) (defBody s__law_box) (defScope s__law_box) .none kV22 dc22 pm22 an22 cd22 ct22), sl22⟩) (c22 : PySem.W.codeIn K cd22 "_law_box" = true) (k22 : PySem.W.keepIn K (.ref f22) = true)
    {f21 : Addr} {od21 an21 : Option Addr} {sl21 : Array (Option Value)} {oc21 kV21 dc21 pm21 cd21 ct21 : Value}
    (a21 : PySem.W.nsIn K mainGlobals "_law_cell" = some (some (.ref f21))) (l21 : K.lookup f21 = some ⟨oc21, od21, .func (PySem.W.fnOf "_law_cell" "_law_cell" (defArgs s__law_cell) (defBody s__law_cell) (defScope s__law_cell) .none kV21 dc21 pm21 an21 cd21 ct21), sl21⟩) (c21 : PySem.W.codeIn K cd21 "_law_cell" = true) (k21 : PySem.W.keepIn K (.ref f21) = true)
    {f23 : Addr} {od23 an23 : Option Addr} {sl23 : Array (Option Value)} {oc23 kV23 dc23 pm23 cd23 ct23 : Value}
    (a23 : PySem.W.nsIn K mainGlobals "_law_take" = some (some (.ref f23))) (l23 : K.lookup f23 = some ⟨oc23, od23, .func (PySem.W.fnOf "_law_take" "_law_take" (defArgs s__law_take) (defBody s__law_take) (defScope s__law_take) .none kV23 dc23 pm23 an23 cd23 ct23), sl23⟩) (c23 : PySem.W.codeIn K cd23 "_law_take" = true) (k23 : PySem.W.keepIn K (.ref f23) = true)
    {f27 : Addr} {od27 an27 : Option Addr} {sl27 : Array (Option Value)} {oc27 kV27 dc27 pm27 cd27 ct27 : Value}
    (a27 : PySem.W.nsIn K mainGlobals "_law_word" = some (some (.ref f27))) (l27 : K.lookup f27 = some ⟨oc27, od27, .func (PySem.W.fnOf "_law_word" "_law_word" (defArgs s__law_word) (defBody s__law_word) (defScope s__law_word) .none kV27 dc27 pm27 an27 cd27 ct27), sl27⟩) (c27 : PySem.W.codeIn K cd27 "_law_word" = true) (k27 : PySem.W.keepIn K (.ref f27) = true)
    {f24 : Addr} {od24 an24 : Option Addr} {sl24 : Array (Option Value)} {oc24 kV24 dc24 pm24 cd24 ct24 : Value}
    (a24 : PySem.W.nsIn K mainGlobals "_law_signs" = some (some (.ref f24))) (l24 : K.lookup f24 = some ⟨oc24, od24, .func (PySem.W.fnOf "_law_signs" "_law_signs" (defArgs s__law_signs) (defBody s__law_signs) (defScope s__law_signs) .none kV24 dc24 pm24 an24 cd24 ct24), sl24⟩) (c24 : PySem.W.codeIn K cd24 "_law_signs" = true) (k24 : PySem.W.keepIn K (.ref f24) = true)
    {f25 : Addr} {od25 an25 : Option Addr} {sl25 : Array (Option Value)} {oc25 kV25 dc25 pm25 cd25 ct25 : Value}
    (a25 : PySem.W.nsIn K mainGlobals "_law_marks" = some (some (.ref f25))) (l25 : K.lookup f25 = some ⟨oc25, od25, .func (PySem.W.fnOf "_law_marks" "_law_marks" (defArgs s__law_marks) (defBody s__law_marks) (defScope s__law_marks) .none kV25 dc25 pm25 an25 cd25 ct25), sl25⟩) (c25 : PySem.W.codeIn K cd25 "_law_marks" = true) (k25 : PySem.W.keepIn K (.ref f25) = true)
    {f29 : Addr} {od29 an29 : Option Addr} {sl29 : Array (Option Value)} {oc29 kV29 dc29 pm29 cd29 ct29 : Value}
    (a29 : PySem.W.nsIn K mainGlobals "_law_any_text" = some (some (.ref f29))) (l29 : K.lookup f29 = some ⟨oc29, od29, .func (PySem.W.fnOf "_law_any_text" "_law_any_text" (defArgs s__law_any_text) (defBody s__law_any_text) (defScope s__law_any_text) .none kV29 dc29 pm29 an29 cd29 ct29), sl29⟩) (c29 : PySem.W.codeIn K cd29 "_law_any_text" = true) (k29 : PySem.W.keepIn K (.ref f29) = true)
    {f26 : Addr} {od26 an26 : Option Addr} {sl26 : Array (Option Value)} {oc26 kV26 dc26 pm26 cd26 ct26 : Value}
    (a26 : PySem.W.nsIn K mainGlobals "_law_pool" = some (some (.ref f26))) (l26 : K.lookup f26 = some ⟨oc26, od26, .func (PySem.W.fnOf "_law_pool" "_law_pool" (defArgs s__law_pool) (defBody s__law_pool) (defScope s__law_pool) .none kV26 dc26 pm26 an26 cd26 ct26), sl26⟩) (c26 : PySem.W.codeIn K cd26 "_law_pool" = true) (k26 : PySem.W.keepIn K (.ref f26) = true)
    {f28 : Addr} {od28 an28 : Option Addr} {sl28 : Array (Option Value)} {oc28 kV28 dc28 pm28 cd28 ct28 : Value}
    (a28 : PySem.W.nsIn K mainGlobals "_law_any_name" = some (some (.ref f28))) (l28 : K.lookup f28 = some ⟨oc28, od28, .func (PySem.W.fnOf "_law_any_name" "_law_any_name" (defArgs s__law_any_name) (defBody s__law_any_name) (defScope s__law_any_name) .none kV28 dc28 pm28 an28 cd28 ct28), sl28⟩) (c28 : PySem.W.codeIn K cd28 "_law_any_name" = true) (k28 : PySem.W.keepIn K (.ref f28) = true)
    {f30 : Addr} {od30 an30 : Option Addr} {sl30 : Array (Option Value)} {oc30 kV30 dc30 pm30 cd30 ct30 : Value}
    (a30 : PySem.W.nsIn K mainGlobals "_law_is_name" = some (some (.ref f30))) (l30 : K.lookup f30 = some ⟨oc30, od30, .func (PySem.W.fnOf "_law_is_name" "_law_is_name" (defArgs s__law_is_name) (defBody s__law_is_name) (defScope s__law_is_name) .none kV30 dc30 pm30 an30 cd30 ct30), sl30⟩) (c30 : PySem.W.codeIn K cd30 "_law_is_name" = true) (k30 : PySem.W.keepIn K (.ref f30) = true)
    {f31 : Addr} {od31 an31 : Option Addr} {sl31 : Array (Option Value)} {oc31 kV31 dc31 pm31 cd31 ct31 : Value}
    (a31 : PySem.W.nsIn K mainGlobals "_law_is_text" = some (some (.ref f31))) (l31 : K.lookup f31 = some ⟨oc31, od31, .func (PySem.W.fnOf "_law_is_text" "_law_is_text" (defArgs s__law_is_text) (defBody s__law_is_text) (defScope s__law_is_text) .none kV31 dc31 pm31 an31 cd31 ct31), sl31⟩) (c31 : PySem.W.codeIn K cd31 "_law_is_text" = true) (k31 : PySem.W.keepIn K (.ref f31) = true)
    {f32 : Addr} {od32 an32 : Option Addr} {sl32 : Array (Option Value)} {oc32 kV32 dc32 pm32 cd32 ct32 : Value}
    (a32 : PySem.W.nsIn K mainGlobals "_law_due" = some (some (.ref f32))) (l32 : K.lookup f32 = some ⟨oc32, od32, .func (PySem.W.fnOf "_law_due" "_law_due" (defArgs s__law_due) (defBody s__law_due) (defScope s__law_due) .none kV32 dc32 pm32 an32 cd32 ct32), sl32⟩) (c32 : PySem.W.codeIn K cd32 "_law_due" = true) (k32 : PySem.W.keepIn K (.ref f32) = true)
    {f34 : Addr} {od34 an34 : Option Addr} {sl34 : Array (Option Value)} {oc34 kV34 dc34 pm34 cd34 ct34 : Value}
    (a34 : PySem.W.nsIn K mainGlobals "_law_same" = some (some (.ref f34))) (l34 : K.lookup f34 = some ⟨oc34, od34, .func (PySem.W.fnOf "_law_same" "_law_same" (defArgs s__law_same) (defBody s__law_same) (defScope s__law_same) .none kV34 dc34 pm34 an34 cd34 ct34), sl34⟩) (c34 : PySem.W.codeIn K cd34 "_law_same" = true) (k34 : PySem.W.keepIn K (.ref f34) = true)
    {f16 : Addr} {od16 an16 : Option Addr} {sl16 : Array (Option Value)} {oc16 kV16 dc16 pm16 cd16 ct16 : Value}
    (a16 : PySem.W.nsIn K mainGlobals "is_file_name" = some (some (.ref f16))) (l16 : K.lookup f16 = some ⟨oc16, od16, .func (PySem.W.fnOf "is_file_name" "is_file_name" (defArgs s_is_file_name) (defBody s_is_file_name) (defScope s_is_file_name) .none kV16 dc16 pm16 an16 cd16 ct16), sl16⟩) (c16 : PySem.W.codeIn K cd16 "is_file_name" = true) (k16 : PySem.W.keepIn K (.ref f16) = true)
    {f12 : Addr} {od12 an12 : Option Addr} {sl12 : Array (Option Value)} {oc12 kV12 dc12 pm12 cd12 ct12 : Value}
    (a12 : PySem.W.nsIn K mainGlobals "is_signs" = some (some (.ref f12))) (l12 : K.lookup f12 = some ⟨oc12, od12, .func (PySem.W.fnOf "is_signs" "is_signs" (defArgs s_is_signs) (defBody s_is_signs) (defScope s_is_signs) .none kV12 dc12 pm12 an12 cd12 ct12), sl12⟩) (c12 : PySem.W.codeIn K cd12 "is_signs" = true) (k12 : PySem.W.keepIn K (.ref f12) = true)
    {f33 : Addr} {od33 an33 : Option Addr} {sl33 : Array (Option Value)} {oc33 kV33 dc33 pm33 cd33 ct33 : Value}
    (a33 : PySem.W.nsIn K mainGlobals "_law_told" = some (some (.ref f33))) (l33 : K.lookup f33 = some ⟨oc33, od33, .func (PySem.W.fnOf "_law_told" "_law_told" (defArgs s__law_told) (defBody s__law_told) (defScope s__law_told) .none kV33 dc33 pm33 an33 cd33 ct33), sl33⟩) (c33 : PySem.W.codeIn K cd33 "_law_told" = true) (k33 : PySem.W.keepIn K (.ref f33) = true)
    {f35 : Addr} {od35 an35 : Option Addr} {sl35 : Array (Option Value)} {oc35 kV35 dc35 pm35 cd35 ct35 : Value}
    (a35 : PySem.W.nsIn K mainGlobals "_law_alike" = some (some (.ref f35))) (l35 : K.lookup f35 = some ⟨oc35, od35, .func (PySem.W.fnOf "_law_alike" "_law_alike" (defArgs s__law_alike) (defBody s__law_alike) (defScope s__law_alike) .none kV35 dc35 pm35 an35 cd35 ct35), sl35⟩) (c35 : PySem.W.codeIn K cd35 "_law_alike" = true) (k35 : PySem.W.keepIn K (.ref f35) = true)
    {f36 : Addr} {od36 an36 : Option Addr} {sl36 : Array (Option Value)} {oc36 kV36 dc36 pm36 cd36 ct36 : Value}
    (a36 : PySem.W.nsIn K mainGlobals "law" = some (some (.ref f36))) (l36 : K.lookup f36 = some ⟨oc36, od36, .func (PySem.W.fnOf "law" "law" (defArgs s_law) (defBody s_law) (defScope s_law) .none kV36 dc36 pm36 an36 cd36 ct36), sl36⟩) (c36 : PySem.W.codeIn K cd36 "law" = true) (k36 : PySem.W.keepIn K (.ref f36) = true)
    (zhn : PySem.W.specialIn K (.builtin "object.__class__") "__get__" = some (some (.builtin "getset_descriptor.__get__"))) (zht : PySem.W.takesIn K (.builtin "object.__class__") = some true)
    {e_InvalidName : Addr} (ga_InvalidName : PySem.W.nsIn K mainGlobals "InvalidName" = some (some (.ref e_InvalidName)))
    {e_InvalidText : Addr} (ga_InvalidText : PySem.W.nsIn K mainGlobals "InvalidText" = some (some (.ref e_InvalidText)))
    {e_NoFile : Addr} (ga_NoFile : PySem.W.nsIn K mainGlobals "NoFile" = some (some (.ref e_NoFile)))
    {e_QueueError : Addr} (ga_QueueError : PySem.W.nsIn K mainGlobals "QueueError" = some (some (.ref e_QueueError)))
    {e_Disk : Addr} (ga_Disk : PySem.W.nsIn K mainGlobals "Disk" = some (some (.ref e_Disk)))
    (qa_QueueError : PySem.W.specialIn K (.ref e_QueueError) "__getattribute__" = some (some (.builtin "type.__getattribute__"))) (qb_QueueError : PySem.W.readsIn K e_QueueError (.type "type") = true) (qc_QueueError : PySem.W.findCls K (.ref e_QueueError) (.type "type") "__init__" = some (.val (.builtin "Exception.__init__")))
    {nm_InvalidName q_InvalidName : Str} {N_InvalidName : Addr} {bs_InvalidName sub_InvalidName : List Value} {sn_InvalidName : List Str} {ab_InvalidName : Bool} {col_InvalidName : Option Bool} {dd_InvalidName : Option Addr} {k0_InvalidName k1_InvalidName k2_InvalidName k3_InvalidName k5_InvalidName : Option Value} (cl_InvalidName : K.lookup e_InvalidName = some (excClassObj nm_InvalidName q_InvalidName e_InvalidName N_InvalidName bs_InvalidName (.ref e_QueueError :: tailE) true sn_InvalidName sub_InvalidName ab_InvalidName col_InvalidName dd_InvalidName k0_InvalidName k1_InvalidName k2_InvalidName k3_InvalidName k5_InvalidName "Exception.__new__"))
    (sa_InvalidName : PySem.W.findIn K (.ref e_InvalidName) "__setattr__" = some (some (.builtin "object.__setattr__"))) (ex_InvalidName : PySem.W.subIn K (.ref e_InvalidName) (.type "BaseException") = some true) (ty_InvalidName : PySem.W.typeIn K (.ref e_InvalidName) = some (.type "type")) (kc_InvalidName : PySem.W.keepIn K (.ref e_InvalidName) = true)
    (xa_InvalidName : PySem.W.findIn K (.ref e_InvalidName) "__getattribute__" = some (some (.builtin "BaseException.__getattribute__"))) (xb_InvalidName : PySem.W.findIn K (.ref e_InvalidName) "__getattr__" = some none) (xd_InvalidName : PySem.W.hasDictIn K e_InvalidName = true) (xe_InvalidName : PySem.W.findIn K (.ref e_InvalidName) "__class__" = some (some (.builtin "object.__class__"))) (xm_InvalidName : PySem.W.mroIn K e_InvalidName (.type "object") = some true) (no_InvalidName : PySem.W.findIn K (.ref e_InvalidName) "given" = some none)
    {fI_InvalidName : Addr} {od_InvalidName an_InvalidName : Option Addr} {sl_InvalidName : Array (Option Value)} {oc_InvalidName kV_InvalidName dc_InvalidName pm_InvalidName cd_InvalidName ct_InvalidName : Value} (ia_InvalidName : PySem.W.findIn K (.ref e_InvalidName) "__init__" = some (some (.ref fI_InvalidName))) (it_InvalidName : PySem.W.typeIn K (.ref fI_InvalidName) = some (.type "function"))
    (il_InvalidName : K.lookup fI_InvalidName = some ⟨oc_InvalidName, od_InvalidName, .func (PySem.W.fnOf "__init__" "InvalidName.__init__" (defArgs si_InvalidName) (defBody si_InvalidName) (defScope si_InvalidName) .none kV_InvalidName dc_InvalidName pm_InvalidName an_InvalidName cd_InvalidName ct_InvalidName), sl_InvalidName⟩) (ic_InvalidName : PySem.W.codeIn K cd_InvalidName "InvalidName.__init__" = true) (ik_InvalidName : PySem.W.keepIn K (.ref fI_InvalidName) = true)
    (sx_InvalidName_InvalidName : PySem.W.subIn K (.ref e_InvalidName) (.ref e_InvalidName) = some true)
    (sx_InvalidName_InvalidText : PySem.W.subIn K (.ref e_InvalidName) (.ref e_InvalidText) = some false)
    (sx_InvalidName_NoFile : PySem.W.subIn K (.ref e_InvalidName) (.ref e_NoFile) = some false)
    {nm_InvalidText q_InvalidText : Str} {N_InvalidText : Addr} {bs_InvalidText sub_InvalidText : List Value} {sn_InvalidText : List Str} {ab_InvalidText : Bool} {col_InvalidText : Option Bool} {dd_InvalidText : Option Addr} {k0_InvalidText k1_InvalidText k2_InvalidText k3_InvalidText k5_InvalidText : Option Value} (cl_InvalidText : K.lookup e_InvalidText = some (excClassObj nm_InvalidText q_InvalidText e_InvalidText N_InvalidText bs_InvalidText (.ref e_QueueError :: tailE) true sn_InvalidText sub_InvalidText ab_InvalidText col_InvalidText dd_InvalidText k0_InvalidText k1_InvalidText k2_InvalidText k3_InvalidText k5_InvalidText "Exception.__new__"))
    (sa_InvalidText : PySem.W.findIn K (.ref e_InvalidText) "__setattr__" = some (some (.builtin "object.__setattr__"))) (ex_InvalidText : PySem.W.subIn K (.ref e_InvalidText) (.type "BaseException") = some true) (ty_InvalidText : PySem.W.typeIn K (.ref e_InvalidText) = some (.type "type")) (kc_InvalidText : PySem.W.keepIn K (.ref e_InvalidText) = true)
    (xa_InvalidText : PySem.W.findIn K (.ref e_InvalidText) "__getattribute__" = some (some (.builtin "BaseException.__getattribute__"))) (xb_InvalidText : PySem.W.findIn K (.ref e_InvalidText) "__getattr__" = some none) (xd_InvalidText : PySem.W.hasDictIn K e_InvalidText = true) (xe_InvalidText : PySem.W.findIn K (.ref e_InvalidText) "__class__" = some (some (.builtin "object.__class__"))) (xm_InvalidText : PySem.W.mroIn K e_InvalidText (.type "object") = some true) (no_InvalidText : PySem.W.findIn K (.ref e_InvalidText) "given" = some none)
    {fI_InvalidText : Addr} {od_InvalidText an_InvalidText : Option Addr} {sl_InvalidText : Array (Option Value)} {oc_InvalidText kV_InvalidText dc_InvalidText pm_InvalidText cd_InvalidText ct_InvalidText : Value} (ia_InvalidText : PySem.W.findIn K (.ref e_InvalidText) "__init__" = some (some (.ref fI_InvalidText))) (it_InvalidText : PySem.W.typeIn K (.ref fI_InvalidText) = some (.type "function"))
    (il_InvalidText : K.lookup fI_InvalidText = some ⟨oc_InvalidText, od_InvalidText, .func (PySem.W.fnOf "__init__" "InvalidText.__init__" (defArgs si_InvalidText) (defBody si_InvalidText) (defScope si_InvalidText) .none kV_InvalidText dc_InvalidText pm_InvalidText an_InvalidText cd_InvalidText ct_InvalidText), sl_InvalidText⟩) (ic_InvalidText : PySem.W.codeIn K cd_InvalidText "InvalidText.__init__" = true) (ik_InvalidText : PySem.W.keepIn K (.ref fI_InvalidText) = true)
    (sx_InvalidText_InvalidName : PySem.W.subIn K (.ref e_InvalidText) (.ref e_InvalidName) = some false)
    (sx_InvalidText_InvalidText : PySem.W.subIn K (.ref e_InvalidText) (.ref e_InvalidText) = some true)
    (sx_InvalidText_NoFile : PySem.W.subIn K (.ref e_InvalidText) (.ref e_NoFile) = some false)
    {nm_NoFile q_NoFile : Str} {N_NoFile : Addr} {bs_NoFile sub_NoFile : List Value} {sn_NoFile : List Str} {ab_NoFile : Bool} {col_NoFile : Option Bool} {dd_NoFile : Option Addr} {k0_NoFile k1_NoFile k2_NoFile k3_NoFile k5_NoFile : Option Value} (cl_NoFile : K.lookup e_NoFile = some (excClassObj nm_NoFile q_NoFile e_NoFile N_NoFile bs_NoFile (.ref e_QueueError :: tailE) true sn_NoFile sub_NoFile ab_NoFile col_NoFile dd_NoFile k0_NoFile k1_NoFile k2_NoFile k3_NoFile k5_NoFile "Exception.__new__"))
    (sa_NoFile : PySem.W.findIn K (.ref e_NoFile) "__setattr__" = some (some (.builtin "object.__setattr__"))) (ex_NoFile : PySem.W.subIn K (.ref e_NoFile) (.type "BaseException") = some true) (ty_NoFile : PySem.W.typeIn K (.ref e_NoFile) = some (.type "type")) (kc_NoFile : PySem.W.keepIn K (.ref e_NoFile) = true)
    (xa_NoFile : PySem.W.findIn K (.ref e_NoFile) "__getattribute__" = some (some (.builtin "BaseException.__getattribute__"))) (xb_NoFile : PySem.W.findIn K (.ref e_NoFile) "__getattr__" = some none) (xd_NoFile : PySem.W.hasDictIn K e_NoFile = true) (xe_NoFile : PySem.W.findIn K (.ref e_NoFile) "__class__" = some (some (.builtin "object.__class__"))) (xm_NoFile : PySem.W.mroIn K e_NoFile (.type "object") = some true) (no_NoFile : PySem.W.findIn K (.ref e_NoFile) "name" = some none)
    {fI_NoFile : Addr} {od_NoFile an_NoFile : Option Addr} {sl_NoFile : Array (Option Value)} {oc_NoFile kV_NoFile dc_NoFile pm_NoFile cd_NoFile ct_NoFile : Value} (ia_NoFile : PySem.W.findIn K (.ref e_NoFile) "__init__" = some (some (.ref fI_NoFile))) (it_NoFile : PySem.W.typeIn K (.ref fI_NoFile) = some (.type "function"))
    (il_NoFile : K.lookup fI_NoFile = some ⟨oc_NoFile, od_NoFile, .func (PySem.W.fnOf "__init__" "NoFile.__init__" (defArgs si_NoFile) (defBody si_NoFile) (defScope si_NoFile) .none kV_NoFile dc_NoFile pm_NoFile an_NoFile cd_NoFile ct_NoFile), sl_NoFile⟩) (ic_NoFile : PySem.W.codeIn K cd_NoFile "NoFile.__init__" = true) (ik_NoFile : PySem.W.keepIn K (.ref fI_NoFile) = true)
    (sx_NoFile_InvalidName : PySem.W.subIn K (.ref e_NoFile) (.ref e_InvalidName) = some false)
    (sx_NoFile_InvalidText : PySem.W.subIn K (.ref e_NoFile) (.ref e_InvalidText) = some false)
    (sx_NoFile_NoFile : PySem.W.subIn K (.ref e_NoFile) (.ref e_NoFile) = some true)
    (kg_Disk : PySem.W.plainGet K e_Disk Str.empty = true) (kd_Disk : PySem.W.hasDictIn K e_Disk = true) (kp_Disk : PySem.W.plainOver K e_Disk = true) (ks_Disk : PySem.W.findIn K (.ref e_Disk) "__setattr__" = some (some (.builtin "object.__setattr__")))
    (kf_Disk_files : PySem.W.findIn K (.ref e_Disk) "files" = some none)
    (kf_Disk_marks : PySem.W.findIn K (.ref e_Disk) "marks" = some none)
    (kf_Disk_calls : PySem.W.findIn K (.ref e_Disk) "calls" = some none)
    (kf_Disk_left : PySem.W.findIn K (.ref e_Disk) "left" = some none)
    (km_Disk : PySem.W.makesIn K e_Disk = true) (kk_Disk : PySem.W.keepIn K (.ref e_Disk) = true)
    {f_Disk_use_power : Addr} {od_Disk_use_power an_Disk_use_power : Option Addr} {sl_Disk_use_power : Array (Option Value)} {oc_Disk_use_power kV_Disk_use_power dc_Disk_use_power pm_Disk_use_power cd_Disk_use_power ct_Disk_use_power : Value}
    (ma_Disk_use_power : PySem.W.findIn K (.ref e_Disk) "use_power" = some (some (.ref f_Disk_use_power))) (mf_Disk_use_power : PySem.W.isFn K (.ref f_Disk_use_power) = true) (ml_Disk_use_power : K.lookup f_Disk_use_power = some ⟨oc_Disk_use_power, od_Disk_use_power, .func (PySem.W.fnOf "use_power" "Disk.use_power" (defArgs s_Disk_use_power) (defBody s_Disk_use_power) (defScope s_Disk_use_power) .none kV_Disk_use_power dc_Disk_use_power pm_Disk_use_power an_Disk_use_power cd_Disk_use_power ct_Disk_use_power), sl_Disk_use_power⟩) (mc_Disk_use_power : PySem.W.codeIn K cd_Disk_use_power "Disk.use_power" = true) (mk_Disk_use_power : PySem.W.keepIn K (.ref f_Disk_use_power) = true)
    {f_Disk_write : Addr} {od_Disk_write an_Disk_write : Option Addr} {sl_Disk_write : Array (Option Value)} {oc_Disk_write kV_Disk_write dc_Disk_write pm_Disk_write cd_Disk_write ct_Disk_write : Value}
    (ma_Disk_write : PySem.W.findIn K (.ref e_Disk) "write" = some (some (.ref f_Disk_write))) (mf_Disk_write : PySem.W.isFn K (.ref f_Disk_write) = true) (ml_Disk_write : K.lookup f_Disk_write = some ⟨oc_Disk_write, od_Disk_write, .func (PySem.W.fnOf "write" "Disk.write" (defArgs s_Disk_write) (defBody s_Disk_write) (defScope s_Disk_write) .none kV_Disk_write dc_Disk_write pm_Disk_write an_Disk_write cd_Disk_write ct_Disk_write), sl_Disk_write⟩) (mc_Disk_write : PySem.W.codeIn K cd_Disk_write "Disk.write" = true) (mk_Disk_write : PySem.W.keepIn K (.ref f_Disk_write) = true)
    {f_Disk_check_file : Addr} {od_Disk_check_file an_Disk_check_file : Option Addr} {sl_Disk_check_file : Array (Option Value)} {oc_Disk_check_file kV_Disk_check_file dc_Disk_check_file pm_Disk_check_file cd_Disk_check_file ct_Disk_check_file : Value}
    (ma_Disk_check_file : PySem.W.findIn K (.ref e_Disk) "check_file" = some (some (.ref f_Disk_check_file))) (mf_Disk_check_file : PySem.W.isFn K (.ref f_Disk_check_file) = true) (ml_Disk_check_file : K.lookup f_Disk_check_file = some ⟨oc_Disk_check_file, od_Disk_check_file, .func (PySem.W.fnOf "check_file" "Disk.check_file" (defArgs s_Disk_check_file) (defBody s_Disk_check_file) (defScope s_Disk_check_file) .none kV_Disk_check_file dc_Disk_check_file pm_Disk_check_file an_Disk_check_file cd_Disk_check_file ct_Disk_check_file), sl_Disk_check_file⟩) (mc_Disk_check_file : PySem.W.codeIn K cd_Disk_check_file "Disk.check_file" = true) (mk_Disk_check_file : PySem.W.keepIn K (.ref f_Disk_check_file) = true)
    {f_Disk_sync : Addr} {od_Disk_sync an_Disk_sync : Option Addr} {sl_Disk_sync : Array (Option Value)} {oc_Disk_sync kV_Disk_sync dc_Disk_sync pm_Disk_sync cd_Disk_sync ct_Disk_sync : Value}
    (ma_Disk_sync : PySem.W.findIn K (.ref e_Disk) "sync" = some (some (.ref f_Disk_sync))) (mf_Disk_sync : PySem.W.isFn K (.ref f_Disk_sync) = true) (ml_Disk_sync : K.lookup f_Disk_sync = some ⟨oc_Disk_sync, od_Disk_sync, .func (PySem.W.fnOf "sync" "Disk.sync" (defArgs s_Disk_sync) (defBody s_Disk_sync) (defScope s_Disk_sync) .none kV_Disk_sync dc_Disk_sync pm_Disk_sync an_Disk_sync cd_Disk_sync ct_Disk_sync), sl_Disk_sync⟩) (mc_Disk_sync : PySem.W.codeIn K cd_Disk_sync "Disk.sync" = true) (mk_Disk_sync : PySem.W.keepIn K (.ref f_Disk_sync) = true)
    {f_Disk_drop : Addr} {od_Disk_drop an_Disk_drop : Option Addr} {sl_Disk_drop : Array (Option Value)} {oc_Disk_drop kV_Disk_drop dc_Disk_drop pm_Disk_drop cd_Disk_drop ct_Disk_drop : Value}
    (ma_Disk_drop : PySem.W.findIn K (.ref e_Disk) "drop" = some (some (.ref f_Disk_drop))) (mf_Disk_drop : PySem.W.isFn K (.ref f_Disk_drop) = true) (ml_Disk_drop : K.lookup f_Disk_drop = some ⟨oc_Disk_drop, od_Disk_drop, .func (PySem.W.fnOf "drop" "Disk.drop" (defArgs s_Disk_drop) (defBody s_Disk_drop) (defScope s_Disk_drop) .none kV_Disk_drop dc_Disk_drop pm_Disk_drop an_Disk_drop cd_Disk_drop ct_Disk_drop), sl_Disk_drop⟩) (mc_Disk_drop : PySem.W.codeIn K cd_Disk_drop "Disk.drop" = true) (mk_Disk_drop : PySem.W.keepIn K (.ref f_Disk_drop) = true)
    {f_Disk_read : Addr} {od_Disk_read an_Disk_read : Option Addr} {sl_Disk_read : Array (Option Value)} {oc_Disk_read kV_Disk_read dc_Disk_read pm_Disk_read cd_Disk_read ct_Disk_read : Value}
    (ma_Disk_read : PySem.W.findIn K (.ref e_Disk) "read" = some (some (.ref f_Disk_read))) (mf_Disk_read : PySem.W.isFn K (.ref f_Disk_read) = true) (ml_Disk_read : K.lookup f_Disk_read = some ⟨oc_Disk_read, od_Disk_read, .func (PySem.W.fnOf "read" "Disk.read" (defArgs s_Disk_read) (defBody s_Disk_read) (defScope s_Disk_read) .none kV_Disk_read dc_Disk_read pm_Disk_read an_Disk_read cd_Disk_read ct_Disk_read), sl_Disk_read⟩) (mc_Disk_read : PySem.W.codeIn K cd_Disk_read "Disk.read" = true) (mk_Disk_read : PySem.W.keepIn K (.ref f_Disk_read) = true)
    {f_Disk_synced : Addr} {od_Disk_synced an_Disk_synced : Option Addr} {sl_Disk_synced : Array (Option Value)} {oc_Disk_synced kV_Disk_synced dc_Disk_synced pm_Disk_synced cd_Disk_synced ct_Disk_synced : Value}
    (ma_Disk_synced : PySem.W.findIn K (.ref e_Disk) "synced" = some (some (.ref f_Disk_synced))) (mf_Disk_synced : PySem.W.isFn K (.ref f_Disk_synced) = true) (ml_Disk_synced : K.lookup f_Disk_synced = some ⟨oc_Disk_synced, od_Disk_synced, .func (PySem.W.fnOf "synced" "Disk.synced" (defArgs s_Disk_synced) (defBody s_Disk_synced) (defScope s_Disk_synced) .none kV_Disk_synced dc_Disk_synced pm_Disk_synced an_Disk_synced cd_Disk_synced ct_Disk_synced), sl_Disk_synced⟩) (mc_Disk_synced : PySem.W.codeIn K cd_Disk_synced "Disk.synced" = true) (mk_Disk_synced : PySem.W.keepIn K (.ref f_Disk_synced) = true)
    {f_Disk_names : Addr} {od_Disk_names an_Disk_names : Option Addr} {sl_Disk_names : Array (Option Value)} {oc_Disk_names kV_Disk_names dc_Disk_names pm_Disk_names cd_Disk_names ct_Disk_names : Value}
    (ma_Disk_names : PySem.W.findIn K (.ref e_Disk) "names" = some (some (.ref f_Disk_names))) (mf_Disk_names : PySem.W.isFn K (.ref f_Disk_names) = true) (ml_Disk_names : K.lookup f_Disk_names = some ⟨oc_Disk_names, od_Disk_names, .func (PySem.W.fnOf "names" "Disk.names" (defArgs s_Disk_names) (defBody s_Disk_names) (defScope s_Disk_names) .none kV_Disk_names dc_Disk_names pm_Disk_names an_Disk_names cd_Disk_names ct_Disk_names), sl_Disk_names⟩) (mc_Disk_names : PySem.W.codeIn K cd_Disk_names "Disk.names" = true) (mk_Disk_names : PySem.W.keepIn K (.ref f_Disk_names) = true)
    {f_Disk_ops : Addr} {od_Disk_ops an_Disk_ops : Option Addr} {sl_Disk_ops : Array (Option Value)} {oc_Disk_ops kV_Disk_ops dc_Disk_ops pm_Disk_ops cd_Disk_ops ct_Disk_ops : Value}
    (ma_Disk_ops : PySem.W.findIn K (.ref e_Disk) "ops" = some (some (.ref f_Disk_ops))) (mf_Disk_ops : PySem.W.isFn K (.ref f_Disk_ops) = true) (ml_Disk_ops : K.lookup f_Disk_ops = some ⟨oc_Disk_ops, od_Disk_ops, .func (PySem.W.fnOf "ops" "Disk.ops" (defArgs s_Disk_ops) (defBody s_Disk_ops) (defScope s_Disk_ops) .none kV_Disk_ops dc_Disk_ops pm_Disk_ops an_Disk_ops cd_Disk_ops ct_Disk_ops), sl_Disk_ops⟩) (mc_Disk_ops : PySem.W.codeIn K cd_Disk_ops "Disk.ops" = true) (mk_Disk_ops : PySem.W.keepIn K (.ref f_Disk_ops) = true)
    {f_Disk___init__ : Addr} {od_Disk___init__ an_Disk___init__ : Option Addr} {sl_Disk___init__ : Array (Option Value)} {oc_Disk___init__ kV_Disk___init__ dc_Disk___init__ pm_Disk___init__ cd_Disk___init__ ct_Disk___init__ : Value}
    (ma_Disk___init__ : PySem.W.findIn K (.ref e_Disk) "__init__" = some (some (.ref f_Disk___init__))) (mf_Disk___init__ : PySem.W.isFn K (.ref f_Disk___init__) = true) (ml_Disk___init__ : K.lookup f_Disk___init__ = some ⟨oc_Disk___init__, od_Disk___init__, .func (PySem.W.fnOf "__init__" "Disk.__init__" (defArgs s_Disk___init__) (defBody s_Disk___init__) (defScope s_Disk___init__) .none kV_Disk___init__ dc_Disk___init__ pm_Disk___init__ an_Disk___init__ cd_Disk___init__ ct_Disk___init__), sl_Disk___init__⟩) (mc_Disk___init__ : PySem.W.codeIn K cd_Disk___init__ "Disk.__init__" = true) (mk_Disk___init__ : PySem.W.keepIn K (.ref f_Disk___init__) = true)
    (z_int : PySem.W.nsIn K mainGlobals "int" = some none)
    (z_abs : PySem.W.nsIn K mainGlobals "abs" = some none)
    (z_len : PySem.W.nsIn K mainGlobals "len" = some none)
    (z_sum : PySem.W.nsIn K mainGlobals "sum" = some none)
    (z_range : PySem.W.nsIn K mainGlobals "range" = some none)
    (z_dict : PySem.W.nsIn K mainGlobals "dict" = some none)
    (z_sorted : PySem.W.nsIn K mainGlobals "sorted" = some none)
    (z_list : PySem.W.nsIn K mainGlobals "list" = some none)
    (z_isinstance : PySem.W.nsIn K mainGlobals "isinstance" = some none)
    (z_str : PySem.W.nsIn K mainGlobals "str" = some none)
    (z_repr : PySem.W.nsIn K mainGlobals "repr" = some none)
    (z_all : PySem.W.nsIn K mainGlobals "all" = some none)
    (z_max : PySem.W.nsIn K mainGlobals "max" = some none)
    (z_min : PySem.W.nsIn K mainGlobals "min" = some none)
    {t_MOST_NAME : Tok} (v_MOST_NAME : PySem.W.nsIn K mainGlobals "MOST_NAME" = some (some (.int (12) t_MOST_NAME)))
    {t_NAME_SIGNS : Tok} (v_NAME_SIGNS : PySem.W.nsIn K mainGlobals "NAME_SIGNS" = some (some (.str "abcdefghijklmnopqrstuvwxyz0123456789-" t_NAME_SIGNS)))
    : ∃ fd : FuncData, (∀ (s : Shared) (v : Value), BindsTo s fd ⟨[v], []⟩ [("_law_script", v)]) ∧ ∀ base : Heap, K.In base → base.Ns mainGlobals mg → FnG l.prog w K mg base CX0 6 fa fd ["_law_script"] (sp_law K) := by
  have hl : PySem.W.nsIn K mainGlobals "law" = some (some (.ref f36)) := a36
  have e := hfa.symm.trans (PySem.W.mg_of X G a36)
  cases e
  have T : Txt K mg e_InvalidName e_InvalidText e_NoFile e_QueueError e_Disk := ⟨PySem.W.mg_of X G ga_InvalidName, ga_InvalidName, PySem.W.mg_of X G ga_InvalidText, ga_InvalidText, PySem.W.mg_of X G ga_NoFile, ga_NoFile, PySem.W.mg_of X G ga_QueueError, ga_QueueError, PySem.W.mg_of X G ga_Disk, ga_Disk, ⟨⟨xa_InvalidName, xb_InvalidName, ex_InvalidName, xd_InvalidName⟩, ty_InvalidName, xe_InvalidName, zhn, zht, xm_InvalidName⟩, no_InvalidName, sx_InvalidName_InvalidName, sx_InvalidName_InvalidText, sx_InvalidName_NoFile, ⟨⟨xa_InvalidText, xb_InvalidText, ex_InvalidText, xd_InvalidText⟩, ty_InvalidText, xe_InvalidText, zhn, zht, xm_InvalidText⟩, no_InvalidText, sx_InvalidText_InvalidName, sx_InvalidText_InvalidText, sx_InvalidText_NoFile, ⟨⟨xa_NoFile, xb_NoFile, ex_NoFile, xd_NoFile⟩, ty_NoFile, xe_NoFile, zhn, zht, xm_NoFile⟩, no_NoFile, sx_NoFile_InvalidName, sx_NoFile_InvalidText, sx_NoFile_NoFile, ⟨.type "type", qa_QueueError, qb_QueueError, qc_QueueError⟩, ⟨kg_Disk, kd_Disk, kp_Disk, ks_Disk⟩, kf_Disk_files, kf_Disk_marks, kf_Disk_calls, kf_Disk_left, PySem.W.mg_none_of X G z_int, PySem.W.mg_none_of X G z_abs, PySem.W.mg_none_of X G z_len, PySem.W.mg_none_of X G z_sum, PySem.W.mg_none_of X G z_range, PySem.W.mg_none_of X G z_dict, PySem.W.mg_none_of X G z_sorted, PySem.W.mg_none_of X G z_list, PySem.W.mg_none_of X G z_isinstance, PySem.W.mg_none_of X G z_str, PySem.W.mg_none_of X G z_repr, PySem.W.mg_none_of X G z_all, PySem.W.mg_none_of X G z_max, PySem.W.mg_none_of X G z_min, ⟨_, PySem.W.mg_of X G v_MOST_NAME, ⟨_, rfl⟩⟩, ⟨_, PySem.W.mg_of X G v_NAME_SIGNS, ⟨_, rfl⟩⟩⟩
  have D__law_box : Df K mg "_law_box" s__law_box ["_law_great"] := df_mk X G a22 l22 c22 k22 fun _ _ _ _ _ _ us hl => match us, hl with | [_], _ => rfl
  have D__law_cell : Df K mg "_law_cell" s__law_cell ["_law_script", "_law_k"] := df_mk X G a21 l21 c21 k21 fun _ _ _ _ _ _ us hl => match us, hl with | [_, _], _ => rfl
  have D__law_take : Df K mg "_law_take" s__law_take ["_law_box_here", "_law_many"] := df_mk X G a23 l23 c23 k23 fun _ _ _ _ _ _ us hl => match us, hl with | [_, _], _ => rfl
  have D__law_word : Df K mg "_law_word" s__law_word ["_law_box_here", "_law_signs_here", "_law_most"] := df_mk X G a27 l27 c27 k27 fun _ _ _ _ _ _ us hl => match us, hl with | [_, _, _], _ => rfl
  have D__law_signs : Df K mg "_law_signs" s__law_signs [] := df_mk X G a24 l24 c24 k24 fun _ _ _ _ _ _ us hl => match us, hl with | [], _ => rfl
  have D__law_marks : Df K mg "_law_marks" s__law_marks [] := df_mk X G a25 l25 c25 k25 fun _ _ _ _ _ _ us hl => match us, hl with | [], _ => rfl
  have D__law_any_text : Df K mg "_law_any_text" s__law_any_text ["_law_box_here"] := df_mk X G a29 l29 c29 k29 fun _ _ _ _ _ _ us hl => match us, hl with | [_], _ => rfl
  have D__law_pool : Df K mg "_law_pool" s__law_pool [] := df_mk X G a26 l26 c26 k26 fun _ _ _ _ _ _ us hl => match us, hl with | [], _ => rfl
  have D__law_any_name : Df K mg "_law_any_name" s__law_any_name ["_law_box_here", "_law_files"] := df_mk X G a28 l28 c28 k28 fun _ _ _ _ _ _ us hl => match us, hl with | [_, _], _ => rfl
  have D__law_is_name : Df K mg "_law_is_name" s__law_is_name ["_law_thing"] := df_mk X G a30 l30 c30 k30 fun _ _ _ _ _ _ us hl => match us, hl with | [_], _ => rfl
  have D__law_is_text : Df K mg "_law_is_text" s__law_is_text ["_law_thing"] := df_mk X G a31 l31 c31 k31 fun _ _ _ _ _ _ us hl => match us, hl with | [_], _ => rfl
  have D__law_due : Df K mg "_law_due" s__law_due ["_law_files", "_law_counts", "_law_way", "_law_name", "_law_text"] := df_mk X G a32 l32 c32 k32 fun _ _ _ _ _ _ us hl => match us, hl with | [_, _, _, _, _], _ => rfl
  have D__law_same : Df K mg "_law_same" s__law_same ["_law_told_here", "_law_due_here"] := df_mk X G a34 l34 c34 k34 fun _ _ _ _ _ _ us hl => match us, hl with | [_, _], _ => rfl
  have D_is_file_name : Df K mg "is_file_name" s_is_file_name ["value"] := df_mk X G a16 l16 c16 k16 fun _ _ _ _ _ _ us hl => match us, hl with | [_], _ => rfl
  have D_is_signs : Df K mg "is_signs" s_is_signs ["value"] := df_mk X G a12 l12 c12 k12 fun _ _ _ _ _ _ us hl => match us, hl with | [_], _ => rfl
  have D_Disk_use_power : Dm K e_Disk "use_power" "Disk.use_power" s_Disk_use_power ["self"] := ⟨f_Disk_use_power, _, fun_mk ml_Disk_use_power mc_Disk_use_power mk_Disk_use_power, ⟨kg_Disk, kd_Disk, kp_Disk, ks_Disk⟩, ⟨ma_Disk_use_power, mf_Disk_use_power, mk_Disk_use_power⟩, (fun_mk ml_Disk_use_power mc_Disk_use_power mk_Disk_use_power).binds fun _ _ _ _ _ _ us hl => match us, hl with | [_], _ => rfl⟩
  have D_Disk_write : Dm K e_Disk "write" "Disk.write" s_Disk_write ["self", "name", "text"] := ⟨f_Disk_write, _, fun_mk ml_Disk_write mc_Disk_write mk_Disk_write, ⟨kg_Disk, kd_Disk, kp_Disk, ks_Disk⟩, ⟨ma_Disk_write, mf_Disk_write, mk_Disk_write⟩, (fun_mk ml_Disk_write mc_Disk_write mk_Disk_write).binds fun _ _ _ _ _ _ us hl => match us, hl with | [_, _, _], _ => rfl⟩
  have D_Disk_check_file : Dm K e_Disk "check_file" "Disk.check_file" s_Disk_check_file ["self", "name"] := ⟨f_Disk_check_file, _, fun_mk ml_Disk_check_file mc_Disk_check_file mk_Disk_check_file, ⟨kg_Disk, kd_Disk, kp_Disk, ks_Disk⟩, ⟨ma_Disk_check_file, mf_Disk_check_file, mk_Disk_check_file⟩, (fun_mk ml_Disk_check_file mc_Disk_check_file mk_Disk_check_file).binds fun _ _ _ _ _ _ us hl => match us, hl with | [_, _], _ => rfl⟩
  have D_Disk_sync : Dm K e_Disk "sync" "Disk.sync" s_Disk_sync ["self", "name"] := ⟨f_Disk_sync, _, fun_mk ml_Disk_sync mc_Disk_sync mk_Disk_sync, ⟨kg_Disk, kd_Disk, kp_Disk, ks_Disk⟩, ⟨ma_Disk_sync, mf_Disk_sync, mk_Disk_sync⟩, (fun_mk ml_Disk_sync mc_Disk_sync mk_Disk_sync).binds fun _ _ _ _ _ _ us hl => match us, hl with | [_, _], _ => rfl⟩
  have D_Disk_drop : Dm K e_Disk "drop" "Disk.drop" s_Disk_drop ["self", "name"] := ⟨f_Disk_drop, _, fun_mk ml_Disk_drop mc_Disk_drop mk_Disk_drop, ⟨kg_Disk, kd_Disk, kp_Disk, ks_Disk⟩, ⟨ma_Disk_drop, mf_Disk_drop, mk_Disk_drop⟩, (fun_mk ml_Disk_drop mc_Disk_drop mk_Disk_drop).binds fun _ _ _ _ _ _ us hl => match us, hl with | [_, _], _ => rfl⟩
  have D_Disk_read : Dm K e_Disk "read" "Disk.read" s_Disk_read ["self", "name"] := ⟨f_Disk_read, _, fun_mk ml_Disk_read mc_Disk_read mk_Disk_read, ⟨kg_Disk, kd_Disk, kp_Disk, ks_Disk⟩, ⟨ma_Disk_read, mf_Disk_read, mk_Disk_read⟩, (fun_mk ml_Disk_read mc_Disk_read mk_Disk_read).binds fun _ _ _ _ _ _ us hl => match us, hl with | [_, _], _ => rfl⟩
  have D_Disk_synced : Dm K e_Disk "synced" "Disk.synced" s_Disk_synced ["self", "name"] := ⟨f_Disk_synced, _, fun_mk ml_Disk_synced mc_Disk_synced mk_Disk_synced, ⟨kg_Disk, kd_Disk, kp_Disk, ks_Disk⟩, ⟨ma_Disk_synced, mf_Disk_synced, mk_Disk_synced⟩, (fun_mk ml_Disk_synced mc_Disk_synced mk_Disk_synced).binds fun _ _ _ _ _ _ us hl => match us, hl with | [_, _], _ => rfl⟩
  have D__law_told : Df K mg "_law_told" s__law_told ["_law_disk", "_law_way", "_law_name", "_law_text"] := df_mk X G a33 l33 c33 k33 fun _ _ _ _ _ _ us hl => match us, hl with | [_, _, _, _], _ => rfl
  have D_Disk_names : Dm K e_Disk "names" "Disk.names" s_Disk_names ["self"] := ⟨f_Disk_names, _, fun_mk ml_Disk_names mc_Disk_names mk_Disk_names, ⟨kg_Disk, kd_Disk, kp_Disk, ks_Disk⟩, ⟨ma_Disk_names, mf_Disk_names, mk_Disk_names⟩, (fun_mk ml_Disk_names mc_Disk_names mk_Disk_names).binds fun _ _ _ _ _ _ us hl => match us, hl with | [_], _ => rfl⟩
  have D_Disk_ops : Dm K e_Disk "ops" "Disk.ops" s_Disk_ops ["self"] := ⟨f_Disk_ops, _, fun_mk ml_Disk_ops mc_Disk_ops mk_Disk_ops, ⟨kg_Disk, kd_Disk, kp_Disk, ks_Disk⟩, ⟨ma_Disk_ops, mf_Disk_ops, mk_Disk_ops⟩, (fun_mk ml_Disk_ops mc_Disk_ops mk_Disk_ops).binds fun _ _ _ _ _ _ us hl => match us, hl with | [_], _ => rfl⟩
  have D__law_alike : Df K mg "_law_alike" s__law_alike ["_law_disk", "_law_files", "_law_counts"] := df_mk X G a35 l35 c35 k35 fun _ _ _ _ _ _ us hl => match us, hl with | [_, _, _], _ => rfl
  have D_law : Df K mg "law" s_law ["_law_script"] := df_mk X G a36 l36 c36 k36 fun _ _ _ _ _ _ us hl => match us, hl with | [_], _ => rfl
  refine ⟨PySem.W.fnOf "law" "law" (defArgs s_law) (defBody s_law) (defScope s_law) .none kV36 dc36 pm36 an36 cd36 ct36, fun s v => .of_eq rfl, fun base _ _ => ?_⟩
  have EC_InvalidName : ErrC K e_InvalidName e_QueueError := ⟨⟨nm_InvalidName, q_InvalidName, N_InvalidName, bs_InvalidName, sn_InvalidName, sub_InvalidName, ab_InvalidName, col_InvalidName, dd_InvalidName, k0_InvalidName, k1_InvalidName, k2_InvalidName, k3_InvalidName, k5_InvalidName, cl_InvalidName⟩, sa_InvalidName, ex_InvalidName, ty_InvalidName, kc_InvalidName⟩
  have R_InvalidName : Er l.prog w K mg base 1 "InvalidName" "given" e_InvalidName := ⟨PySem.W.mg_of X G ga_InvalidName, e_QueueError, fI_InvalidName, _, ["self", "given"], EC_InvalidName, ia_InvalidName, it_InvalidName, oki_InvalidName T (fun_mk il_InvalidName ic_InvalidName ik_InvalidName) EC_InvalidName, (fun_mk il_InvalidName ic_InvalidName ik_InvalidName).binds fun _ _ _ _ _ _ us hl => match us, hl with | [_, _], _ => rfl⟩
  have EC_InvalidText : ErrC K e_InvalidText e_QueueError := ⟨⟨nm_InvalidText, q_InvalidText, N_InvalidText, bs_InvalidText, sn_InvalidText, sub_InvalidText, ab_InvalidText, col_InvalidText, dd_InvalidText, k0_InvalidText, k1_InvalidText, k2_InvalidText, k3_InvalidText, k5_InvalidText, cl_InvalidText⟩, sa_InvalidText, ex_InvalidText, ty_InvalidText, kc_InvalidText⟩
  have R_InvalidText : Er l.prog w K mg base 1 "InvalidText" "given" e_InvalidText := ⟨PySem.W.mg_of X G ga_InvalidText, e_QueueError, fI_InvalidText, _, ["self", "given"], EC_InvalidText, ia_InvalidText, it_InvalidText, oki_InvalidText T (fun_mk il_InvalidText ic_InvalidText ik_InvalidText) EC_InvalidText, (fun_mk il_InvalidText ic_InvalidText ik_InvalidText).binds fun _ _ _ _ _ _ us hl => match us, hl with | [_, _], _ => rfl⟩
  have EC_NoFile : ErrC K e_NoFile e_QueueError := ⟨⟨nm_NoFile, q_NoFile, N_NoFile, bs_NoFile, sn_NoFile, sub_NoFile, ab_NoFile, col_NoFile, dd_NoFile, k0_NoFile, k1_NoFile, k2_NoFile, k3_NoFile, k5_NoFile, cl_NoFile⟩, sa_NoFile, ex_NoFile, ty_NoFile, kc_NoFile⟩
  have R_NoFile : Er l.prog w K mg base 1 "NoFile" "name" e_NoFile := ⟨PySem.W.mg_of X G ga_NoFile, e_QueueError, fI_NoFile, _, ["self", "name"], EC_NoFile, ia_NoFile, it_NoFile, oki_NoFile T (fun_mk il_NoFile ic_NoFile ik_NoFile) EC_NoFile, (fun_mk il_NoFile ic_NoFile ik_NoFile).binds fun _ _ _ _ _ _ us hl => match us, hl with | [_, _], _ => rfl⟩
  have C__law_box : Ct l.prog w K mg base CX0 1 "_law_box" ["_law_great"] (sp__law_box K) := ok__law_box T D__law_box
  have C__law_cell : Ct l.prog w K mg base CX0 1 "_law_cell" ["_law_script", "_law_k"] (sp__law_cell K) := ok__law_cell T D__law_cell
  have C__law_take : Ct l.prog w K mg base CX0 1 "_law_take" ["_law_box_here", "_law_many"] (sp__law_take K) := ok__law_take T D__law_take
  have C__law_word : Ct l.prog w K mg base CX0 2 "_law_word" ["_law_box_here", "_law_signs_here", "_law_most"] (sp__law_word K) := ok__law_word T C__law_take D__law_word
  have C__law_signs : Ct l.prog w K mg base CX0 1 "_law_signs" [] (sp__law_signs K) := ok__law_signs D__law_signs
  have C__law_marks : Ct l.prog w K mg base CX0 2 "_law_marks" [] (sp__law_marks K) := ok__law_marks C__law_signs D__law_marks
  have C__law_any_text : Ct l.prog w K mg base CX0 3 "_law_any_text" ["_law_box_here"] (sp__law_any_text K) := ok__law_any_text T C__law_word C__law_marks C__law_take D__law_any_text
  have C__law_pool : Ct l.prog w K mg base CX0 1 "_law_pool" [] (sp__law_pool K) := ok__law_pool D__law_pool
  have C__law_any_name : Ct l.prog w K mg base CX0 3 "_law_any_name" ["_law_box_here", "_law_files"] (sp__law_any_name K) := ok__law_any_name T C__law_take C__law_pool C__law_word C__law_signs D__law_any_name
  have C__law_is_name : Ct l.prog w K mg base CX0 2 "_law_is_name" ["_law_thing"] (sp__law_is_name K) := ok__law_is_name T C__law_signs D__law_is_name
  have C__law_is_text : Ct l.prog w K mg base CX0 3 "_law_is_text" ["_law_thing"] (sp__law_is_text K) := ok__law_is_text T C__law_marks D__law_is_text
  have C__law_due : Ct l.prog w K mg base CX0 4 "_law_due" ["_law_files", "_law_counts", "_law_way", "_law_name", "_law_text"] (sp__law_due K) := ok__law_due T C__law_is_name C__law_is_text D__law_due
  have C__law_same : Cg l.prog w K mg base CX0 1 "_law_same" ["_law_told_here", "_law_due_here"] (sp__law_same K) := ok__law_same T D__law_same
  have C_is_file_name : Ct l.prog w K mg base CX0 1 "is_file_name" ["value"] (sp_is_file_name K) := ok_is_file_name T D_is_file_name
  have C_is_signs : Ct l.prog w K mg base CX0 1 "is_signs" ["value"] (sp_is_signs K) := ok_is_signs T D_is_signs
  have M_Disk_use_power : Mt l.prog w K mg base CX0 1 e_Disk "use_power" ["self"] (sp_Disk_use_power K) := ok_Disk_use_power T D_Disk_use_power
  have M_Disk_write : Mt l.prog w K mg base (L2.CX l.prog w) 3 e_Disk "write" ["self", "name", "text"] (sp_Disk_write K) := ok_Disk_write T R_InvalidName R_InvalidText C_is_file_name C_is_signs M_Disk_use_power D_Disk_write
  have M_Disk_check_file : Mt l.prog w K mg base (L2.CX l.prog w) 3 e_Disk "check_file" ["self", "name"] (sp_Disk_check_file K) := ok_Disk_check_file T R_InvalidName R_NoFile C_is_file_name D_Disk_check_file
  have M_Disk_sync : Mt l.prog w K mg base (L2.CX l.prog w) 4 e_Disk "sync" ["self", "name"] (sp_Disk_sync K) := ok_Disk_sync T M_Disk_check_file M_Disk_use_power D_Disk_sync
  have M_Disk_drop : Mt l.prog w K mg base (L2.CX l.prog w) 4 e_Disk "drop" ["self", "name"] (sp_Disk_drop K) := ok_Disk_drop T M_Disk_check_file M_Disk_use_power D_Disk_drop
  have M_Disk_read : Mt l.prog w K mg base (L2.CX l.prog w) 4 e_Disk "read" ["self", "name"] (sp_Disk_read K) := ok_Disk_read T M_Disk_check_file D_Disk_read
  have M_Disk_synced : Mt l.prog w K mg base (L2.CX l.prog w) 4 e_Disk "synced" ["self", "name"] (sp_Disk_synced K) := ok_Disk_synced T M_Disk_check_file D_Disk_synced
  have MK_Disk_write_text_name : MtK l.prog w K mg base (L2.CX l.prog w) 3 e_Disk "write" ["self", "name", "text"] ["text", "name"] perm_1_0 (sp_Disk_write K) := M_Disk_write.kw D_Disk_write (fun _ _ _ _ _ _ _ ws hl => match ws, hl with | [_, _], _ => rfl) perm_1_0_ok
  have MK_Disk_sync_name : MtK l.prog w K mg base (L2.CX l.prog w) 4 e_Disk "sync" ["self", "name"] ["name"] perm_0 (sp_Disk_sync K) := M_Disk_sync.kw D_Disk_sync (fun _ _ _ _ _ _ _ ws hl => match ws, hl with | [_], _ => rfl) perm_0_ok
  have MK_Disk_drop_name : MtK l.prog w K mg base (L2.CX l.prog w) 4 e_Disk "drop" ["self", "name"] ["name"] perm_0 (sp_Disk_drop K) := M_Disk_drop.kw D_Disk_drop (fun _ _ _ _ _ _ _ ws hl => match ws, hl with | [_], _ => rfl) perm_0_ok
  have MK_Disk_read_name : MtK l.prog w K mg base (L2.CX l.prog w) 4 e_Disk "read" ["self", "name"] ["name"] perm_0 (sp_Disk_read K) := M_Disk_read.kw D_Disk_read (fun _ _ _ _ _ _ _ ws hl => match ws, hl with | [_], _ => rfl) perm_0_ok
  have MK_Disk_synced_name : MtK l.prog w K mg base (L2.CX l.prog w) 4 e_Disk "synced" ["self", "name"] ["name"] perm_0 (sp_Disk_synced K) := M_Disk_synced.kw D_Disk_synced (fun _ _ _ _ _ _ _ ws hl => match ws, hl with | [_], _ => rfl) perm_0_ok
  have C__law_told : Ct l.prog w K mg base CX0 5 "_law_told" ["_law_disk", "_law_way", "_law_name", "_law_text"] (sp__law_told K) := ok__law_told T M_Disk_write M_Disk_sync M_Disk_drop M_Disk_read M_Disk_synced MK_Disk_write_text_name MK_Disk_sync_name MK_Disk_drop_name MK_Disk_read_name MK_Disk_synced_name D__law_told
  have M_Disk_names : Mt l.prog w K mg base CX0 1 e_Disk "names" ["self"] (sp_Disk_names K) := ok_Disk_names T D_Disk_names
  have M_Disk_ops : Mt l.prog w K mg base CX0 1 e_Disk "ops" ["self"] (sp_Disk_ops K) := ok_Disk_ops T D_Disk_ops
  have C__law_alike : Cg l.prog w K mg base CX0 5 "_law_alike" ["_law_disk", "_law_files", "_law_counts"] (sp__law_alike K) := ok__law_alike T M_Disk_read M_Disk_synced M_Disk_names M_Disk_ops D__law_alike
  have N_Disk : Kn l.prog w K mg base 1 "Disk" e_Disk (sp_Disk___init__ K) := ⟨f_Disk___init__, _, ["self"], ⟨km_Disk, ma_Disk___init__, mf_Disk___init__, kk_Disk⟩, ok_Disk___init__ T (fun_mk ml_Disk___init__ mc_Disk___init__ mk_Disk___init__), PySem.W.mg_of X G ga_Disk, (fun_mk ml_Disk___init__ mc_Disk___init__ mk_Disk___init__).binds fun _ _ _ _ _ _ us hl => match us, hl with | [_], _ => rfl⟩
  have C_law : Cg l.prog w K mg base CX0 6 "law" ["_law_script"] (sp_law K) := ok_law T C__law_box C__law_cell C__law_take C__law_any_text C__law_any_name C__law_pool C__law_due C__law_same C__law_told C__law_alike N_Disk D_law
  exact law_gn C_law hfa l36
theorem walk {l : PySem.W.OpenLaw} {q : Program} {loose : List Str} {XP : (Str → Option Value) → Heap → Prop} {YP : World → Heap → Prop} {d : DefRec} {K : Params → PySem.W.Frag} (hn : l.most = some 63) (hdf : d.params.defaults = [])
    (hY : ∀ (w : World) (h : Heap), YP w h → (K w.params).In h)
    (F : ∀ (w : World) (mg : Str → Option Value) (fa : Addr) (h : Heap), (K w.params).In h → h.Ns mainGlobals mg → mg d.name = some (.ref fa) →
      ∃ fd : FuncData, (∀ (s : Shared) (u : Value), BindsTo s fd ⟨[u], []⟩ [("_law_script", u)]) ∧ ∀ base : Heap, (K w.params).In base → base.Ns mainGlobals mg → FnG l.prog w (K w.params) mg base CX0 6 fa fd ["_law_script"] (sp_law (K w.params))) :
    PySem.W.WalkO q loose XP YP l.row.toRowW d [] (fun f vs => PySem.call f vs) :=
  walk_g (n := 63) (k := 6) (x := "_law_script") (CX := CX0) (sp := fun w => sp_law (K w.params)) hn (by decide) hdf ⟨⟨rfl, by decide, by decide⟩, rfl⟩ hY F (fun _ _ a ns hl hS => law_asks a ns hl hS) fun _ _ _ _ z => z
end L06_

open PySem PySem.W PyProof.Rows in
set_option maxRecDepth 100000 in
set_option maxHeartbeats 0 in
theorem PySem.Challenge.cw_inorderonce_k06_files_and_what_is_synced_holds : PySem.Challenge.rw_inorderonce_k06_files_and_what_is_synced.Holds := by
  w_on; o_law; k_head; (case hw => w_witness2)
  k_fill
  refine L06_.walk (l := PySem.Challenge.rw_inorderonce_k06_files_and_what_is_synced) rfl rfl (fun w h Y => PySem.W.kIn_of Y) ?F
  case F =>
    intro w mg fa h KX G hmg
    refine' L06_.all_mk KX G hmg ?a22 ?l22 ?c22 ?k22 ?a21 ?l21 ?c21 ?k21 ?a23 ?l23 ?c23 ?k23 ?a27 ?l27 ?c27 ?k27 ?a24 ?l24 ?c24 ?k24 ?a25 ?l25 ?c25 ?k25 ?a29 ?l29 ?c29 ?k29 ?a26 ?l26 ?c26 ?k26 ?a28 ?l28 ?c28 ?k28 ?a30 ?l30 ?c30 ?k30 ?a31 ?l31 ?c31 ?k31 ?a32 ?l32 ?c32 ?k32 ?a34 ?l34 ?c34 ?k34 ?a16 ?l16 ?c16 ?k16 ?a12 ?l12 ?c12 ?k12 ?a33 ?l33 ?c33 ?k33 ?a35 ?l35 ?c35 ?k35 ?a36 ?l36 ?c36 ?k36 ?zhn ?zht ?ga_InvalidName ?ga_InvalidText ?ga_NoFile ?ga_QueueError ?ga_Disk ?qa_QueueError ?qb_QueueError ?qc_QueueError ?cl_InvalidName ?sa_InvalidName ?ex_InvalidName ?ty_InvalidName ?kc_InvalidName ?xa_InvalidName ?xb_InvalidName ?xd_InvalidName ?xe_InvalidName ?xm_InvalidName ?no_InvalidName ?ia_InvalidName ?it_InvalidName ?il_InvalidName ?ic_InvalidName ?ik_InvalidName ?sx_InvalidName_InvalidName ?sx_InvalidName_InvalidText ?sx_InvalidName_NoFile ?cl_InvalidText ?sa_InvalidText ?ex_InvalidText ?ty_InvalidText ?kc_InvalidText ?xa_InvalidText ?xb_InvalidText ?xd_InvalidText ?xe_InvalidText ?xm_InvalidText ?no_InvalidText ?ia_InvalidText ?it_InvalidText ?il_InvalidText ?ic_InvalidText ?ik_InvalidText ?sx_InvalidText_InvalidName ?sx_InvalidText_InvalidText ?sx_InvalidText_NoFile ?cl_NoFile ?sa_NoFile ?ex_NoFile ?ty_NoFile ?kc_NoFile ?xa_NoFile ?xb_NoFile ?xd_NoFile ?xe_NoFile ?xm_NoFile ?no_NoFile ?ia_NoFile ?it_NoFile ?il_NoFile ?ic_NoFile ?ik_NoFile ?sx_NoFile_InvalidName ?sx_NoFile_InvalidText ?sx_NoFile_NoFile ?kg_Disk ?kd_Disk ?kp_Disk ?ks_Disk ?kf_Disk_files ?kf_Disk_marks ?kf_Disk_calls ?kf_Disk_left ?km_Disk ?kk_Disk ?ma_Disk_use_power ?mf_Disk_use_power ?ml_Disk_use_power ?mc_Disk_use_power ?mk_Disk_use_power ?ma_Disk_write ?mf_Disk_write ?ml_Disk_write ?mc_Disk_write ?mk_Disk_write ?ma_Disk_check_file ?mf_Disk_check_file ?ml_Disk_check_file ?mc_Disk_check_file ?mk_Disk_check_file ?ma_Disk_sync ?mf_Disk_sync ?ml_Disk_sync ?mc_Disk_sync ?mk_Disk_sync ?ma_Disk_drop ?mf_Disk_drop ?ml_Disk_drop ?mc_Disk_drop ?mk_Disk_drop ?ma_Disk_read ?mf_Disk_read ?ml_Disk_read ?mc_Disk_read ?mk_Disk_read ?ma_Disk_synced ?mf_Disk_synced ?ml_Disk_synced ?mc_Disk_synced ?mk_Disk_synced ?ma_Disk_names ?mf_Disk_names ?ml_Disk_names ?mc_Disk_names ?mk_Disk_names ?ma_Disk_ops ?mf_Disk_ops ?ml_Disk_ops ?mc_Disk_ops ?mk_Disk_ops ?ma_Disk___init__ ?mf_Disk___init__ ?ml_Disk___init__ ?mc_Disk___init__ ?mk_Disk___init__ ?z_int ?z_abs ?z_len ?z_sum ?z_range ?z_dict ?z_sorted ?z_list ?z_isinstance ?z_str ?z_repr ?z_all ?z_max ?z_min ?v_MOST_NAME ?v_NAME_SIGNS
    (case a22 => k_is)
    (case l22 => k_is)
    (case c22 => k_is)
    (case k22 => k_is)
    (case a21 => k_is)
    (case l21 => k_is)
    (case c21 => k_is)
    (case k21 => k_is)
    (case a23 => k_is)
    (case l23 => k_is)
    (case c23 => k_is)
    (case k23 => k_is)
    (case a27 => k_is)
    (case l27 => k_is)
    (case c27 => k_is)
    (case k27 => k_is)
    (case a24 => k_is)
    (case l24 => k_is)
    (case c24 => k_is)
    (case k24 => k_is)
    (case a25 => k_is)
    (case l25 => k_is)
    (case c25 => k_is)
    (case k25 => k_is)
    (case a29 => k_is)
    (case l29 => k_is)
    (case c29 => k_is)
    (case k29 => k_is)
    (case a26 => k_is)
    (case l26 => k_is)
    (case c26 => k_is)
    (case k26 => k_is)
    (case a28 => k_is)
    (case l28 => k_is)
    (case c28 => k_is)
    (case k28 => k_is)
    (case a30 => k_is)
    (case l30 => k_is)
    (case c30 => k_is)
    (case k30 => k_is)
    (case a31 => k_is)
    (case l31 => k_is)
    (case c31 => k_is)
    (case k31 => k_is)
    (case a32 => k_is)
    (case l32 => k_is)
    (case c32 => k_is)
    (case k32 => k_is)
    (case a34 => k_is)
    (case l34 => k_is)
    (case c34 => k_is)
    (case k34 => k_is)
    (case a16 => k_is)
    (case l16 => k_is)
    (case c16 => k_is)
    (case k16 => k_is)
    (case a12 => k_is)
    (case l12 => k_is)
    (case c12 => k_is)
    (case k12 => k_is)
    (case a33 => k_is)
    (case l33 => k_is)
    (case c33 => k_is)
    (case k33 => k_is)
    (case a35 => k_is)
    (case l35 => k_is)
    (case c35 => k_is)
    (case k35 => k_is)
    (case a36 => k_is)
    (case l36 => k_is)
    (case c36 => k_is)
    (case k36 => k_is)
    (case zhn => k_is)
    (case zht => k_is)
    (case ga_InvalidName => k_is)
    (case ga_InvalidText => k_is)
    (case ga_NoFile => k_is)
    (case ga_QueueError => k_is)
    (case ga_Disk => k_is)
    (case qa_QueueError => k_is)
    (case qb_QueueError => k_is)
    (case qc_QueueError => k_is)
    (case cl_InvalidName => k_is)
    (case sa_InvalidName => k_is)
    (case ex_InvalidName => k_is)
    (case ty_InvalidName => k_is)
    (case kc_InvalidName => k_is)
    (case xa_InvalidName => k_is)
    (case xb_InvalidName => k_is)
    (case xd_InvalidName => k_is)
    (case xe_InvalidName => k_is)
    (case xm_InvalidName => k_is)
    (case no_InvalidName => k_is)
    (case ia_InvalidName => k_is)
    (case it_InvalidName => k_is)
    (case il_InvalidName => k_is)
    (case ic_InvalidName => k_is)
    (case ik_InvalidName => k_is)
    (case sx_InvalidName_InvalidName => k_is)
    (case sx_InvalidName_InvalidText => k_is)
    (case sx_InvalidName_NoFile => k_is)
    (case cl_InvalidText => k_is)
    (case sa_InvalidText => k_is)
    (case ex_InvalidText => k_is)
    (case ty_InvalidText => k_is)
    (case kc_InvalidText => k_is)
    (case xa_InvalidText => k_is)
    (case xb_InvalidText => k_is)
    (case xd_InvalidText => k_is)
    (case xe_InvalidText => k_is)
    (case xm_InvalidText => k_is)
    (case no_InvalidText => k_is)
    (case ia_InvalidText => k_is)
    (case it_InvalidText => k_is)
    (case il_InvalidText => k_is)
    (case ic_InvalidText => k_is)
    (case ik_InvalidText => k_is)
    (case sx_InvalidText_InvalidName => k_is)
    (case sx_InvalidText_InvalidText => k_is)
    (case sx_InvalidText_NoFile => k_is)
    (case cl_NoFile => k_is)
    (case sa_NoFile => k_is)
    (case ex_NoFile => k_is)
    (case ty_NoFile => k_is)
    (case kc_NoFile => k_is)
    (case xa_NoFile => k_is)
    (case xb_NoFile => k_is)
    (case xd_NoFile => k_is)
    (case xe_NoFile => k_is)
    (case xm_NoFile => k_is)
    (case no_NoFile => k_is)
    (case ia_NoFile => k_is)
    (case it_NoFile => k_is)
    (case il_NoFile => k_is)
    (case ic_NoFile => k_is)
    (case ik_NoFile => k_is)
    (case sx_NoFile_InvalidName => k_is)
    (case sx_NoFile_InvalidText => k_is)
    (case sx_NoFile_NoFile => k_is)
    (case kg_Disk => k_is)
    (case kd_Disk => k_is)
    (case kp_Disk => k_is)
    (case ks_Disk => k_is)
    (case kf_Disk_files => k_is)
    (case kf_Disk_marks => k_is)
    (case kf_Disk_calls => k_is)
    (case kf_Disk_left => k_is)
    (case km_Disk => k_is)
    (case kk_Disk => k_is)
    (case ma_Disk_use_power => k_is)
    (case mf_Disk_use_power => k_is)
    (case ml_Disk_use_power => k_is)
    (case mc_Disk_use_power => k_is)
    (case mk_Disk_use_power => k_is)
    (case ma_Disk_write => k_is)
    (case mf_Disk_write => k_is)
    (case ml_Disk_write => k_is)
    (case mc_Disk_write => k_is)
    (case mk_Disk_write => k_is)
    (case ma_Disk_check_file => k_is)
    (case mf_Disk_check_file => k_is)
    (case ml_Disk_check_file => k_is)
    (case mc_Disk_check_file => k_is)
    (case mk_Disk_check_file => k_is)
    (case ma_Disk_sync => k_is)
    (case mf_Disk_sync => k_is)
    (case ml_Disk_sync => k_is)
    (case mc_Disk_sync => k_is)
    (case mk_Disk_sync => k_is)
    (case ma_Disk_drop => k_is)
    (case mf_Disk_drop => k_is)
    (case ml_Disk_drop => k_is)
    (case mc_Disk_drop => k_is)
    (case mk_Disk_drop => k_is)
    (case ma_Disk_read => k_is)
    (case mf_Disk_read => k_is)
    (case ml_Disk_read => k_is)
    (case mc_Disk_read => k_is)
    (case mk_Disk_read => k_is)
    (case ma_Disk_synced => k_is)
    (case mf_Disk_synced => k_is)
    (case ml_Disk_synced => k_is)
    (case mc_Disk_synced => k_is)
    (case mk_Disk_synced => k_is)
    (case ma_Disk_names => k_is)
    (case mf_Disk_names => k_is)
    (case ml_Disk_names => k_is)
    (case mc_Disk_names => k_is)
    (case mk_Disk_names => k_is)
    (case ma_Disk_ops => k_is)
    (case mf_Disk_ops => k_is)
    (case ml_Disk_ops => k_is)
    (case mc_Disk_ops => k_is)
    (case mk_Disk_ops => k_is)
    (case ma_Disk___init__ => k_is)
    (case mf_Disk___init__ => k_is)
    (case ml_Disk___init__ => k_is)
    (case mc_Disk___init__ => k_is)
    (case mk_Disk___init__ => k_is)
    (case z_int => k_is)
    (case z_abs => k_is)
    (case z_len => k_is)
    (case z_sum => k_is)
    (case z_range => k_is)
    (case z_dict => k_is)
    (case z_sorted => k_is)
    (case z_list => k_is)
    (case z_isinstance => k_is)
    (case z_str => k_is)
    (case z_repr => k_is)
    (case z_all => k_is)
    (case z_max => k_is)
    (case z_min => k_is)
    (case v_MOST_NAME => k_is)
    (case v_NAME_SIGNS => k_is)

