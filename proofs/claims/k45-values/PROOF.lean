import PyProof.Rows.All
import Wide.All
import OpenK.AllK
import Wide.FinOn
import KE.KStateDown
import Lean
import HandS.ForMost
import HandS.ForExc
import HandS.More
import HandS.Defaults
import HandS.IsInst
import HandS.Deep
import HandS.SortInts
import HandS.Zip
import HandS.Wide
import HandS.TryMany
import HandS.SuiteRaise
import HandS.ExcInit
import HandS.ExcField
import HandS.ClsMeth
import HandS.Style
import HandS.HeadHook1
import HandS.HeadHook2
import PySem.Challenge.RW_padwright_k45_values_for_a_text
import PyProof.Rows.StrStep
import HandS.WordsExc
import HandS.Head0
import HandS.Head1
import HandS.Head2
import HandS.HeadEnd
import HandS.HeadHook3
set_option Elab.async false
set_option linter.all false
set_option maxRecDepth 100000
set_option maxHeartbeats 4000000
/-! F: a layer of readings that compute (over the hand layer's rules), texts as lists of codes, heaps that only grow. -/
namespace F
open PySem PySem.Spec PyProof.Rows L2

/-! ### texts as lists of codes -/
def S (l : List Nat) : Str := ⟨l.toArray⟩
theorem S_tl (l : List Nat) : (S l).cps.toList = l := rfl
theorem S_len (l : List Nat) : (S l).length = l.length := by
  show (S l).cps.size = l.length
  rw [← Array.length_toList]
  rfl
theorem S_of (z : Str) : S z.cps.toList = z := by
  cases z
  rfl
theorem S_app (a b : List Nat) : S a ++ S b = S (a ++ b) := by
  apply TL.ext_tl
  rw [TL.tl_append]
  rfl
theorem S_inj {a b : List Nat} (h : S a = S b) : a = b := by
  have e := congrArg (fun z : Str => z.cps.toList) h
  exact e
theorem dec_S (a b : List Nat) : decide (V.str (S a) = V.str (S b)) = decide (a = b) := by
  by_cases h : a = b
  · subst h
    simp
  · rw [decide_eq_false h, decide_eq_false]
    intro e
    injection e with e
    exact h (S_inj e)
theorem szL {n : Nat} (h : n ≤ 100000) : n ≤ sizeLine := by
  rw [sizeLine_eq]
  omega
theorem szT {n : Nat} (h : n < 100000) : n < sizeLine := by
  rw [sizeLine_eq]
  omega

/-! ### heaps that grow -/
abbrev Ex (H H' : Hp) : Prop := ∀ a o, H a = some o → H' a = some o
theorem Ex.refl (H : Hp) : Ex H H := fun _ _ h => h
theorem Ex.trans {H H1 H2 : Hp} (a : Ex H H1) (b : Ex H1 H2) : Ex H H2 := fun x o h => b x o (a x o h)
theorem Ex.new {H : Hp} {p : Addr} {o : HO} (h : H p = none) : Ex H (upd H p o) := fun a u e => by
  rw [upd_ne (ne_of_none e h)]
  exact e
theorem Ex.mut {H H' : Hp} {p : Addr} {o : HO} (e : Ex H H') (h : H p = none) : Ex H (upd H' p o) := fun a u z => by
  rw [upd_ne (ne_of_none z h)]
  exact e a u z
theorem Ex.free {H H' : Hp} {p : Addr} (e : Ex H H') (h : H' p = none) : H p = none := by
  cases q : H p with
  | none => rfl
  | some o => rw [e p o q] at h; cases h
theorem Ex.sqL {K : PySem.W.Frag} {H H' : Hp} {a : Addr} {xs : List V} (e : Ex H H') (h : SqL K H a xs) : SqL K H' a xs := by
  rcases h with h | h
  · rcases h with h | ⟨o, h⟩
    · exact .inl (.inl (e _ _ h))
    · exact .inl (.inr ⟨o, e _ _ h⟩)
  · exact .inr h
theorem Ex.sqT {K : PySem.W.Frag} {H H' : Hp} {a : Addr} {xs : List V} (e : Ex H H') (h : SqT K H a xs) : SqT K H' a xs := by
  rcases h with h | h
  · rcases h with h | ⟨o, h⟩
    · exact .inl (.inl (e _ _ h))
    · exact .inl (.inr ⟨o, e _ _ h⟩)
  · exact .inr h

/-! ### tests that are open -/
theorem iteD {c : Prop} [Decidable c] {A B : Prop} (h1 : c → A) (h2 : ¬ c → B) : if decide c = true then A else B := by
  by_cases h : c
  · rw [decide_eq_true h, if_pos rfl]
    exact h1 h
  · rw [decide_eq_false h, if_neg (by decide)]
    exact h2 h
theorem iteB {b : Bool} {A B : Prop} (h1 : b = true → A) (h2 : b = false → B) : if b = true then A else B := by
  cases b
  · exact h2 rfl
  · exact h1 rfl
theorem iteP {c : Prop} [Decidable c] {A B : Prop} (hc : c) (h : A) : if decide c = true then A else B := by
  rw [decide_eq_true hc, if_pos rfl]
  exact h
theorem iteN {c : Prop} [Decidable c] {A B : Prop} (hc : ¬ c) (h : B) : if decide c = true then A else B := by
  rw [decide_eq_false hc, if_neg (by decide)]
  exact h
/-! ### weaker readings -/
section
variable {X : Cx}
theorem peI {e : Expr} {t u : TE} (h : PE X e t) (w : ∀ σ H Q, u σ H Q → t σ H Q) : PE X e u := ⟨fun pins s σ H Q I q => h.run pins s σ H Q I (w σ H Q q)⟩
theorem ptI {e : Expr} {t u : TT} (h : PT X e t) (w : ∀ σ H Q, u σ H Q → t σ H Q) : PT X e u := ⟨fun pins s σ H Q I q => h.run pins s σ H Q I (w σ H Q q)⟩
theorem opI' {f : Value → Value → Sem Value} {r r' : R2} (h : OpR X f r) (w : ∀ x y H Q, r' x y H Q → r x y H Q) : OpR X f r' := fun pins s σ H x y v u Q I rx ry q => h pins s σ H x y v u Q I rx ry (w x y H Q q)
theorem caI {f : Value} {r r' : List V → Hp → VK → Prop} (h : CallR X f r) (w : ∀ xs H Q, r' xs H Q → r xs H Q) : CallR X f r' := fun pins s σ H xs us Q I rx q => h pins s σ H xs us Q I rx (w xs H Q q)
theorem mtI {id : String} {r r' : V → List V → Hp → VK → Prop} (h : MtR X id r) (w : ∀ x xs H Q, r' x xs H Q → r x xs H Q) : MtR X id r' := fun pins s σ H x xs v us Q I rx rs q => h pins s σ H x xs v us Q I rx rs (w x xs H Q q)
theorem ixI {r r' : R2} (h : IxR X r) (w : ∀ x y H Q, r' x y H Q → r x y H Q) : IxR X r' := fun value slice pins s σ H x y v u Q I rx ry q hs => h value slice pins s σ H x y v u Q I rx ry (w x y H Q q) hs
theorem slI {r r' : V → Option Int → Option Int → Hp → VK → Prop} (h : SlR X r) (w : ∀ x l u H Q, r' x l u H Q → r x l u H Q) : SlR X r' := fun pins s σ H x v vl vu lo hi sl Q I rx hs pl pu q => h pins s σ H x v vl vu lo hi sl Q I rx hs pl pu (w x lo hi H Q q)
end

/-! ### names -/
/-- what the layer asks of a name of the scope -/
structure Nm (sc : Scope) (x : Str) : Prop where
  vis : Vis sc x
  db : (x == ("__debug__" : Str)) = false
  cd : (x == ("__classdict__" : Str)) = false
structure Nl (sc : Scope) (x : Str) : Prop where
  loc : Loc sc x
structure Ng (sc : Scope) (x : Str) : Prop where
  gl : sc.names.lookup x = some .globalImplicit
  db : (x == ("__debug__" : Str)) = false
  nn : x ≠ "__name__"
def nmB (sc : Scope) (x : Str) : Bool := (decide (sc.names.lookup x = some .local) || (decide (sc.names.lookup x = some .cell) || decide (sc.names.lookup x = some .free))) && (!(x == ("__debug__" : Str)) && !(x == ("__classdict__" : Str)))
theorem nm_of {sc : Scope} {x : Str} (h : nmB sc x = true) : Nm sc x := by
  unfold nmB at h
  simp only [Bool.and_eq_true, Bool.or_eq_true, decide_eq_true_eq, Bool.not_eq_true'] at h
  exact ⟨h.1, h.2.1, h.2.2⟩
def nlB (sc : Scope) (x : Str) : Bool := decide (sc.names.lookup x = some .local) || decide (sc.names.lookup x = some .cell)
theorem nl_of {sc : Scope} {x : Str} (h : nlB sc x = true) : Nl sc x := by
  unfold nlB at h
  simp only [Bool.or_eq_true, decide_eq_true_eq] at h
  exact ⟨h⟩
def ngB (sc : Scope) (x : Str) : Bool := decide (sc.names.lookup x = some .globalImplicit) && (!(x == ("__debug__" : Str)) && !decide (x = "__name__"))
theorem ng_of {sc : Scope} {x : Str} (h : ngB sc x = true) : Ng sc x := by
  unfold ngB at h
  simp only [Bool.and_eq_true, decide_eq_true_eq, Bool.not_eq_true', decide_eq_false_iff_not] at h
  exact ⟨h.1, h.2.1, h.2.2⟩

section
variable {X : Cx} {a b e : Expr} {es : List Expr} {ta tb te : TE} {pos : Pos}
/-- a slot -/
def tV (i : Nat) : TE := fun σ H Q => match σ[i]? with
  | some (some v) => Q v H
  | _ => False
theorem fV (i : Nat) {x : Str} (n : Nm X.env.scope x) (hN : X.N[i]? = some x) : PE X (.Name x pos) (tV i) := peI (pe_var (i := i) hN n.vis n.db n.cd) fun σ H Q q => by
  unfold tV at q
  split at q
  · rename_i v h
    exact ⟨v, h, q⟩
  · exact q.elim
theorem fS {x : Str} {l : List Nat} {j : Nat} (h : x = S l) : PE X (.Constant (.str x) j pos) (tC (.str (S l))) := by
  rw [← h]
  exact pe_str
theorem fGlobI {x : Str} {i : Int} (n : Ng X.env.scope x) (hm : ∃ t, X.mg x = some (.int i t)) : PE X (.Name x pos) (tC (.int i)) := by
  obtain ⟨t, hm⟩ := hm
  exact pe_glob n.gl hm ⟨t, rfl⟩ n.db
theorem fGlobS {x : Str} {l : List Nat} (n : Ng X.env.scope x) (hm : ∃ t, X.mg x = some (.str (S l) t)) : PE X (.Name x pos) (tC (.str (S l))) := by
  obtain ⟨t, hm⟩ := hm
  exact pe_glob n.gl hm ⟨t, rfl⟩ n.db
theorem fGlobR {x : Str} {p : Addr} (n : Ng X.env.scope x) (hm : X.mg x = some (.ref p)) : PE X (.Name x pos) (tC (.ref p)) := pe_glob n.gl hm rfl n.db
theorem fTy {x : Str} {T : String} (n : Ng X.env.scope x) (hm : X.mg x = none) (hv : bootBuiltins x = some (.type T)) : PE X (.Name x pos) (tC (.ty T)) := pe_bltn n.gl hm hv rfl n.nn n.db

/-! ### operators -/
def qAdd : R2 := fun x y H Q => match x, y with
  | .int i, .int j => Q (.int (i + j)) H
  | .str u, .str v => ∃ a b, u = S a ∧ v = S b ∧ a.length + b.length ≤ 100000 ∧ Q (.str (S (a ++ b))) H
  | .ref p, .ref q => ∃ xs ys, H p = some (.lst xs) ∧ H q = some (.lst ys) ∧ xs.length + ys.length ≤ 100000 ∧ ∀ r H', H r = none → Ex H H' → H' r = some (.lst (xs ++ ys)) → Q (.ref r) H'
  | _, _ => False
theorem oAdd : OpR X (binaryOp .Add) qAdd := by
  refine opI' (OpR.or (OpR.or op_add op_add_str) op_cat) fun x y H Q q => ?_
  unfold qAdd at q
  split at q
  · exact .inl (.inl ⟨_, _, rfl, rfl, q⟩)
  · obtain ⟨a, b, rfl, rfl, hl, q⟩ := q
    refine .inl (.inr ⟨_, _, rfl, rfl, ?_, ?_⟩)
    · rw [S_len, S_len]
      exact szL hl
    · rw [S_app]
      exact q
  · obtain ⟨xs, ys, h1, h2, hl, q⟩ := q
    exact .inr ⟨_, _, xs, ys, rfl, rfl, h1, h2, szL hl, fun p hp => q p _ hp (Ex.new hp) upd_same⟩
  · exact q.elim
def qSub : R2 := fun x y H Q => match x, y with
  | .int i, .int j => Q (.int (i - j)) H
  | _, _ => False
theorem oSub : OpR X (binaryOp .Sub) qSub := opI' op_sub fun x y H Q q => by
  unfold qSub at q
  split at q
  · exact ⟨_, _, rfl, rfl, q⟩
  · exact q.elim

theorem foldl_rep1 (c : Nat) : ∀ (n : Nat) (acc : List Nat), List.foldl (fun x1 x2 => x1 ++ x2) acc.toArray (List.replicate n (#[c] : Array Nat)) = (acc ++ List.replicate n c).toArray
  | 0, acc => by simp
  | n + 1, acc => by
    rw [List.replicate_succ, List.foldl_cons]
    have e : acc.toArray ++ (#[c] : Array Nat) = (acc ++ [c]).toArray := by simp
    rw [e, foldl_rep1 c n (acc ++ [c]), List.replicate_succ]
    simp
/-- a text of one sign, so many times -/
theorem op_mul_sign : OpR X (binaryOp .Mult) (fun x y H Q => ∃ (c : Nat) (n : Int), x = .str (S [c]) ∧ y = .int n ∧ 0 ≤ n ∧ n ≤ 1000 ∧ Q (.str (S (List.replicate n.toNat c))) H) := by
  intro pins s σ H x y v u Q I rx ry h
  obtain ⟨c, n, rfl, rfl, h0, hn, q⟩ := h
  obtain ⟨t, rfl⟩ := rx
  obtain ⟨k, rfl⟩ := ry
  have hl1 : (S [c]).length = 1 := S_len [c]
  refine PySem.SB.mul (x := S [c]) (n := n) ⟨?_, fun h1 _ => ?_, fun h1 _ => ?_⟩ fun t' k' => ?_
  · rw [decide_eq_false (by omega), decide_eq_false (by omega)]
    rfl
  · rw [hl1]
    have h3 : ((2 : Int) ^ 63 - 1) / n ≥ 1 := by
      have : n * 1 ≤ (2 : Int) ^ 63 - 1 := by omega
      exact (Int.le_ediv_iff_mul_le (by omega)).mpr (by omega)
    intro z
    have z' : ((1 : Nat) : Int) > (2 ^ 63 - 1) / n := z
    omega
  · rw [hl1]
    unfold PySem.Builtin.Str.tooLong
    rw [decide_eq_false]
    have := sizeLine_eq
    omega
  · refine ⟨.str (S (List.replicate n.toNat c)), H, I.tok _, ⟨t', ?_⟩, q⟩
    unfold PySem.Txt.mul
    by_cases h1 : n < 1
    · have e : n = 0 := by omega
      subst e
      rfl
    · rw [if_neg h1]
      by_cases h2 : n = 1
      · subst h2
        rw [if_pos (by simp)]
        rfl
      · rw [if_neg]
        · have e := foldl_rep1 c n.toNat []
          have e2 : (List.foldl (fun x1 x2 => x1 ++ x2) #[] (List.replicate n.toNat (S [c]).cps)) = (List.replicate n.toNat c).toArray := by
            rw [List.nil_append] at e
            exact e
          show Value.str ⟨List.foldl (fun x1 x2 => x1 ++ x2) #[] (List.replicate n.toNat (S [c]).cps)⟩ t' = Value.str (S (List.replicate n.toNat c)) t'
          rw [e2]
          rfl
        · rw [hl1]
          simp
          exact h2
def qMul : R2 := fun x y H Q => match x, y with
  | .int i, .int j => (CMul i j ∨ CMulW i j) ∧ Q (.int (i * j)) H
  | .str u, .int n => ∃ c, u = S [c] ∧ 0 ≤ n ∧ n ≤ 1000 ∧ Q (.str (S (List.replicate n.toNat c))) H
  | _, _ => False
theorem oMul : OpR X (binaryOp .Mult) qMul := by
  refine opI' (OpR.or (OpR.or op_mul op_mulW) op_mul_sign) fun x y H Q q => ?_
  unfold qMul at q
  split at q
  · obtain ⟨c | c, q⟩ := q
    · exact .inl (.inl ⟨_, _, rfl, rfl, c, q⟩)
    · exact .inl (.inr ⟨_, _, rfl, rfl, c, q⟩)
  · obtain ⟨c, rfl, h0, h1, q⟩ := q
    exact .inr ⟨c, _, rfl, rfl, h0, h1, q⟩
  · exact q.elim
def qDiv : R2 := fun x y H Q => match x, y with
  | .int i, .int j => CDivW i j ∧ Q (.int (i / j)) H
  | _, _ => False
theorem oDiv : OpR X (binaryOp .FloorDiv) qDiv := opI' op_fdivW fun x y H Q q => by
  unfold qDiv at q
  split at q
  · exact ⟨_, _, rfl, rfl, q.1, q.2⟩
  · exact q.elim
def qMod : R2 := fun x y H Q => match x, y with
  | .int i, .int j => 0 < j ∧ Q (.int (i % j)) H
  | _, _ => False
theorem oMod : OpR X (binaryOp .Mod) qMod := opI' op_mod fun x y H Q q => by
  unfold qMod at q
  split at q
  · exact ⟨_, _, rfl, rfl, q.1, q.2⟩
  · exact q.elim
def qShr : R2 := fun x y H Q => match x, y with
  | .int i, .int j => 0 ≤ j ∧ Q (.int (i / 2 ^ j.toNat)) H
  | _, _ => False
theorem oShr : OpR X (binaryOp .RShift) qShr := opI' op_shr fun x y H Q q => by
  unfold qShr at q
  split at q
  · exact ⟨_, _, rfl, rfl, q.1, q.2⟩
  · exact q.elim
def qPow : R2 := fun x y H Q => match x, y with
  | .int i, .int j => CPow i j ∧ Q (.int (i ^ j.toNat)) H
  | _, _ => False
theorem oPow : OpR X (binaryOp .Pow) qPow := opI' op_pow fun x y H Q q => by
  unfold qPow at q
  split at q
  · exact ⟨_, _, rfl, rfl, q.1, q.2⟩
  · exact q.elim
theorem unI' {f : Value → Sem Value} {r r' : V → Hp → VK → Prop} (h : UnR X f r) (w : ∀ x H Q, r' x H Q → r x H Q) : UnR X f r' := fun pins s σ H x v Q I rx q => h pins s σ H x v Q I rx (w x H Q q)
def qNeg : V → Hp → VK → Prop := fun x H Q => match x with
  | .int i => Q (.int (-i)) H
  | _ => False
theorem oNeg : UnR X (unaryOp .USub) qNeg := unI' un_neg fun x H Q q => by
  unfold qNeg at q
  split at q
  · exact ⟨_, rfl, q⟩
  · exact q.elim

/-! ### comparisons -/
def rEq1 : R2 := fun x y H Q => match x, y with
  | .int i, .int j => Q (.bl (decide (i = j))) H
  | .str a, .str b => Q (.bl (decide (a = b))) H
  | .bl a, .bl b => Q (.bl (decide (a = b))) H
  | _, _ => False
def rNe1 : R2 := fun x y H Q => match x, y with
  | .int i, .int j => Q (.bl (!decide (i = j))) H
  | .str a, .str b => Q (.bl (!decide (a = b))) H
  | .bl a, .bl b => Q (.bl (!decide (a = b))) H
  | _, _ => False
theorem decV_int (i j : Int) : decide (V.int i = V.int j) = decide (i = j) := by simp
theorem decV_str (i j : Str) : decide (V.str i = V.str j) = decide (i = j) := by simp
theorem decV_bl (i j : Bool) : decide (V.bl i = V.bl j) = decide (i = j) := by simp
theorem oEq : OpR X (compareOp .Eq) rEq1 := opI' op_eq fun x y H Q q => by
  unfold rEq1 at q
  split at q
  · exact ⟨rfl, by rw [decV_int]; exact q⟩
  · exact ⟨rfl, by rw [decV_str]; exact q⟩
  · exact ⟨rfl, by rw [decV_bl]; exact q⟩
  · exact q.elim
theorem oNe : OpR X (compareOp .NotEq) rNe1 := opI' op_ne fun x y H Q q => by
  unfold rNe1 at q
  split at q
  · exact ⟨rfl, by rw [decV_int]; exact q⟩
  · exact ⟨rfl, by rw [decV_str]; exact q⟩
  · exact ⟨rfl, by rw [decV_bl]; exact q⟩
  · exact q.elim
def rCmp (p : Int → Int → Bool) : R2 := fun x y H Q => match x, y with
  | .int i, .int j => Q (.bl (p i j)) H
  | _, _ => False
theorem oLt : OpR X (compareOp .Lt) (rCmp fun i j => decide (i < j)) := opI' op_lt fun x y H Q q => by
  unfold rCmp at q
  split at q
  · exact ⟨_, _, rfl, rfl, q⟩
  · exact q.elim
theorem oLe : OpR X (compareOp .LtE) (rCmp fun i j => decide (i ≤ j)) := opI' op_le fun x y H Q q => by
  unfold rCmp at q
  split at q
  · exact ⟨_, _, rfl, rfl, q⟩
  · exact q.elim
theorem oGt : OpR X (compareOp .Gt) (rCmp fun i j => decide (j < i)) := opI' op_gt fun x y H Q q => by
  unfold rCmp at q
  split at q
  · exact ⟨_, _, rfl, rfl, q⟩
  · exact q.elim
theorem oGe : OpR X (compareOp .GtE) (rCmp fun i j => decide (j ≤ i)) := opI' op_ge fun x y H Q q => by
  unfold rCmp at q
  split at q
  · exact ⟨_, _, rfl, rfl, q⟩
  · exact q.elim
/-- texts -/
def rLtS : R2 := fun x y H Q => ∃ a b, x = .str (S a) ∧ y = .str (S b) ∧ Q (.bl (decide (a < b))) H
theorem oLtS : OpR X (compareOp .Lt) rLtS := opI' op_lt_str fun x y H Q q => by
  obtain ⟨a, b, rfl, rfl, q⟩ := q
  exact ⟨_, _, rfl, rfl, q⟩
/-- one sign in a text -/
def rInC : R2 := fun x y H Q => ∃ c l, x = .str (S [c]) ∧ y = .str (S l) ∧ Q (.bl (decide (c ∈ l))) H
def rNiC : R2 := fun x y H Q => ∃ c l, x = .str (S [c]) ∧ y = .str (S l) ∧ Q (.bl (!decide (c ∈ l))) H
theorem oInC : OpR X (compareOp .In) rInC := opI' op_in_sign fun x y H Q q => by
  obtain ⟨a, b, rfl, rfl, q⟩ := q
  exact ⟨a, _, rfl, rfl, q⟩
theorem oNiC : OpR X (compareOp .NotIn) rNiC := opI' op_notIn_sign fun x y H Q q => by
  obtain ⟨a, b, rfl, rfl, q⟩ := q
  exact ⟨a, _, rfl, rfl, q⟩
/-- a text in a list of texts -/
theorem inV_S (a : List Nat) (ls : List (List Nat)) : inV (.str (S a)) (ls.map fun l => V.str (S l)) = decide (a ∈ ls) := by
  unfold inV
  rw [Bool.eq_iff_iff, List.any_eq_true, decide_eq_true_eq]
  constructor
  · rintro ⟨y, hy, e⟩
    obtain ⟨l, hl, rfl⟩ := List.mem_map.mp hy
    have e2 : (S l == S a) = true := e
    rw [← S_inj (beq_iff_eq.mp e2)]
    exact hl
  · intro h
    exact ⟨_, List.mem_map.mpr ⟨a, h, rfl⟩, by show (S a == S a) = true; simp⟩
theorem flat_S (ls : List (List Nat)) : (ls.map fun l => V.str (S l)).all flatV = true := by
  rw [List.all_eq_true]
  intro x hx
  obtain ⟨l, _, rfl⟩ := List.mem_map.mp hx
  rfl
def rInL (K : PySem.W.Frag) : R2 := fun x y H Q => ∃ (a : List Nat) (p : Addr) (ls : List (List Nat)), x = .str (S a) ∧ y = .ref p ∧ SqL K H p (ls.map fun l => V.str (S l)) ∧ Q (.bl (decide (a ∈ ls))) H
theorem oInL : OpR X (compareOp .In) (rInL X.K) := opI' op_in_seq fun x y H Q q => by
  obtain ⟨a, p, ls, rfl, rfl, h, q⟩ := q
  refine ⟨p, _, rfl, .inl h, rfl, flat_S ls, ?_⟩
  rw [inV_S]
  exact q
/-- is None, is not None -/
def rIsN1 : R2 := fun x y H Q => y = .non ∧ Q (.bl (match x with | .non => true | _ => false)) H
def rNotN1 : R2 := fun x y H Q => y = .non ∧ Q (.bl (match x with | .non => false | _ => true)) H
theorem oIsN : OpR X (compareOp .Is) rIsN1 := opI' op_isN fun x y H Q q => by
  obtain ⟨h, q⟩ := q
  refine ⟨h, ?_⟩
  cases x <;> exact q
theorem oNotN : OpR X (compareOp .IsNot) rNotN1 := opI' op_notN fun x y H Q q => by
  obtain ⟨h, q⟩ := q
  refine ⟨h, ?_⟩
  cases x <;> exact q

/-! ### tests -/
def tB1 (t : TE) : TT := fun σ H Q => t σ H fun x H' => match x with
  | .bl k => Q k H'
  | _ => False
theorem chB {k : Bool} {x : V} {H' : Hp} {Q : Bool → Hp → Prop} (q : match x with | .bl k => Q k H' | _ => False) : ∃ k, x = .bl k ∧ Q k H' := by
  split at q
  · exact ⟨_, rfl, q⟩
  · exact q.elim
/-- a comparison as a test -/
theorem tCmp1 {op : CmpOp} {r : R2} (ho : OpR X (compareOp op) r) (ha : PE X a ta) (hb : PE X b tb) (hm : behindInMarks op b = false) : PT X (.Compare a [op] [b] pos) (tB1 (tOp r ta tb)) := by
  refine ⟨fun pins s σ H Q I h => ?_⟩
  refine wpAny_isTrue_Compare1 (thn (ha.run pins s σ H _ I h) fun v s1 ⟨x, H1, I1, r1, q1⟩ => thn (hb.run pins s1 σ H1 _ I1 q1) fun u s2 ⟨y, H2, I2, r2, q2⟩ =>
    thn (ho pins s2 σ H2 x y v u _ I2 r1 r2 q2) fun c s3 ⟨z, H3, I3, r3, q3⟩ => ?_) hm
  obtain ⟨k, e, q3⟩ := chB (k := true) q3
  subst e
  cases r3
  exact wpAny_truthy_bool ⟨H3, I3, q3⟩
/-- an expression that gives a truth -/
theorem tVal1 {t : TE} (h : PE X e t) (he : ∀ whole, isTrue e X.env whole = (do let v ← whole; standAt e.pos; holding [v] (truthy v))) : PT X e (tB1 t) := by
  refine ⟨fun pins s σ H Q I hw => ?_⟩
  refine isTrue_plain (thn (h.run pins s σ H _ I hw) fun v s1 ⟨x, H1, I1, r1, q1⟩ => ?_) (he _)
  obtain ⟨k, e, q3⟩ := chB (k := true) q1
  subst e
  cases r1
  exact wpAny_truthy_bool ⟨H1, I1, q3⟩
end

/-! ### plain expressions, argument lists -/
def plain1 : Expr → Bool
  | .Starred _ _ => false
  | _ => true
def plainL : List Expr → Bool
  | [] => true
  | e :: r => plain1 e && plainL r
theorem star1 {e : Expr} {es : List Expr} {env : Env} (h : plain1 e = true) : starEach (e :: es) env = (false, eval e env) :: starEach es env := by
  cases e <;> first | rfl | cases h
theorem starL : ∀ {es : List Expr} {env : Env}, plainL es = true → starEach es env = es.map fun e => (false, eval e env)
  | [], _, _ => rfl
  | e :: r, env, h => by
    have h2 : plain1 e = true ∧ plainL r = true := Bool.and_eq_true_iff.mp h
    rw [star1 h2.1, starL h2.2]
    rfl
theorem backTo_any {pos : Pos} (l : List (Bool × Sem Value)) : (backTo pos l).any (·.1) = l.any (·.1) := by
  unfold backTo
  rw [List.any_map]
  rfl
theorem plain_any {pos : Pos} {es : List Expr} {env : Env} (h : plainL es = true) : (backTo pos (starEach es env)).any (·.1) = false := by
  rw [backTo_any, starL h, List.any_map]
  induction es with
  | nil => rfl
  | cons e r ih =>
    have h2 : plain1 e = true ∧ plainL r = true := Bool.and_eq_true_iff.mp h
    rw [List.any_cons, ih h2.2]
    rfl
/-- no super() call -/
def noSup : Expr → Bool
  | .Call _ _ _ _ => false
  | _ => true
theorem base_of {e : Expr} {f : Str} {env : Env} {w : Sem Value} (h : noSup e = true) : attributeBase e f env w = w := by
  cases e <;> first | rfl | cases h

section
variable {X : Cx} {a b e o : Expr} {es : List Expr} {ta tb te to : TE} {t : TA} {pos : Pos}
theorem aCons (ha : PE X e te) (hr : PA X es t) (h : plain1 e = true) : PA X (e :: es) (tCons te t) := pa_cons ha hr (star1 h)

/-! ### subscripts -/
def rIx1 (K : PySem.W.Frag) : R2 := fun x y H Q => match x, y with
  | .str u, .int i => ∃ l c, u = S l ∧ l.length ≤ 100000 ∧ atI l i = some c ∧ Q (.str (S [c])) H
  | .ref p, .int i => ∃ xs v, (SqL K H p xs ∨ SqT K H p xs) ∧ atI xs i = some v ∧ Q v H
  | _, _ => False
theorem ix1 : IxR X (rIx1 X.K) := ixI ix_seq fun x y H Q q => by
  unfold rIx1 at q
  split at q
  · obtain ⟨l, c, rfl, hl, h, q⟩ := q
    refine .inr (.inr ⟨_, _, c, rfl, rfl, ?_, h, q⟩)
    rw [S_len]
    exact szL hl
  · obtain ⟨xs, v, h | h, h2, q⟩ := q
    · exact .inl ⟨_, xs, _, v, rfl, rfl, h, h2, q⟩
    · exact .inr (.inl ⟨_, xs, _, v, rfl, rfl, h, h2, q⟩)
  · exact q.elim
theorem fIx (ha : PE X a ta) (hb : PE X b tb) (hs : PlainIx b) : PE X (.Subscript a b pos) (tOp (rIx1 X.K) ta tb) := pe_ix ix1 ha hb hs
/-- a written dict -/
theorem fIxD (ha : PE X a ta) (hb : PE X b tb) (hs : PlainIx b) : PE X (.Subscript a b pos) (tOp (rIxD X.K X.w) ta tb) := pe_ix ix_kdict ha hb hs

/-! ### slices -/
def cutN (l : List Nat) (lo hi : Option Int) : List Nat := (l.drop (HT.sIx l.length 0 lo)).take (HT.sIx l.length l.length hi - HT.sIx l.length 0 lo)
theorem cutS_S (l : List Nat) (lo hi : Option Int) : cutS (S l) lo hi = S (cutN l lo hi) := by
  unfold cutS cutN
  rw [S_len, S_tl]
  rfl
theorem cutN_to {l : List Nat} {i : Int} (h : 0 ≤ i) : cutN l none (some i) = l.take i.toNat := by
  unfold cutN HT.sIx
  simp only [List.drop_zero, Nat.sub_zero]
  rw [if_neg (by omega)]
  rw [List.take_eq_take_iff]
  omega
theorem cutN_from {l : List Nat} {i : Int} (h : 0 ≤ i) : cutN l (some i) none = l.drop i.toNat := by
  unfold cutN HT.sIx
  simp only
  rw [if_neg (by omega)]
  rw [List.take_of_length_le (by rw [List.length_drop]; omega)]
  by_cases h2 : i.toNat ≤ l.length
  · rw [Nat.min_eq_left h2]
  · rw [Nat.min_eq_right (by omega), List.drop_length, List.drop_eq_nil_of_le (by omega)]
theorem cutN_fromto {l : List Nat} {i j : Int} (h : 0 ≤ i) (h2 : i ≤ j) : cutN l (some i) (some j) = (l.drop i.toNat).take (j.toNat - i.toNat) := by
  unfold cutN HT.sIx
  simp only
  rw [if_neg (by omega), if_neg (by omega)]
  by_cases h3 : i.toNat ≤ l.length
  · rw [Nat.min_eq_left h3, List.take_eq_take_iff, List.length_drop]
    omega
  · rw [show min i.toNat l.length = l.length by omega, List.drop_length, List.drop_eq_nil_of_le (show l.length ≤ i.toNat by omega)]
    simp
theorem cutN_last {l : List Nat} : cutN l none (some (-1)) = l.dropLast := by
  unfold cutN HT.sIx
  simp only [List.drop_zero, Nat.sub_zero]
  rw [if_pos (by omega), List.dropLast_eq_take, List.take_eq_take_iff]
  omega
def rSlS1 : V → Option Int → Option Int → Hp → VK → Prop := fun x lo hi H Q => match x with
  | .str u => ∃ l, u = S l ∧ l.length ≤ 100000 ∧ Q (.str (S (cutN l lo hi))) H
  | _ => False
theorem slS1 : SlR X rSlS1 := slI sl_str fun x l u H Q q => by
  unfold rSlS1 at q
  split at q
  · obtain ⟨l, rfl, hl, q⟩ := q
    refine ⟨_, rfl, ?_, ?_⟩
    · rw [S_len]
      exact szL hl
    · rw [cutS_S]
      exact q
  · exact q.elim
def rSlL1 (K : PySem.W.Frag) : V → Option Int → Option Int → Hp → VK → Prop := fun x lo hi H Q => match x with
  | .ref p => ∃ xs, SqL K H p xs ∧ ∀ q H', H q = none → Ex H H' → H' q = some (.lst (cutV xs lo hi)) → Q (.ref q) H'
  | _ => False
theorem slL1 : SlR X (rSlL1 X.K) := slI sl_list fun x l u H Q q => by
  unfold rSlL1 at q
  split at q
  · obtain ⟨xs, h, q⟩ := q
    exact ⟨_, xs, rfl, h, fun p hp => q p _ hp (Ex.new hp) upd_same⟩
  · exact q.elim
def rSlT1 (K : PySem.W.Frag) : V → Option Int → Option Int → Hp → VK → Prop := fun x lo hi H Q => match x with
  | .ref p => ∃ xs, SqT K H p xs ∧ ¬ (HT.sIx xs.length 0 lo = 0 ∧ HT.sIx xs.length xs.length hi = xs.length) ∧ ∀ q H', H q = none → Ex H H' → H' q = some (.tup (cutV xs lo hi)) → Q (.ref q) H'
  | _ => False
theorem slT1 : SlR X (rSlT1 X.K) := slI sl_tup fun x l u H Q q => by
  unfold rSlT1 at q
  split at q
  · obtain ⟨xs, h, h2, q⟩ := q
    exact ⟨_, xs, rfl, h, h2, fun p hp => q p _ hp (Ex.new hp) upd_same⟩
  · exact q.elim
def tPart1 (t : TE) : TO := fun σ H Q => t σ H fun x H1 => match x with
  | .int i => Q (some i) H1
  | _ => False
theorem oSome (h : PE X e te) : PO X (some e) (tPart1 te) := by
  refine ⟨fun pins s σ H Q I hw => ?_⟩
  rw [evalPart_some]
  refine thn (h.run pins s σ H _ I hw) fun u s1 ⟨x, H1, I1, r1, q1⟩ => ?_
  cases x with
  | int i =>
    obtain ⟨t, rfl⟩ := r1
    exact ⟨some i, H1, I1, .int i t, q1⟩
  | _ => exact q1.elim

/-! ### displays -/
def tTup1 (t : TA) : TE := fun σ H Q => t σ H fun xs H1 => xs.length ≤ 100000 ∧ ∀ p H', H1 p = none → Ex H1 H' → H' p = some (.tup xs) → Q (.ref p) H'
def tLst1 (t : TA) : TE := fun σ H Q => t σ H fun xs H1 => xs.length ≤ 100000 ∧ ∀ p H', H1 p = none → Ex H1 H' → H' p = some (.lst xs) → Q (.ref p) H'
theorem fTup {x1} (h : PA X es t) : PE X (.Tuple es x1 pos) (tTup1 t) := by
  refine ⟨fun pins s σ H Q I hq => ?_⟩
  refine wpAny_Tuple_spliced (thn (h.run pos pins s σ H _ I hq) fun us s1 ⟨xs, H1, I1, r, z, q⟩ => ⟨by rw [← r.length]; exact szL z, ?_⟩)
  have hf : H1 s1.heap.objs.size = none := I1.hok.fresh (Nat.le_refl _)
  refine ⟨.ref s1.heap.objs.size, upd H1 s1.heap.objs.size (.tup xs), I1.laid (t' := s1.toks) (fun b u e => Heap.get?_push_of_some _ e) (Nat.le_refl _) ?_, rfl, q _ _ hf (Ex.new hf) upd_same⟩
  exact ⟨szL z, us, r, ⟨_, Heap.get?_push_size _ rfl, rfl, _, rfl⟩⟩
theorem fLst (h : PA X es t) : PE X (.List es pos) (tLst1 t) := by
  refine ⟨fun pins s σ H Q I hq => ?_⟩
  refine wpAny_List_spliced (thn (h.run pos pins s σ H _ I hq) fun us s1 ⟨xs, H1, I1, r, z, q⟩ => ⟨by rw [← r.length]; exact szL z, ?_⟩)
  have hf : H1 s1.heap.objs.size = none := I1.hok.fresh (Nat.le_refl _)
  refine ⟨.ref s1.heap.objs.size, upd H1 s1.heap.objs.size (.lst xs), I1.laid (t' := s1.toks) (fun b u e => Heap.get?_push_of_some _ e) (Nat.le_refl _) ?_, rfl, q _ _ hf (Ex.new hf) upd_same⟩
  exact ⟨szL z, us, 0, r, Heap.get?_push_size _ rfl⟩

/-! ### built-ins by name -/
def rLen1 (K : PySem.W.Frag) : List V → Hp → VK → Prop := fun xs H Q => match xs with
  | [.str u] => ∃ l, u = S l ∧ l.length ≤ 100000 ∧ Q (.int (l.length : Nat)) H
  | [.ref p] => ∃ ys : List V, (SqL K H p ys ∨ SqT K H p ys) ∧ Q (.int (ys.length : Nat)) H
  | _ => False
theorem cLen : CallR X (.builtin "len") (rLen1 X.K) := caI (CallR.or call_len_str call_len_seq) fun xs H Q q => by
  unfold rLen1 at q
  split at q
  · obtain ⟨l, rfl, hl, q⟩ := q
    refine .inl ⟨_, rfl, ?_, ?_⟩
    · rw [S_len]
      exact szL hl
    · rw [S_len]
      exact q
  · obtain ⟨ys, h, q⟩ := q
    exact .inr ⟨_, ys, rfl, h, q⟩
  · exact q.elim
def rAbs1 : List V → Hp → VK → Prop := fun xs H Q => match xs with
  | [.int i] => Q (.int (i.natAbs : Nat)) H
  | _ => False
theorem cAbs : CallR X (.builtin "abs") rAbs1 := caI call_abs fun xs H Q q => by
  unfold rAbs1 at q
  split at q
  · rename_i i
    refine ⟨_, rfl, ?_⟩
    have e : (if i < 0 then -i else i) = ((i.natAbs : Nat) : Int) := by
      split <;> omega
    rw [e]
    exact q
  · exact q.elim
def rMax1 : List V → Hp → VK → Prop := fun xs H Q => match xs with
  | [.int i, .int j] => Q (.int (max i j)) H
  | _ => False
theorem cMax (hc : X.calm = true) : CallR X (.builtin "max") rMax1 := caI (call_max2 hc) fun xs H Q q => by
  unfold rMax1 at q
  split at q
  · rename_i i j
    refine ⟨_, _, rfl, ?_⟩
    have e : (if j > i then j else i) = max i j := by
      split <;> omega
    rw [e]
    exact q
  · exact q.elim
def rMin1 : List V → Hp → VK → Prop := fun xs H Q => match xs with
  | [.int i, .int j] => Q (.int (min i j)) H
  | _ => False
theorem cMin (hc : X.calm = true) : CallR X (.builtin "min") rMin1 := caI (call_min2 hc) fun xs H Q q => by
  unfold rMin1 at q
  split at q
  · rename_i i j
    refine ⟨_, _, rfl, ?_⟩
    have e : (if j < i then j else i) = min i j := by
      split <;> omega
    rw [e]
    exact q
  · exact q.elim
/-- list(x) of a list or tuple -/
def rList1 (K : PySem.W.Frag) : List V → Hp → VK → Prop := fun xs H Q => match xs with
  | [.ref p] => ∃ ys : List V, (SqL K H p ys ∨ SqT K H p ys) ∧ ∀ l H', H l = none → Ex H H' → H' l = some (.lst ys) → Q (.ref l) H'
  | _ => False
theorem cList : CallR X (.type "list") (rList1 X.K) := caI call_list_of fun xs H Q q => by
  unfold rList1 at q
  split at q
  · obtain ⟨ys, h, q⟩ := q
    exact ⟨_, ys, rfl, h, fun l hl => q l _ hl (Ex.new hl) upd_same⟩
  · exact q.elim
/-- the built-in type of a value -/
inductive TyS (H : Hp) : V → String → Prop where
  | non : TyS H .non "NoneType"
  | bl (b : Bool) : TyS H (.bl b) "bool"
  | int (i : Int) : TyS H (.int i) "int"
  | str (x : Str) : TyS H (.str x) "str"
  | lst {a : Addr} {xs : List V} (e : H a = some (.lst xs)) : TyS H (.ref a) "list"
  | tup {a : Addr} {xs : List V} (e : H a = some (.tup xs)) : TyS H (.ref a) "tuple"
theorem TyS.tyOf {K : PySem.W.Frag} {H : Hp} {x : V} {T : String} (t : TyS H x T) : TyOf K H x (.type T) := by
  cases t with
  | non => exact .non
  | bl b => exact .bl b
  | int i => exact .int i
  | str x => exact .str x
  | lst e => exact .lst e
  | tup e => exact .tup e
def rIsi1 : List V → Hp → VK → Prop := fun xs H Q => match xs with
  | [x, .ty n] => ∃ T b, TyS H x T ∧ kitB T n = some b ∧ Q (.bl b) H
  | _ => False
theorem cIsi : CallR X (.builtin "isinstance") rIsi1 := caI call_isi fun xs H Q q => by
  unfold rIsi1 at q
  split at q
  · obtain ⟨T, b, h, k, q⟩ := q
    exact ⟨_, _, _, _, b, rfl, .ty _, .base h.tyOf, kit_ty k, q⟩
  · exact q.elim
def rSortI1 (K : PySem.W.Frag) : List V → Hp → VK → Prop := fun xs H Q => match xs with
  | [.ref p] => ∃ ns : List Int, SqL K H p (ns.map V.int) ∧ ∀ (ns' : List Int) q H', ns'.Perm ns → ns'.Pairwise (· ≤ ·) → H q = none → Ex H H' → H' q = some (.lst (ns'.map V.int)) → Q (.ref q) H'
  | _ => False
theorem cSortI : CallR X (.builtin "sorted") (rSortI1 X.K) := caI cr_sortedI fun xs H Q q => by
  unfold rSortI1 at q
  split at q
  · obtain ⟨ns, h, q⟩ := q
    exact ⟨_, ns, rfl, h, fun ns' p h1 h2 h3 => q ns' p _ h1 h2 h3 (Ex.new h3) upd_same⟩
  · exact q.elim
/-- the order of texts -/
theorem rising_pw : ∀ (p : Str) (l : List Str), risingS p l = true → (p :: l).Pairwise (fun a b => ¬ b.cps.toList < a.cps.toList)
  | p, [], _ => by simp
  | p, x :: r, h => by
    have h1 : (!ltCps x.cps.toList p.cps.toList && risingS x r) = true := h
    rw [Bool.and_eq_true, Bool.not_eq_true', ltCps_eq, decide_eq_false_iff_not] at h1
    have ih := rising_pw x r h1.2
    refine List.pairwise_cons.mpr ⟨fun z hz => ?_, ih⟩
    rcases List.mem_cons.mp hz with rfl | hz
    · exact h1.1
    · have h2 := (List.pairwise_cons.mp ih).1 z hz
      intro h3
      have a1 : p.cps.toList ≤ x.cps.toList := List.not_lt.mp h1.1
      have a2 : x.cps.toList ≤ z.cps.toList := List.not_lt.mp h2
      exact absurd h3 (List.not_lt.mpr (List.le_trans a1 a2))
theorem sortedS_pw : ∀ (l : List Str), sortedS l = true → l.Pairwise (fun a b => ¬ b.cps.toList < a.cps.toList)
  | [], _ => .nil
  | x :: r, h => rising_pw x r h
theorem map_S_of (ys : List Str) : (ys.map fun y => y.cps.toList).map (fun l => V.str (S l)) = ys.map V.str := by
  rw [List.map_map]
  refine List.map_congr_left fun y _ => ?_
  show V.str (S y.cps.toList) = V.str y
  rw [S_of]
def rSortS1 (K : PySem.W.Frag) : List V → Hp → VK → Prop := fun xs H Q => match xs with
  | [.ref p] => ∃ ls : List (List Nat), SqL K H p (ls.map fun l => V.str (S l)) ∧ ls.length < 64 ∧
      ∀ (ls' : List (List Nat)) q H', ls'.Perm ls → ls'.Pairwise (fun a b => ¬ b < a) → H q = none → Ex H H' → H' q = some (.lst (ls'.map fun l => V.str (S l))) → Q (.ref q) H'
  | _ => False
theorem cSortS : CallR X (.builtin "sorted") (rSortS1 X.K) := caI cr_sortedS fun xs H Q q => by
  unfold rSortS1 at q
  split at q
  · obtain ⟨ls, h, hl, q⟩ := q
    refine ⟨_, ls.map S, rfl, ?_, ?_, fun ys p h1 h2 h3 => ?_⟩
    · rw [List.map_map]
      exact h
    · rw [List.length_map]
      exact hl
    · refine q (ys.map fun y => y.cps.toList) p _ ?_ ?_ h3 (Ex.new h3) ?_
      · have z := h1.map (fun y : Str => y.cps.toList)
        rw [List.map_map] at z
        have e : (ls.map ((fun y : Str => y.cps.toList) ∘ S)) = ls := by
          rw [show ((fun y : Str => y.cps.toList) ∘ S) = id from rfl, List.map_id]
        rw [e] at z
        exact z
      · rw [List.pairwise_map]
        exact sortedS_pw ys h2
      · rw [map_S_of]
        exact upd_same
  · exact q.elim

/-! ### methods of texts -/
theorem idxOf_le {l : List α} [BEq α] [LawfulBEq α] {a : α} : ∀ {k : Nat}, l[k]? = some a → l.idxOf a ≤ k := by
  induction l with
  | nil => intro k h; simp at h
  | cons b r ih =>
    intro k h
    rw [List.idxOf_cons]
    by_cases hb : b = a
    · subst hb
      simp
    · have hb2 : (b == a) = false := by simpa using hb
      rw [hb2]
      cases k with
      | zero =>
        simp at h
        exact absurd h hb
      | succ k =>
        have h2 : r[k]? = some a := by simpa using h
        have := ih h2
        simp
        omega
/-- the first place of a sign, or -1 -/
def fnd (c : Nat) (l : List Nat) : Int := if c ∈ l then (l.idxOf c : Nat) else -1
theorem find_S (l : List Nat) (c : Nat) : PySem.Txt.find (S l) (S [c]) = fnd c l := by
  unfold PySem.Txt.find fnd
  rcases PySem.StrLaws.occ_head_from (S l) (S [c]) 0 1 (Nat.le_refl 1) with ⟨h0, hn⟩ | ⟨k, r, h0, _, hk, hn⟩
  · rw [h0, if_neg]
    intro h
    obtain ⟨i, hi⟩ := List.mem_iff_getElem?.mp h
    exact hn i (Nat.zero_le _) ((PySem.StrLaws.subAt_one (S l) c i).mpr hi)
  · rw [h0]
    have hm : l[k]? = some c := (PySem.StrLaws.subAt_one (S l) c k).mp hk
    have hmem : c ∈ l := List.mem_of_getElem? hm
    rw [if_pos hmem]
    have hlt : k < l.length := (List.getElem?_eq_some_iff.mp hm).1
    have e : l.idxOf c = k := by
      have h1 : l.idxOf c < l.length := List.idxOf_lt_length_of_mem hmem
      have h2 : l[l.idxOf c]? = some c := by
        rw [List.getElem?_eq_getElem h1, List.getElem_idxOf h1]
      have h3 : ¬ l.idxOf c < k := fun h => hn _ (Nat.zero_le _) h ((PySem.StrLaws.subAt_one (S l) c _).mpr h2)
      have h4 := idxOf_le hm
      omega
    rw [e]
theorem subAt_S (a b : List Nat) (i : Nat) : PySem.Builtin.Str.subAt (S a) (S b) i = ((a.drop i).take b.length == b) := by
  rw [PySem.StrLaws.subAt_eq, S_len]
  rfl
theorem starts_S (a b : List Nat) : PySem.Txt.startswith (S a) (S b) = decide (b <+: a) := by
  unfold PySem.Txt.startswith
  rw [subAt_S, S_len, S_len, Bool.eq_iff_iff, Bool.and_eq_true, decide_eq_true_eq, decide_eq_true_eq, List.drop_zero, beq_iff_eq]
  constructor
  · rintro ⟨_, h⟩
    rw [← h]
    exact List.take_prefix _ _
  · intro h
    have h2 := List.prefix_iff_eq_take.mp h
    exact ⟨by have := h.length_le; omega, h2.symm⟩
theorem ends_S (a b : List Nat) : PySem.Txt.endswith (S a) (S b) = decide (b <:+ a) := by
  unfold PySem.Txt.endswith
  rw [subAt_S, S_len, S_len, Bool.eq_iff_iff, Bool.and_eq_true, decide_eq_true_eq, decide_eq_true_eq, beq_iff_eq]
  constructor
  · rintro ⟨h0, h⟩
    rw [List.take_of_length_le (by rw [List.length_drop]; omega)] at h
    rw [← h]
    exact List.drop_suffix _ _
  · intro h
    have h2 := List.suffix_iff_eq_drop.mp h
    have h3 := h.length_le
    refine ⟨by omega, ?_⟩
    rw [← h2, List.take_of_length_le (Nat.le_refl _)]
def rFind1 : V → List V → Hp → VK → Prop := fun x xs H Q => ∃ l c, x = .str (S l) ∧ xs = [.str (S [c])] ∧ Q (.int (fnd c l)) H
theorem mFind : MtR X "str.find" rFind1 := mtI mt_find fun x xs H Q q => by
  obtain ⟨l, c, rfl, rfl, q⟩ := q
  exact ⟨_, _, rfl, rfl, by rw [find_S]; exact q⟩
def rStarts1 : V → List V → Hp → VK → Prop := fun x xs H Q => ∃ a b, x = .str (S a) ∧ xs = [.str (S b)] ∧ Q (.bl (decide (b <+: a))) H
theorem mStarts : MtR X "str.startswith" rStarts1 := mtI mt_startswith fun x xs H Q q => by
  obtain ⟨a, b, rfl, rfl, q⟩ := q
  exact ⟨_, _, rfl, rfl, by rw [starts_S]; exact q⟩
def rEnds1 : V → List V → Hp → VK → Prop := fun x xs H Q => ∃ a b, x = .str (S a) ∧ xs = [.str (S b)] ∧ Q (.bl (decide (b <:+ a))) H
theorem mEnds : MtR X "str.endswith" rEnds1 := mtI mt_endswith fun x xs H Q q => by
  obtain ⟨a, b, rfl, rfl, q⟩ := q
  exact ⟨_, _, rfl, rfl, by rw [ends_S]; exact q⟩
theorem join_S : ∀ ls : List (List Nat), PySem.Txt.join (S []) (ls.map S) = S ls.flatten := by
  intro ls
  rw [TL.join_eq]
  apply TL.ext_tl
  rw [TL.tl_join, List.map_map, show (TL.tl ∘ S) = id from rfl, List.map_id]
  show TL.joinL [] ls = ls.flatten
  induction ls with
  | nil => rfl
  | cons a r ih =>
    cases r with
    | nil =>
      show a = [a].flatten
      simp
    | cons b r =>
      show a ++ ([] ++ TL.joinL [] (b :: r)) = (a :: b :: r).flatten
      rw [ih, List.nil_append, List.flatten_cons, List.flatten_cons, List.flatten_cons]
def rJoin1 (K : PySem.W.Frag) : V → List V → Hp → VK → Prop := fun x xs H Q => ∃ (p : Addr) (ls : List (List Nat)), x = .str (S []) ∧ xs = [.ref p] ∧ SqL K H p (ls.map fun l => V.str (S l)) ∧ ls.flatten.length ≤ 100000 ∧ Q (.str (S ls.flatten)) H
theorem mJoin : MtR X "str.join" (rJoin1 X.K) := mtI mt_join fun x xs H Q q => by
  obtain ⟨p, ls, rfl, rfl, h, hl, q⟩ := q
  refine ⟨_, p, ls.map S, rfl, rfl, .inl ?_, ?_, ?_⟩
  · rw [List.map_map]
    exact h
  · rw [List.map_map, S_len]
    have e : (ls.map ((fun x : Str => x.length) ∘ S)).sum = ls.flatten.length := by
      rw [List.length_flatten]
      exact congrArg List.sum (List.map_congr_left fun l _ => S_len l)
    rw [e]
    simp only [List.length_nil, Nat.mul_zero, Nat.add_zero]
    omega
  · rw [join_S]
    exact q
/-- e.name(e1), e a text -/
theorem fM1 {id : String} {name : Str} {apos pos : Pos} {r : V → List V → Hp → VK → Prop} (slot : Slot "str" name id) (ty : typeOf (.builtin id) = pure (.type "method_descriptor")) (rule : MtR X id r) (ho : PE X o to) (he : PE X e te)
    (hp : plain1 e = true) (hb : noSup o = true) (hline : (apos.endLine == pos.line) = true) : PE X (.Call (.Attribute o name apos) [e] [] pos) (tM1 r to te) :=
  pe_m1 slot ty rule ho he (star1 hp) (base_of hb) hline

/-! ### methods of lists -/
def rApp1 : V → List V → Hp → VK → Prop := fun x vs H Q => match x, vs with
  | .ref l, [y] => ∃ xs, H l = some (.lst xs) ∧ xs.length < 100000 ∧ Q .non (upd H l (.lst (xs ++ [y])))
  | _, _ => False
theorem mApp : MtR X "list.append" rApp1 := fun pins s σ H x xs v us Q I rx rs q => mt_append pins s σ H x xs v us Q I rx rs (by
  unfold rApp1 at q
  split at q
  · obtain ⟨ys, h, hl, q⟩ := q
    exact ⟨_, ys, _, rfl, rfl, h, szT hl, q⟩
  · exact q.elim)
def rClear1 : V → List V → Hp → VK → Prop := fun x vs H Q => match x with
  | .ref l => vs = [] ∧ ∃ xs, H l = some (.lst xs) ∧ Q .non (upd H l (.lst []))
  | _ => False
theorem mClear : MtR X "list.clear" rClear1 := fun pins s σ H x xs v us Q I rx rs q => mt_clear pins s σ H x xs v us Q I rx rs (by
  unfold rClear1 at q
  split at q
  · obtain ⟨rfl, ys, h, q⟩ := q
    exact ⟨_, ys, rfl, rfl, h, q⟩
  · exact q.elim)
theorem eqV_S (a b : List Nat) : eqV (.str (S a)) (.str (S b)) = decide (a = b) := by
  show (S a == S b) = decide (a = b)
  rw [Bool.eq_iff_iff, beq_iff_eq, decide_eq_true_eq]
  exact ⟨S_inj, fun h => by rw [h]⟩
def rIndex1 (K : PySem.W.Frag) : V → List V → Hp → VK → Prop := fun x xs H Q => ∃ (p : Addr) (ls : List (List Nat)) (a : List Nat), x = .ref p ∧ xs = [.str (S a)] ∧ SqL K H p (ls.map fun l => V.str (S l)) ∧ a ∈ ls ∧ Q (.int (ls.idxOf a : Nat)) H
theorem mIndex : MtR X "list.index" (rIndex1 X.K) := mtI mt_index fun x xs H Q q => by
  obtain ⟨p, ls, a, rfl, rfl, h, hm, q⟩ := q
  have h1 : ls.idxOf a < ls.length := List.idxOf_lt_length_of_mem hm
  refine ⟨p, _, _, ls.idxOf a, .str (S a), rfl, rfl, h, rfl, flat_S ls, ?_, ?_, ?_, q⟩
  · rw [List.getElem?_map, List.getElem?_eq_getElem h1, List.getElem_idxOf h1]
    rfl
  · rw [eqV_S]
    simp
  · intro m z' hm' hz
    rw [List.getElem?_map] at hz
    have h2 : m < ls.length := Nat.lt_trans hm' h1
    rw [List.getElem?_eq_getElem h2] at hz
    cases hz
    rw [eqV_S, decide_eq_false]
    intro e
    have h5 : ls.idxOf a ≤ m := idxOf_le (by rw [List.getElem?_eq_getElem h2, e])
    omega
/-- e.name(e1), e a list -/
def tLm (r : V → List V → Hp → VK → Prop) (to : TE) (t : TA) : TE := fun σ H Q => to σ H fun x H1 => match x with
  | .ref p => (∃ ys, H1 p = some (.lst ys)) ∧ t σ H1 fun xs H2 => r x xs H2 Q
  | _ => False
theorem fLm {id : String} {name : Str} {apos cpos : Pos} {r : V → List V → Hp → VK → Prop} (slot : Slot "list" name id) (hty : typeOf (.builtin id) = pure (.type "method_descriptor")) (hm : MtR X id r) (ho : PE X o to) (ha : PA X (e :: es) t)
    (hp : plainL (e :: es) = true) (hb : noSup o = true) (hn : (e :: es).length < 25) (hline : (apos.endLine == cpos.line) = true) : PE X (.Call (.Attribute o name apos) (e :: es) [] cpos) (tLm r to t) := by
  have h2 : plain1 e = true ∧ plainL es = true := Bool.and_eq_true_iff.mp hp
  refine ⟨fun pins s σ H Q I h => ?_⟩
  refine wpAny_Call_method_late (base_of hb) ?_ hline rfl (thn (ho.run pins s σ H _ I h) fun v s1 ⟨x, H1, I1, r1, q1⟩ => ?_)
  · rw [starL hp]
    unfold backTo
    rw [List.map_map, List.all_map]
    have e1 : ((e :: es).all ((fun x => !x.fst) ∘ ((fun x => match x with | (star, t) => (star, if star = true then do let v ← t; standAt cpos; pure v else t)) ∘ fun e => (false, eval e X.env)))) = true := by
      rw [List.all_eq_true]
      intro z _
      rfl
    rw [e1]
    show (true && true && decide ((e :: es).length + 0 + 0 < 30)) = true
    rw [decide_eq_true (by omega)]
    rfl
  · cases x with
    | ref p =>
      obtain ⟨⟨ys, hy⟩, q1⟩ := q1
      obtain ⟨g1, g2⟩ := tyV_is (T := "list") I1 r1 (.inl ⟨rfl, ys, SqL.of hy⟩)
      refine ⟨"list", id, PySem.F.plainAttrs_list, slot, hty, g1, g2, ?_⟩
      have hA := ha.run cpos pins s1 σ H1 _ I1 q1
      rw [star1 h2.1] at hA ⊢
      refine Calls.callWith_builtin (by show (false || (backTo cpos (starEach es X.env)).any (·.1)) = false; rw [plain_any h2.2] <;> rfl) (Calls.evalArgs_plain ?_)
      exact thn hA fun us s2 ⟨vs, H2, I2, r2, q2⟩ => hm pins s2 σ H2 (.ref p) vs v us Q I2 r1 r2 q2
    | _ => exact q1.elim

/-! ### calls of built-ins -/
theorem fB {x : Str} {p : Pos} {id : String} {r : List V → Hp → VK → Prop} (hc : CallR X (.builtin id) r) (n : Ng X.env.scope x) (hm : X.mg x = none) (hv : bootBuiltins x = some (.builtin id)) (ha : PA X (e :: es) t) (hp : plainL (e :: es) = true) :
    PE X (.Call (.Name x p) (e :: es) [] pos) (tCB r t) := by
  have h2 : plain1 e = true ∧ plainL es = true := Bool.and_eq_true_iff.mp hp
  exact pe_callB hc n.gl hm hv ha n.nn n.db (star1 h2.1) (plain_any h2.2)
theorem fBT {x : Str} {p : Pos} {T : String} {r : List V → Hp → VK → Prop} (hc : CallR X (.type T) r) (n : Ng X.env.scope x) (hm : X.mg x = none) (hv : bootBuiltins x = some (.type T)) (ha : PA X (e :: es) t) (hp : plainL (e :: es) = true) :
    PE X (.Call (.Name x p) (e :: es) [] pos) (tCB r t) := by
  have h2 : plain1 e = true ∧ plainL es = true := Bool.and_eq_true_iff.mp hp
  exact pe_callTy hc n.gl hm hv ha n.nn n.db (star1 h2.1) (plain_any h2.2)
end

/-! ### defs that keep a promise -/
/-- the module's def x keeps sp -/
def Fn (P : Program) (w : World) (K : PySem.W.Frag) (mg : Str → Option Value) (base : Heap) (CX : CXT) (k : Nat) (x : Str) (sp : Sp) : Prop :=
  ∃ (f : Addr) (fd : FuncData) (ps : List Str), mg x = some (.ref f) ∧ PySem.W.keepIn K (.ref f) = true ∧ FnOk P w K mg base CX k f fd ps sp ∧ Binds K fd ps []
/-- the method m of the class at C keeps sp -/
def Mt (P : Program) (w : World) (K : PySem.W.Frag) (mg : Str → Option Value) (base : Heap) (CX : CXT) (k : Nat) (C : Addr) (m : Str) (sp : Sp) : Prop :=
  ∃ (f : Addr) (fd : FuncData) (ps : List Str), Cls K C ∧ Meth K C m f ∧ FnOk P w K mg base CX k f fd ps sp ∧ Binds K fd ps []
section
variable {X : Cx} {CX : CXT} {k : Nat} {x m : Str} {sp : Sp} {E : XK} {e o : Expr} {es : List Expr} {t : TA} {to te ta tv : TE} {p pos apos pos' : Pos} {f : Str}
theorem fCall (C : Fn X.prog X.w X.K X.mg X.base CX k x sp) (hr : Room k X.A) (n : Ng X.env.scope x) (hx : Passes CX X E) (ha : PA X (e :: es) t) (hp : plainL (e :: es) = true) :
    PE X (.Call (.Name x p) (e :: es) [] pos) (tCall sp [] E t) := by
  obtain ⟨f, fd, ps, h1, h2, h3, h4⟩ := C
  have z : plain1 e = true ∧ plainL es = true := Bool.and_eq_true_iff.mp hp
  exact pe_call h3 hr n.gl h1 h2 h4 .nil hx ha n.db (star1 z.1) (plain_any z.2)
theorem fCall0 (C : Fn X.prog X.w X.K X.mg X.base CX k x sp) (hr : Room k X.A) (n : Ng X.env.scope x) (hx : Passes CX X E) : PE X (.Call (.Name x p) [] [] pos) (tCall sp [] E tNil) := by
  obtain ⟨f, fd, ps, h1, h2, h3, h4⟩ := C
  exact pe_call0 h3 hr n.gl h1 h2 h4 .nil hx n.db
/-- what may be raised is wished for at the caller's slots -/
theorem fCallS {E : L2.St → XK} (C : Fn X.prog X.w X.K X.mg X.base CX k x sp) (hr : Room k X.A) (n : Ng X.env.scope x) (hx : ∀ σ, PassesAt CX X σ (E σ)) (ha : PA X (e :: es) t) (hp : plainL (e :: es) = true) :
    PE X (.Call (.Name x p) (e :: es) [] pos) (tCallS sp E t) := by
  obtain ⟨f, fd, ps, h1, h2, h3, h4⟩ := C
  have z : plain1 e = true ∧ plainL es = true := Bool.and_eq_true_iff.mp hp
  exact pe_callS h3 hr n.gl h1 h2 h4 hx ha n.db (star1 z.1) (plain_any z.2)
/-- a field of an instance -/
def FldAt (K : PySem.W.Frag) (H : Hp) (a : Addr) (f : Str) (v : V) : Prop := ∃ C dx fs, H a = some (.ins C dx fs) ∧ Cls K C ∧ NoAttr K C f ∧ fs.lookup f = some v
theorem Ex.fld {K : PySem.W.Frag} {H H' : Hp} {a : Addr} {f : Str} {v : V} (e : Ex H H') (h : FldAt K H a f v) : FldAt K H' a f v := by
  obtain ⟨C, dx, fs, h1, h2⟩ := h
  exact ⟨C, dx, fs, e _ _ h1, h2⟩
def tFld1 (K : PySem.W.Frag) (ta : TE) (f : Str) : TE := fun σ H Q => ta σ H fun x H1 => match x with
  | .ref a => ∃ v, FldAt K H1 a f v ∧ Q v H1
  | _ => False
theorem fFld (he : PE X e ta) (hb : noSup e = true) : PE X (.Attribute e f pos) (tFld1 X.K ta f) := by
  refine ⟨fun pins s σ H Q I h => ?_⟩
  refine attr_of (base_of hb) (thn (he.run pins s σ H _ I h) fun u s1 ⟨x, H1, I1, rx, q⟩ => ?_)
  cases x with
  | ref a =>
    obtain ⟨v, ⟨C, dx, fs, ea, c, n, l⟩, q⟩ := q
    obtain rfl : u = Value.ref a := rx
    exact getattr_ok I1 ea c n l fun u' s2 I2 ru => ⟨v, H1, I2, ru, q⟩
  | _ => exact q.elim
/-- o.m(e, ..), o a name: by whatever promise the method of o's class keeps -/
def tMet1 (P : Program) (w : World) (K : PySem.W.Frag) (mg : Str → Option Value) (base : Heap) (CX : CXT) (k : Nat) (m : Str) (E : XK) (ta : TE) (t : TA) : TE := fun σ H Q => ta σ H fun x H1 => match x with
  | .ref a => ∃ C dx fs sp, H1 a = some (.ins C dx fs) ∧ fs.lookup m = none ∧ Mt P w K mg base CX k C m sp ∧ t σ H1 fun vs H2 => sp (.ref a :: vs) H2 Q E
  | _ => False
theorem fMet {pl : Sem Bool} (he : PE X (.Name x p) ta) (hr : Room k X.A) (hx : Passes CX X E) (ha : PA X (e :: es) t) (hp : plainL (e :: es) = true)
    (ht : eval (.Call (.Attribute (.Name x p) m apos) (e :: es) [] pos) X.env = (do
      let ov ← eval (.Name x p) X.env
      standAt apos.atName
      let (f, first) ← holding [ov] (getMethod ov m pl)
      callWith pos f first (backTo pos (starEach (e :: es) X.env)) (backToKw pos (keywordEach [] X.env)))) :
    PE X (.Call (.Attribute (.Name x p) m apos) (e :: es) [] pos) (tMet1 X.prog X.w X.K X.mg X.base CX k m E ta t) := by
  have z : plain1 e = true ∧ plainL es = true := Bool.and_eq_true_iff.mp hp
  refine ⟨fun pins s σ H Q I h => ?_⟩
  refine PySem.W.methodCall_KW (pl := pl) (thn (he.run pins s σ H _ I h) fun u s1 ⟨y, H1, I1, rx, q⟩ => ?_) ht
  cases y with
  | ref a =>
    obtain ⟨C, dx, fs, sp, ea, l, ⟨f, fd, ps, h1, h2, h3, h4⟩, q⟩ := q
    obtain rfl : u = Value.ref a := rx
    refine getmeth_ok I1 ea h1 h2 l ?_
    refine PySem.W.callWith_K (first := [.ref a]) (h₀ := X.base) I.ok.mod.kin h2.kp (thn (ha.run pos pins s1 σ H1 _ I1 q) fun us s2 ⟨vs, H2, I2, r, q2⟩ => ⟨I2.kIn, ?_⟩) (star1 z.1) (plain_any z.2)
    exact run_fn (dvs := []) (us := .ref a :: us) (vs := .ref a :: vs) h3 hr h4 .nil hx I2 (.cons rfl r) (by rw [List.append_nil]; exact q2)
  | _ => exact q.elim
/-- what may be raised is wished for at the caller's slots -/
def tMetS (P : Program) (w : World) (K : PySem.W.Frag) (mg : Str → Option Value) (base : Heap) (CX : CXT) (k : Nat) (m : Str) (E : L2.St → XK) (ta : TE) (t : TA) : TE := fun σ H Q => ta σ H fun x H1 => match x with
  | .ref a => ∃ C dx fs sp, H1 a = some (.ins C dx fs) ∧ fs.lookup m = none ∧ Mt P w K mg base CX k C m sp ∧ t σ H1 fun vs H2 => sp (.ref a :: vs) H2 Q (E σ)
  | _ => False
theorem fMetS {pl : Sem Bool} {E : L2.St → XK} (he : PE X (.Name x p) ta) (hr : Room k X.A) (hx : ∀ σ, PassesAt CX X σ (E σ)) (ha : PA X (e :: es) t) (hp : plainL (e :: es) = true)
    (ht : eval (.Call (.Attribute (.Name x p) m apos) (e :: es) [] pos) X.env = (do
      let ov ← eval (.Name x p) X.env
      standAt apos.atName
      let (f, first) ← holding [ov] (getMethod ov m pl)
      callWith pos f first (backTo pos (starEach (e :: es) X.env)) (backToKw pos (keywordEach [] X.env)))) :
    PE X (.Call (.Attribute (.Name x p) m apos) (e :: es) [] pos) (tMetS X.prog X.w X.K X.mg X.base CX k m E ta t) := by
  have z : plain1 e = true ∧ plainL es = true := Bool.and_eq_true_iff.mp hp
  refine ⟨fun pins s σ H Q I h => ?_⟩
  refine PySem.W.methodCall_KW (pl := pl) (thn (he.run pins s σ H _ I h) fun u s1 ⟨y, H1, I1, rx, q⟩ => ?_) ht
  cases y with
  | ref a =>
    obtain ⟨C, dx, fs, sp, ea, l, ⟨f, fd, ps, h1, h2, h3, h4⟩, q⟩ := q
    obtain rfl : u = Value.ref a := rx
    refine getmeth_ok I1 ea h1 h2 l ?_
    refine PySem.W.callWith_K (first := [.ref a]) (h₀ := X.base) I.ok.mod.kin h2.kp (thn (ha.run pos pins s1 σ H1 _ I1 q) fun us s2 ⟨vs, H2, I2, r, q2⟩ => ⟨I2.kIn, ?_⟩) (star1 z.1) (plain_any z.2)
    exact run_fnS (us := .ref a :: us) (vs := .ref a :: vs) h3 hr h4 (hx σ) I2 (.cons rfl r) q2
  | _ => exact q.elim
/-- self.f = e -/
def sFld1 (K : PySem.W.Frag) (ta tv : TE) (f : Str) : TS := fun D σ H => tv σ H fun y H1 => ta σ H1 fun x H2 => match x with
  | .ref a => ∃ C dx fs, H2 a = some (.ins C dx fs) ∧ Cls K C ∧ NoAttr K C f ∧ fs.length < 1000 ∧ D.nx σ (upd H2 a (.ins C dx (putF f y fs)))
  | _ => False
theorem sFld (ha : PE X o ta) (hv : PE X e tv) (hs : swapsWith e (some (.Attribute o f pos')) pos.line X.env = pure false) : PS X (.Assign [.Attribute o f pos'] e pos) (sFld1 X.K ta tv f) := by
  refine ⟨fun pins s σ H D I h => ?_⟩
  refine plainObj_wpAny_Assign_Attribute (thn (hv.run pins s σ H _ I h) fun u s1 ⟨y, H1, I1, ry, q⟩ => thn (ha.run pins s1 σ H1 _ I1 q) fun ov s2 ⟨x, H2, I2, rx, q⟩ => ?_) hs
  cases x with
  | ref a =>
    obtain ⟨C, dx, fs, ea, c, n, l, q2⟩ := q
    obtain rfl : ov = Value.ref a := rx
    exact setattr_ok I2 ea c n l ry fun s3 I3 => ⟨σ, _, I3, q2⟩
  | _ => exact q.elim
end

/-! ### statements -/
section
variable {X : Cx} {e c : Expr} {te : TE} {pos : Pos} {x : Str}
/-- not a comprehension -/
def noComp : Expr → Bool
  | .ListComp _ _ _ _ => false
  | .SetComp _ _ _ _ => false
  | .DictComp _ _ _ _ _ => false
  | _ => true
theorem swaps0 {t : Option Expr} {n : Nat} {env : Env} (h : noComp e = true) : swapsWith e t n env = pure false := by
  cases e <;> first | rfl | cases h
theorem sSet {i : Nat} {pos' : Pos} (hN : X.N.Nodup) (hi : X.N[i]? = some x) (n : Nl X.env.scope x) (he : PE X e te) (hc : noComp e = true) (hf : X.fn x = true ∨ X.env.scope.names.lookup x = some .local) : PS X (.Assign [.Name x pos'] e pos) (tAsg te (gName i)) :=
  ps_set hN hi n.loc he (swaps0 hc) hf
theorem sExpr (he : PE X e te) (hc : noComp e = true) : PS X (.Expr e pos) (tDrop te) := ps_expr he (swaps0 hc)
/-- a statement, then the rest, with a word between them -/
def tCut (t u : TS) : TS := fun D σ H => ∃ Mid : L2.St → Hp → Prop, t { D with nx := Mid } σ H ∧ ∀ σ' H', Mid σ' H' → u D σ' H'
theorem sCut {st : Stmt} {rest : List Stmt} {t u : TS} (h1 : PS X st t) (h2 : PSs X rest u) : PSs X (st :: rest) (tCut t u) := by
  refine ⟨fun pins s σ H D I h => ?_⟩
  obtain ⟨Mid, hm, hu⟩ := h
  refine wpAny_execs_cons (thn (h1.run pins s σ H { D with nx := Mid } I hm) fun f s1 q => ?_)
  cases f with
  | next =>
    obtain ⟨σ', H', I', q⟩ := q
    exact h2.run pins s1 σ' H' D I' (hu σ' H' q)
  | ret v => exact q
  | brk => exact q
  | cont => exact q
/-- a test read at once -/
theorem ifP {c : TT} {t u : TS} {D : Ends} {σ : L2.St} {H : Hp} {p : Prop} [Decidable p] (h : ∀ Q : Bool → Hp → Prop, Q (decide p) H → c σ H Q) (h1 : p → t D σ H) (h2 : ¬ p → u D σ H) : tIfS c t u D σ H := by
  refine h (fun b H1 => if b = true then t D σ H1 else u D σ H1) ?_
  exact iteD h1 h2
theorem gN {i : Nat} (hN : X.N.Nodup) (hi : X.N[i]? = some x) (n : Nl X.env.scope x) (hf : X.fn x = true ∨ X.env.scope.names.lookup x = some .local) : PG X (.Name x pos) (gName i) := pg_name hN hi n.loc hf
end
end F
namespace K45
open PySem PySem.Spec PyProof.Rows L2 F

def top (i : Nat) : Stmt := PySem.Challenge.pw_padwright_k45_values_for_a_text.main.body.getD i (.Pass ⟨0, 0, 0, 0⟩)
abbrev s_P_TwoValues___init__ : Stmt := inClass (top 11) 0
abbrev N_P_TwoValues___init__ : List Str := ["self", "told"]
abbrev A_P_TwoValues___init__ : List Str := ["self", "told"]
theorem sc_P_TwoValues___init__ : FnScope N_P_TwoValues___init__ A_P_TwoValues___init__ (defScope s_P_TwoValues___init__) := ⟨rfl, rfl, rfl, by decide +kernel, rfl, by decide +kernel, by decide +kernel⟩
theorem nm_P_TwoValues___init___self : Nm (defScope s_P_TwoValues___init__) "self" := nm_of (by decide +kernel)
theorem nl_P_TwoValues___init___self : Nl (defScope s_P_TwoValues___init__) "self" := nl_of (by decide +kernel)
theorem lo_P_TwoValues___init___self : (defScope s_P_TwoValues___init__).names.lookup ("self" : Str) = some .local := by decide +kernel
theorem nm_P_TwoValues___init___told : Nm (defScope s_P_TwoValues___init__) "told" := nm_of (by decide +kernel)
theorem nl_P_TwoValues___init___told : Nl (defScope s_P_TwoValues___init__) "told" := nl_of (by decide +kernel)
theorem lo_P_TwoValues___init___told : (defScope s_P_TwoValues___init__).names.lookup ("told" : Str) = some .local := by decide +kernel
theorem ng_P_TwoValues___init___PadError : Ng (defScope s_P_TwoValues___init__) "PadError" := ng_of (by decide +kernel)
theorem ng_P_TwoValues___init___list : Ng (defScope s_P_TwoValues___init__) "list" := ng_of (by decide +kernel)
abbrev s_P_number_of : Stmt := top 16
abbrev N_P_number_of : List Str := ["text", "base", "number", "sign", "figure"]
abbrev A_P_number_of : List Str := ["text", "base"]
theorem sc_P_number_of : FnScope N_P_number_of A_P_number_of (defScope s_P_number_of) := ⟨rfl, rfl, rfl, by decide +kernel, rfl, by decide +kernel, by decide +kernel⟩
theorem nm_P_number_of_text : Nm (defScope s_P_number_of) "text" := nm_of (by decide +kernel)
theorem nl_P_number_of_text : Nl (defScope s_P_number_of) "text" := nl_of (by decide +kernel)
theorem lo_P_number_of_text : (defScope s_P_number_of).names.lookup ("text" : Str) = some .local := by decide +kernel
theorem nm_P_number_of_base : Nm (defScope s_P_number_of) "base" := nm_of (by decide +kernel)
theorem nl_P_number_of_base : Nl (defScope s_P_number_of) "base" := nl_of (by decide +kernel)
theorem lo_P_number_of_base : (defScope s_P_number_of).names.lookup ("base" : Str) = some .local := by decide +kernel
theorem nm_P_number_of_number : Nm (defScope s_P_number_of) "number" := nm_of (by decide +kernel)
theorem nl_P_number_of_number : Nl (defScope s_P_number_of) "number" := nl_of (by decide +kernel)
theorem lo_P_number_of_number : (defScope s_P_number_of).names.lookup ("number" : Str) = some .local := by decide +kernel
theorem nm_P_number_of_sign : Nm (defScope s_P_number_of) "sign" := nm_of (by decide +kernel)
theorem nl_P_number_of_sign : Nl (defScope s_P_number_of) "sign" := nl_of (by decide +kernel)
theorem lo_P_number_of_sign : (defScope s_P_number_of).names.lookup ("sign" : Str) = some .local := by decide +kernel
theorem nm_P_number_of_figure : Nm (defScope s_P_number_of) "figure" := nm_of (by decide +kernel)
theorem nl_P_number_of_figure : Nl (defScope s_P_number_of) "figure" := nl_of (by decide +kernel)
theorem lo_P_number_of_figure : (defScope s_P_number_of).names.lookup ("figure" : Str) = some .local := by decide +kernel
theorem ng_P_number_of_isinstance : Ng (defScope s_P_number_of) "isinstance" := ng_of (by decide +kernel)
theorem ng_P_number_of_str : Ng (defScope s_P_number_of) "str" := ng_of (by decide +kernel)
theorem ng_P_number_of_len : Ng (defScope s_P_number_of) "len" := ng_of (by decide +kernel)
theorem ng_P_number_of_MOST_FIGURES : Ng (defScope s_P_number_of) "MOST_FIGURES" := ng_of (by decide +kernel)
theorem ng_P_number_of_NoFigures : Ng (defScope s_P_number_of) "NoFigures" := ng_of (by decide +kernel)
theorem ng_P_number_of_FIGURES : Ng (defScope s_P_number_of) "FIGURES" := ng_of (by decide +kernel)
abbrev s_P_marks_in : Stmt := top 19
abbrev N_P_marks_in : List Str := ["many", "size"]
abbrev A_P_marks_in : List Str := ["many", "size"]
theorem sc_P_marks_in : FnScope N_P_marks_in A_P_marks_in (defScope s_P_marks_in) := ⟨rfl, rfl, rfl, by decide +kernel, rfl, by decide +kernel, by decide +kernel⟩
theorem nm_P_marks_in_many : Nm (defScope s_P_marks_in) "many" := nm_of (by decide +kernel)
theorem nl_P_marks_in_many : Nl (defScope s_P_marks_in) "many" := nl_of (by decide +kernel)
theorem lo_P_marks_in_many : (defScope s_P_marks_in).names.lookup ("many" : Str) = some .local := by decide +kernel
theorem nm_P_marks_in_size : Nm (defScope s_P_marks_in) "size" := nm_of (by decide +kernel)
theorem nl_P_marks_in_size : Nl (defScope s_P_marks_in) "size" := nl_of (by decide +kernel)
theorem lo_P_marks_in_size : (defScope s_P_marks_in).names.lookup ("size" : Str) = some .local := by decide +kernel
abbrev s_P_signs_in : Stmt := top 21
abbrev N_P_signs_in : List Str := ["length", "size", "many"]
abbrev A_P_signs_in : List Str := ["length", "size"]
theorem sc_P_signs_in : FnScope N_P_signs_in A_P_signs_in (defScope s_P_signs_in) := ⟨rfl, rfl, rfl, by decide +kernel, rfl, by decide +kernel, by decide +kernel⟩
theorem nm_P_signs_in_length : Nm (defScope s_P_signs_in) "length" := nm_of (by decide +kernel)
theorem nl_P_signs_in_length : Nl (defScope s_P_signs_in) "length" := nl_of (by decide +kernel)
theorem lo_P_signs_in_length : (defScope s_P_signs_in).names.lookup ("length" : Str) = some .local := by decide +kernel
theorem nm_P_signs_in_size : Nm (defScope s_P_signs_in) "size" := nm_of (by decide +kernel)
theorem nl_P_signs_in_size : Nl (defScope s_P_signs_in) "size" := nl_of (by decide +kernel)
theorem lo_P_signs_in_size : (defScope s_P_signs_in).names.lookup ("size" : Str) = some .local := by decide +kernel
theorem nm_P_signs_in_many : Nm (defScope s_P_signs_in) "many" := nm_of (by decide +kernel)
theorem nl_P_signs_in_many : Nl (defScope s_P_signs_in) "many" := nl_of (by decide +kernel)
theorem lo_P_signs_in_many : (defScope s_P_signs_in).names.lookup ("many" : Str) = some .local := by decide +kernel
theorem ng_P_signs_in_range : Ng (defScope s_P_signs_in) "range" := ng_of (by decide +kernel)
theorem ng_P_signs_in_MOST_SIGNS : Ng (defScope s_P_signs_in) "MOST_SIGNS" := ng_of (by decide +kernel)
theorem ng_P_signs_in_marks_in : Ng (defScope s_P_signs_in) "marks_in" := ng_of (by decide +kernel)
theorem ng_P_signs_in_NoGroups : Ng (defScope s_P_signs_in) "NoGroups" := ng_of (by decide +kernel)
abbrev s_P_ungrouped : Stmt := top 22
abbrev N_P_ungrouped : List Str := ["text", "size", "mark", "many", "first", "found", "k", "at"]
abbrev A_P_ungrouped : List Str := ["text", "size", "mark"]
theorem sc_P_ungrouped : FnScope N_P_ungrouped A_P_ungrouped (defScope s_P_ungrouped) := ⟨rfl, rfl, rfl, by decide +kernel, rfl, by decide +kernel, by decide +kernel⟩
theorem nm_P_ungrouped_text : Nm (defScope s_P_ungrouped) "text" := nm_of (by decide +kernel)
theorem nl_P_ungrouped_text : Nl (defScope s_P_ungrouped) "text" := nl_of (by decide +kernel)
theorem lo_P_ungrouped_text : (defScope s_P_ungrouped).names.lookup ("text" : Str) = some .local := by decide +kernel
theorem nm_P_ungrouped_size : Nm (defScope s_P_ungrouped) "size" := nm_of (by decide +kernel)
theorem nl_P_ungrouped_size : Nl (defScope s_P_ungrouped) "size" := nl_of (by decide +kernel)
theorem lo_P_ungrouped_size : (defScope s_P_ungrouped).names.lookup ("size" : Str) = some .local := by decide +kernel
theorem nm_P_ungrouped_mark : Nm (defScope s_P_ungrouped) "mark" := nm_of (by decide +kernel)
theorem nl_P_ungrouped_mark : Nl (defScope s_P_ungrouped) "mark" := nl_of (by decide +kernel)
theorem lo_P_ungrouped_mark : (defScope s_P_ungrouped).names.lookup ("mark" : Str) = some .local := by decide +kernel
theorem nm_P_ungrouped_many : Nm (defScope s_P_ungrouped) "many" := nm_of (by decide +kernel)
theorem nl_P_ungrouped_many : Nl (defScope s_P_ungrouped) "many" := nl_of (by decide +kernel)
theorem lo_P_ungrouped_many : (defScope s_P_ungrouped).names.lookup ("many" : Str) = some .local := by decide +kernel
theorem nm_P_ungrouped_first : Nm (defScope s_P_ungrouped) "first" := nm_of (by decide +kernel)
theorem nl_P_ungrouped_first : Nl (defScope s_P_ungrouped) "first" := nl_of (by decide +kernel)
theorem lo_P_ungrouped_first : (defScope s_P_ungrouped).names.lookup ("first" : Str) = some .local := by decide +kernel
theorem nm_P_ungrouped_found : Nm (defScope s_P_ungrouped) "found" := nm_of (by decide +kernel)
theorem nl_P_ungrouped_found : Nl (defScope s_P_ungrouped) "found" := nl_of (by decide +kernel)
theorem lo_P_ungrouped_found : (defScope s_P_ungrouped).names.lookup ("found" : Str) = some .local := by decide +kernel
theorem nm_P_ungrouped_k : Nm (defScope s_P_ungrouped) "k" := nm_of (by decide +kernel)
theorem nl_P_ungrouped_k : Nl (defScope s_P_ungrouped) "k" := nl_of (by decide +kernel)
theorem lo_P_ungrouped_k : (defScope s_P_ungrouped).names.lookup ("k" : Str) = some .local := by decide +kernel
theorem nm_P_ungrouped_at : Nm (defScope s_P_ungrouped) "at" := nm_of (by decide +kernel)
theorem nl_P_ungrouped_at : Nl (defScope s_P_ungrouped) "at" := nl_of (by decide +kernel)
theorem lo_P_ungrouped_at : (defScope s_P_ungrouped).names.lookup ("at" : Str) = some .local := by decide +kernel
theorem ng_P_ungrouped_signs_in : Ng (defScope s_P_ungrouped) "signs_in" := ng_of (by decide +kernel)
theorem ng_P_ungrouped_len : Ng (defScope s_P_ungrouped) "len" := ng_of (by decide +kernel)
theorem ng_P_ungrouped_marks_in : Ng (defScope s_P_ungrouped) "marks_in" := ng_of (by decide +kernel)
theorem ng_P_ungrouped_range : Ng (defScope s_P_ungrouped) "range" := ng_of (by decide +kernel)
theorem ng_P_ungrouped_NoGroups : Ng (defScope s_P_ungrouped) "NoGroups" := ng_of (by decide +kernel)
abbrev s_P_is_whole : Stmt := top 24
abbrev N_P_is_whole : List Str := ["thing"]
abbrev A_P_is_whole : List Str := ["thing"]
theorem sc_P_is_whole : FnScope N_P_is_whole A_P_is_whole (defScope s_P_is_whole) := ⟨rfl, rfl, rfl, by decide +kernel, rfl, by decide +kernel, by decide +kernel⟩
theorem nm_P_is_whole_thing : Nm (defScope s_P_is_whole) "thing" := nm_of (by decide +kernel)
theorem nl_P_is_whole_thing : Nl (defScope s_P_is_whole) "thing" := nl_of (by decide +kernel)
theorem lo_P_is_whole_thing : (defScope s_P_is_whole).names.lookup ("thing" : Str) = some .local := by decide +kernel
theorem ng_P_is_whole_isinstance : Ng (defScope s_P_is_whole) "isinstance" := ng_of (by decide +kernel)
theorem ng_P_is_whole_int : Ng (defScope s_P_is_whole) "int" := ng_of (by decide +kernel)
theorem ng_P_is_whole_bool : Ng (defScope s_P_is_whole) "bool" := ng_of (by decide +kernel)
abbrev s_P_power_of : Stmt := top 25
abbrev N_P_power_of : List Str := ["base", "times", "found", "k"]
abbrev A_P_power_of : List Str := ["base", "times"]
theorem sc_P_power_of : FnScope N_P_power_of A_P_power_of (defScope s_P_power_of) := ⟨rfl, rfl, rfl, by decide +kernel, rfl, by decide +kernel, by decide +kernel⟩
theorem nm_P_power_of_base : Nm (defScope s_P_power_of) "base" := nm_of (by decide +kernel)
theorem nl_P_power_of_base : Nl (defScope s_P_power_of) "base" := nl_of (by decide +kernel)
theorem lo_P_power_of_base : (defScope s_P_power_of).names.lookup ("base" : Str) = some .local := by decide +kernel
theorem nm_P_power_of_times : Nm (defScope s_P_power_of) "times" := nm_of (by decide +kernel)
theorem nl_P_power_of_times : Nl (defScope s_P_power_of) "times" := nl_of (by decide +kernel)
theorem lo_P_power_of_times : (defScope s_P_power_of).names.lookup ("times" : Str) = some .local := by decide +kernel
theorem nm_P_power_of_found : Nm (defScope s_P_power_of) "found" := nm_of (by decide +kernel)
theorem nl_P_power_of_found : Nl (defScope s_P_power_of) "found" := nl_of (by decide +kernel)
theorem lo_P_power_of_found : (defScope s_P_power_of).names.lookup ("found" : Str) = some .local := by decide +kernel
theorem nm_P_power_of_k : Nm (defScope s_P_power_of) "k" := nm_of (by decide +kernel)
theorem nl_P_power_of_k : Nl (defScope s_P_power_of) "k" := nl_of (by decide +kernel)
theorem lo_P_power_of_k : (defScope s_P_power_of).names.lookup ("k" : Str) = some .local := by decide +kernel
theorem ng_P_power_of_range : Ng (defScope s_P_power_of) "range" := ng_of (by decide +kernel)
abbrev s_P_whole_in : Stmt := top 28
abbrev N_P_whole_in : List Str := ["text", "base", "size", "mark", "told"]
abbrev A_P_whole_in : List Str := ["text", "base", "size", "mark"]
theorem sc_P_whole_in : FnScope N_P_whole_in A_P_whole_in (defScope s_P_whole_in) := ⟨rfl, rfl, rfl, by decide +kernel, rfl, by decide +kernel, by decide +kernel⟩
theorem nm_P_whole_in_text : Nm (defScope s_P_whole_in) "text" := nm_of (by decide +kernel)
theorem nl_P_whole_in_text : Nl (defScope s_P_whole_in) "text" := nl_of (by decide +kernel)
theorem lo_P_whole_in_text : (defScope s_P_whole_in).names.lookup ("text" : Str) = some .local := by decide +kernel
theorem nm_P_whole_in_base : Nm (defScope s_P_whole_in) "base" := nm_of (by decide +kernel)
theorem nl_P_whole_in_base : Nl (defScope s_P_whole_in) "base" := nl_of (by decide +kernel)
theorem lo_P_whole_in_base : (defScope s_P_whole_in).names.lookup ("base" : Str) = some .local := by decide +kernel
theorem nm_P_whole_in_size : Nm (defScope s_P_whole_in) "size" := nm_of (by decide +kernel)
theorem nl_P_whole_in_size : Nl (defScope s_P_whole_in) "size" := nl_of (by decide +kernel)
theorem lo_P_whole_in_size : (defScope s_P_whole_in).names.lookup ("size" : Str) = some .local := by decide +kernel
theorem nm_P_whole_in_mark : Nm (defScope s_P_whole_in) "mark" := nm_of (by decide +kernel)
theorem nl_P_whole_in_mark : Nl (defScope s_P_whole_in) "mark" := nl_of (by decide +kernel)
theorem lo_P_whole_in_mark : (defScope s_P_whole_in).names.lookup ("mark" : Str) = some .local := by decide +kernel
theorem nm_P_whole_in_told : Nm (defScope s_P_whole_in) "told" := nm_of (by decide +kernel)
theorem nl_P_whole_in_told : Nl (defScope s_P_whole_in) "told" := nl_of (by decide +kernel)
theorem lo_P_whole_in_told : (defScope s_P_whole_in).names.lookup ("told" : Str) = some .local := by decide +kernel
theorem ng_P_whole_in_ungrouped : Ng (defScope s_P_whole_in) "ungrouped" := ng_of (by decide +kernel)
theorem ng_P_whole_in_NoGroups : Ng (defScope s_P_whole_in) "NoGroups" := ng_of (by decide +kernel)
theorem ng_P_whole_in_NoBody : Ng (defScope s_P_whole_in) "NoBody" := ng_of (by decide +kernel)
theorem ng_P_whole_in_len : Ng (defScope s_P_whole_in) "len" := ng_of (by decide +kernel)
theorem ng_P_whole_in_worth_of : Ng (defScope s_P_whole_in) "worth_of" := ng_of (by decide +kernel)
abbrev s_P_worth_of : Stmt := top 29
abbrev N_P_worth_of : List Str := ["text", "base"]
abbrev A_P_worth_of : List Str := ["text", "base"]
theorem sc_P_worth_of : FnScope N_P_worth_of A_P_worth_of (defScope s_P_worth_of) := ⟨rfl, rfl, rfl, by decide +kernel, rfl, by decide +kernel, by decide +kernel⟩
theorem nm_P_worth_of_text : Nm (defScope s_P_worth_of) "text" := nm_of (by decide +kernel)
theorem nl_P_worth_of_text : Nl (defScope s_P_worth_of) "text" := nl_of (by decide +kernel)
theorem lo_P_worth_of_text : (defScope s_P_worth_of).names.lookup ("text" : Str) = some .local := by decide +kernel
theorem nm_P_worth_of_base : Nm (defScope s_P_worth_of) "base" := nm_of (by decide +kernel)
theorem nl_P_worth_of_base : Nl (defScope s_P_worth_of) "base" := nl_of (by decide +kernel)
theorem lo_P_worth_of_base : (defScope s_P_worth_of).names.lookup ("base" : Str) = some .local := by decide +kernel
theorem ng_P_worth_of_number_of : Ng (defScope s_P_worth_of) "number_of" := ng_of (by decide +kernel)
theorem ng_P_worth_of_NoFigures : Ng (defScope s_P_worth_of) "NoFigures" := ng_of (by decide +kernel)
theorem ng_P_worth_of_NoBody : Ng (defScope s_P_worth_of) "NoBody" := ng_of (by decide +kernel)
abbrev s_P_number_in : Stmt := top 30
abbrev N_P_number_in : List Str := ["body", "base", "places", "point", "size", "mark", "at", "whole"]
abbrev A_P_number_in : List Str := ["body", "base", "places", "point", "size", "mark"]
theorem sc_P_number_in : FnScope N_P_number_in A_P_number_in (defScope s_P_number_in) := ⟨rfl, rfl, rfl, by decide +kernel, rfl, by decide +kernel, by decide +kernel⟩
theorem nm_P_number_in_body : Nm (defScope s_P_number_in) "body" := nm_of (by decide +kernel)
theorem nl_P_number_in_body : Nl (defScope s_P_number_in) "body" := nl_of (by decide +kernel)
theorem lo_P_number_in_body : (defScope s_P_number_in).names.lookup ("body" : Str) = some .local := by decide +kernel
theorem nm_P_number_in_base : Nm (defScope s_P_number_in) "base" := nm_of (by decide +kernel)
theorem nl_P_number_in_base : Nl (defScope s_P_number_in) "base" := nl_of (by decide +kernel)
theorem lo_P_number_in_base : (defScope s_P_number_in).names.lookup ("base" : Str) = some .local := by decide +kernel
theorem nm_P_number_in_places : Nm (defScope s_P_number_in) "places" := nm_of (by decide +kernel)
theorem nl_P_number_in_places : Nl (defScope s_P_number_in) "places" := nl_of (by decide +kernel)
theorem lo_P_number_in_places : (defScope s_P_number_in).names.lookup ("places" : Str) = some .local := by decide +kernel
theorem nm_P_number_in_point : Nm (defScope s_P_number_in) "point" := nm_of (by decide +kernel)
theorem nl_P_number_in_point : Nl (defScope s_P_number_in) "point" := nl_of (by decide +kernel)
theorem lo_P_number_in_point : (defScope s_P_number_in).names.lookup ("point" : Str) = some .local := by decide +kernel
theorem nm_P_number_in_size : Nm (defScope s_P_number_in) "size" := nm_of (by decide +kernel)
theorem nl_P_number_in_size : Nl (defScope s_P_number_in) "size" := nl_of (by decide +kernel)
theorem lo_P_number_in_size : (defScope s_P_number_in).names.lookup ("size" : Str) = some .local := by decide +kernel
theorem nm_P_number_in_mark : Nm (defScope s_P_number_in) "mark" := nm_of (by decide +kernel)
theorem nl_P_number_in_mark : Nl (defScope s_P_number_in) "mark" := nl_of (by decide +kernel)
theorem lo_P_number_in_mark : (defScope s_P_number_in).names.lookup ("mark" : Str) = some .local := by decide +kernel
theorem nm_P_number_in_at : Nm (defScope s_P_number_in) "at" := nm_of (by decide +kernel)
theorem nl_P_number_in_at : Nl (defScope s_P_number_in) "at" := nl_of (by decide +kernel)
theorem lo_P_number_in_at : (defScope s_P_number_in).names.lookup ("at" : Str) = some .local := by decide +kernel
theorem nm_P_number_in_whole : Nm (defScope s_P_number_in) "whole" := nm_of (by decide +kernel)
theorem nl_P_number_in_whole : Nl (defScope s_P_number_in) "whole" := nl_of (by decide +kernel)
theorem lo_P_number_in_whole : (defScope s_P_number_in).names.lookup ("whole" : Str) = some .local := by decide +kernel
theorem ng_P_number_in_whole_in : Ng (defScope s_P_number_in) "whole_in" := ng_of (by decide +kernel)
theorem ng_P_number_in_len : Ng (defScope s_P_number_in) "len" := ng_of (by decide +kernel)
theorem ng_P_number_in_NoBody : Ng (defScope s_P_number_in) "NoBody" := ng_of (by decide +kernel)
theorem ng_P_number_in_power_of : Ng (defScope s_P_number_in) "power_of" := ng_of (by decide +kernel)
theorem ng_P_number_in_worth_of : Ng (defScope s_P_number_in) "worth_of" := ng_of (by decide +kernel)
abbrev s_P_ends_of : Stmt := top 34
abbrev N_P_ends_of : List Str := ["style", "below"]
abbrev A_P_ends_of : List Str := ["style", "below"]
theorem sc_P_ends_of : FnScope N_P_ends_of A_P_ends_of (defScope s_P_ends_of) := ⟨rfl, rfl, rfl, by decide +kernel, rfl, by decide +kernel, by decide +kernel⟩
theorem nm_P_ends_of_style : Nm (defScope s_P_ends_of) "style" := nm_of (by decide +kernel)
theorem nl_P_ends_of_style : Nl (defScope s_P_ends_of) "style" := nl_of (by decide +kernel)
theorem lo_P_ends_of_style : (defScope s_P_ends_of).names.lookup ("style" : Str) = some .local := by decide +kernel
theorem nm_P_ends_of_below : Nm (defScope s_P_ends_of) "below" := nm_of (by decide +kernel)
theorem nl_P_ends_of_below : Nl (defScope s_P_ends_of) "below" := nl_of (by decide +kernel)
theorem lo_P_ends_of_below : (defScope s_P_ends_of).names.lookup ("below" : Str) = some .local := by decide +kernel
theorem ng_P_ends_of_BELOW : Ng (defScope s_P_ends_of) "BELOW" := ng_of (by decide +kernel)
theorem ng_P_ends_of_ABOVE : Ng (defScope s_P_ends_of) "ABOVE" := ng_of (by decide +kernel)
abbrev s_P_Form___init__ : Stmt := inClass (top 36) 0
abbrev N_P_Form___init__ : List Str := ["self", "width", "fill", "side", "strict"]
abbrev A_P_Form___init__ : List Str := ["self", "width", "fill", "side", "strict"]
theorem sc_P_Form___init__ : FnScope N_P_Form___init__ A_P_Form___init__ (defScope s_P_Form___init__) := ⟨rfl, rfl, rfl, by decide +kernel, rfl, by decide +kernel, by decide +kernel⟩
theorem nm_P_Form___init___self : Nm (defScope s_P_Form___init__) "self" := nm_of (by decide +kernel)
theorem nl_P_Form___init___self : Nl (defScope s_P_Form___init__) "self" := nl_of (by decide +kernel)
theorem lo_P_Form___init___self : (defScope s_P_Form___init__).names.lookup ("self" : Str) = some .local := by decide +kernel
theorem nm_P_Form___init___width : Nm (defScope s_P_Form___init__) "width" := nm_of (by decide +kernel)
theorem nl_P_Form___init___width : Nl (defScope s_P_Form___init__) "width" := nl_of (by decide +kernel)
theorem lo_P_Form___init___width : (defScope s_P_Form___init__).names.lookup ("width" : Str) = some .local := by decide +kernel
theorem nm_P_Form___init___fill : Nm (defScope s_P_Form___init__) "fill" := nm_of (by decide +kernel)
theorem nl_P_Form___init___fill : Nl (defScope s_P_Form___init__) "fill" := nl_of (by decide +kernel)
theorem lo_P_Form___init___fill : (defScope s_P_Form___init__).names.lookup ("fill" : Str) = some .local := by decide +kernel
theorem nm_P_Form___init___side : Nm (defScope s_P_Form___init__) "side" := nm_of (by decide +kernel)
theorem nl_P_Form___init___side : Nl (defScope s_P_Form___init__) "side" := nl_of (by decide +kernel)
theorem lo_P_Form___init___side : (defScope s_P_Form___init__).names.lookup ("side" : Str) = some .local := by decide +kernel
theorem nm_P_Form___init___strict : Nm (defScope s_P_Form___init__) "strict" := nm_of (by decide +kernel)
theorem nl_P_Form___init___strict : Nl (defScope s_P_Form___init__) "strict" := nl_of (by decide +kernel)
theorem lo_P_Form___init___strict : (defScope s_P_Form___init__).names.lookup ("strict" : Str) = some .local := by decide +kernel
abbrev s_P_too_long : Stmt := top 37
abbrev N_P_too_long : List Str := ["form", "length"]
abbrev A_P_too_long : List Str := ["form", "length"]
theorem sc_P_too_long : FnScope N_P_too_long A_P_too_long (defScope s_P_too_long) := ⟨rfl, rfl, rfl, by decide +kernel, rfl, by decide +kernel, by decide +kernel⟩
theorem nm_P_too_long_form : Nm (defScope s_P_too_long) "form" := nm_of (by decide +kernel)
theorem nl_P_too_long_form : Nl (defScope s_P_too_long) "form" := nl_of (by decide +kernel)
theorem lo_P_too_long_form : (defScope s_P_too_long).names.lookup ("form" : Str) = some .local := by decide +kernel
theorem nm_P_too_long_length : Nm (defScope s_P_too_long) "length" := nm_of (by decide +kernel)
theorem nl_P_too_long_length : Nl (defScope s_P_too_long) "length" := nl_of (by decide +kernel)
theorem lo_P_too_long_length : (defScope s_P_too_long).names.lookup ("length" : Str) = some .local := by decide +kernel
abbrev s_P_only_one : Stmt := top 39
abbrev N_P_only_one : List Str := ["told"]
abbrev A_P_only_one : List Str := ["told"]
theorem sc_P_only_one : FnScope N_P_only_one A_P_only_one (defScope s_P_only_one) := ⟨rfl, rfl, rfl, by decide +kernel, rfl, by decide +kernel, by decide +kernel⟩
theorem nm_P_only_one_told : Nm (defScope s_P_only_one) "told" := nm_of (by decide +kernel)
theorem nl_P_only_one_told : Nl (defScope s_P_only_one) "told" := nl_of (by decide +kernel)
theorem lo_P_only_one_told : (defScope s_P_only_one).names.lookup ("told" : Str) = some .local := by decide +kernel
theorem ng_P_only_one_NoText : Ng (defScope s_P_only_one) "NoText" := ng_of (by decide +kernel)
theorem ng_P_only_one_len : Ng (defScope s_P_only_one) "len" := ng_of (by decide +kernel)
theorem ng_P_only_one_TwoValues : Ng (defScope s_P_only_one) "TwoValues" := ng_of (by decide +kernel)
abbrev s_P_divisor_of : Stmt := top 41
abbrev N_P_divisor_of : List Str := ["one", "other", "rest"]
abbrev A_P_divisor_of : List Str := ["one", "other"]
theorem sc_P_divisor_of : FnScope N_P_divisor_of A_P_divisor_of (defScope s_P_divisor_of) := ⟨rfl, rfl, rfl, by decide +kernel, rfl, by decide +kernel, by decide +kernel⟩
theorem nm_P_divisor_of_one : Nm (defScope s_P_divisor_of) "one" := nm_of (by decide +kernel)
theorem nl_P_divisor_of_one : Nl (defScope s_P_divisor_of) "one" := nl_of (by decide +kernel)
theorem lo_P_divisor_of_one : (defScope s_P_divisor_of).names.lookup ("one" : Str) = some .local := by decide +kernel
theorem nm_P_divisor_of_other : Nm (defScope s_P_divisor_of) "other" := nm_of (by decide +kernel)
theorem nl_P_divisor_of_other : Nl (defScope s_P_divisor_of) "other" := nl_of (by decide +kernel)
theorem lo_P_divisor_of_other : (defScope s_P_divisor_of).names.lookup ("other" : Str) = some .local := by decide +kernel
theorem nm_P_divisor_of_rest : Nm (defScope s_P_divisor_of) "rest" := nm_of (by decide +kernel)
theorem nl_P_divisor_of_rest : Nl (defScope s_P_divisor_of) "rest" := nl_of (by decide +kernel)
theorem lo_P_divisor_of_rest : (defScope s_P_divisor_of).names.lookup ("rest" : Str) = some .local := by decide +kernel
theorem ng_P_divisor_of_abs : Ng (defScope s_P_divisor_of) "abs" := ng_of (by decide +kernel)
abbrev s_P_fraction : Stmt := top 42
abbrev N_P_fraction : List Str := ["top", "bottom", "share"]
abbrev A_P_fraction : List Str := ["top", "bottom"]
theorem sc_P_fraction : FnScope N_P_fraction A_P_fraction (defScope s_P_fraction) := ⟨rfl, rfl, rfl, by decide +kernel, rfl, by decide +kernel, by decide +kernel⟩
theorem nm_P_fraction_top : Nm (defScope s_P_fraction) "top" := nm_of (by decide +kernel)
theorem nl_P_fraction_top : Nl (defScope s_P_fraction) "top" := nl_of (by decide +kernel)
theorem lo_P_fraction_top : (defScope s_P_fraction).names.lookup ("top" : Str) = some .local := by decide +kernel
theorem nm_P_fraction_bottom : Nm (defScope s_P_fraction) "bottom" := nm_of (by decide +kernel)
theorem nl_P_fraction_bottom : Nl (defScope s_P_fraction) "bottom" := nl_of (by decide +kernel)
theorem lo_P_fraction_bottom : (defScope s_P_fraction).names.lookup ("bottom" : Str) = some .local := by decide +kernel
theorem nm_P_fraction_share : Nm (defScope s_P_fraction) "share" := nm_of (by decide +kernel)
theorem nl_P_fraction_share : Nl (defScope s_P_fraction) "share" := nl_of (by decide +kernel)
theorem lo_P_fraction_share : (defScope s_P_fraction).names.lookup ("share" : Str) = some .local := by decide +kernel
theorem ng_P_fraction_is_whole : Ng (defScope s_P_fraction) "is_whole" := ng_of (by decide +kernel)
theorem ng_P_fraction_NoNumber : Ng (defScope s_P_fraction) "NoNumber" := ng_of (by decide +kernel)
theorem ng_P_fraction_divisor_of : Ng (defScope s_P_fraction) "divisor_of" := ng_of (by decide +kernel)
abbrev s_P_grid_value : Stmt := top 46
abbrev N_P_grid_value : List Str := ["k", "base", "places"]
abbrev A_P_grid_value : List Str := ["k", "base", "places"]
theorem sc_P_grid_value : FnScope N_P_grid_value A_P_grid_value (defScope s_P_grid_value) := ⟨rfl, rfl, rfl, by decide +kernel, rfl, by decide +kernel, by decide +kernel⟩
theorem nm_P_grid_value_k : Nm (defScope s_P_grid_value) "k" := nm_of (by decide +kernel)
theorem nl_P_grid_value_k : Nl (defScope s_P_grid_value) "k" := nl_of (by decide +kernel)
theorem lo_P_grid_value_k : (defScope s_P_grid_value).names.lookup ("k" : Str) = some .local := by decide +kernel
theorem nm_P_grid_value_base : Nm (defScope s_P_grid_value) "base" := nm_of (by decide +kernel)
theorem nl_P_grid_value_base : Nl (defScope s_P_grid_value) "base" := nl_of (by decide +kernel)
theorem lo_P_grid_value_base : (defScope s_P_grid_value).names.lookup ("base" : Str) = some .local := by decide +kernel
theorem nm_P_grid_value_places : Nm (defScope s_P_grid_value) "places" := nm_of (by decide +kernel)
theorem nl_P_grid_value_places : Nl (defScope s_P_grid_value) "places" := nl_of (by decide +kernel)
theorem lo_P_grid_value_places : (defScope s_P_grid_value).names.lookup ("places" : Str) = some .local := by decide +kernel
theorem ng_P_grid_value_fraction : Ng (defScope s_P_grid_value) "fraction" := ng_of (by decide +kernel)
theorem ng_P_grid_value_power_of : Ng (defScope s_P_grid_value) "power_of" := ng_of (by decide +kernel)
abbrev s_P_pads_of : Stmt := top 48
abbrev N_P_pads_of : List Str := ["length", "width", "side", "lacks"]
abbrev A_P_pads_of : List Str := ["length", "width", "side"]
theorem sc_P_pads_of : FnScope N_P_pads_of A_P_pads_of (defScope s_P_pads_of) := ⟨rfl, rfl, rfl, by decide +kernel, rfl, by decide +kernel, by decide +kernel⟩
theorem nm_P_pads_of_length : Nm (defScope s_P_pads_of) "length" := nm_of (by decide +kernel)
theorem nl_P_pads_of_length : Nl (defScope s_P_pads_of) "length" := nl_of (by decide +kernel)
theorem lo_P_pads_of_length : (defScope s_P_pads_of).names.lookup ("length" : Str) = some .local := by decide +kernel
theorem nm_P_pads_of_width : Nm (defScope s_P_pads_of) "width" := nm_of (by decide +kernel)
theorem nl_P_pads_of_width : Nl (defScope s_P_pads_of) "width" := nl_of (by decide +kernel)
theorem lo_P_pads_of_width : (defScope s_P_pads_of).names.lookup ("width" : Str) = some .local := by decide +kernel
theorem nm_P_pads_of_side : Nm (defScope s_P_pads_of) "side" := nm_of (by decide +kernel)
theorem nl_P_pads_of_side : Nl (defScope s_P_pads_of) "side" := nl_of (by decide +kernel)
theorem lo_P_pads_of_side : (defScope s_P_pads_of).names.lookup ("side" : Str) = some .local := by decide +kernel
theorem nm_P_pads_of_lacks : Nm (defScope s_P_pads_of) "lacks" := nm_of (by decide +kernel)
theorem nl_P_pads_of_lacks : Nl (defScope s_P_pads_of) "lacks" := nl_of (by decide +kernel)
theorem lo_P_pads_of_lacks : (defScope s_P_pads_of).names.lookup ("lacks" : Str) = some .local := by decide +kernel
theorem ng_P_pads_of_max : Ng (defScope s_P_pads_of) "max" := ng_of (by decide +kernel)
abbrev s_P_padded : Stmt := top 49
abbrev N_P_padded : List Str := ["text", "width", "fill", "side", "ahead", "behind"]
abbrev A_P_padded : List Str := ["text", "width", "fill", "side"]
theorem sc_P_padded : FnScope N_P_padded A_P_padded (defScope s_P_padded) := ⟨rfl, rfl, rfl, by decide +kernel, rfl, by decide +kernel, by decide +kernel⟩
theorem nm_P_padded_text : Nm (defScope s_P_padded) "text" := nm_of (by decide +kernel)
theorem nl_P_padded_text : Nl (defScope s_P_padded) "text" := nl_of (by decide +kernel)
theorem lo_P_padded_text : (defScope s_P_padded).names.lookup ("text" : Str) = some .local := by decide +kernel
theorem nm_P_padded_width : Nm (defScope s_P_padded) "width" := nm_of (by decide +kernel)
theorem nl_P_padded_width : Nl (defScope s_P_padded) "width" := nl_of (by decide +kernel)
theorem lo_P_padded_width : (defScope s_P_padded).names.lookup ("width" : Str) = some .local := by decide +kernel
theorem nm_P_padded_fill : Nm (defScope s_P_padded) "fill" := nm_of (by decide +kernel)
theorem nl_P_padded_fill : Nl (defScope s_P_padded) "fill" := nl_of (by decide +kernel)
theorem lo_P_padded_fill : (defScope s_P_padded).names.lookup ("fill" : Str) = some .local := by decide +kernel
theorem nm_P_padded_side : Nm (defScope s_P_padded) "side" := nm_of (by decide +kernel)
theorem nl_P_padded_side : Nl (defScope s_P_padded) "side" := nl_of (by decide +kernel)
theorem lo_P_padded_side : (defScope s_P_padded).names.lookup ("side" : Str) = some .local := by decide +kernel
theorem nm_P_padded_ahead : Nm (defScope s_P_padded) "ahead" := nm_of (by decide +kernel)
theorem nl_P_padded_ahead : Nl (defScope s_P_padded) "ahead" := nl_of (by decide +kernel)
theorem lo_P_padded_ahead : (defScope s_P_padded).names.lookup ("ahead" : Str) = some .local := by decide +kernel
theorem nm_P_padded_behind : Nm (defScope s_P_padded) "behind" := nm_of (by decide +kernel)
theorem nl_P_padded_behind : Nl (defScope s_P_padded) "behind" := nl_of (by decide +kernel)
theorem lo_P_padded_behind : (defScope s_P_padded).names.lookup ("behind" : Str) = some .local := by decide +kernel
theorem ng_P_padded_pads_of : Ng (defScope s_P_padded) "pads_of" := ng_of (by decide +kernel)
theorem ng_P_padded_len : Ng (defScope s_P_padded) "len" := ng_of (by decide +kernel)
abbrev s_P_padded_inside : Stmt := top 50
abbrev N_P_padded_inside : List Str := ["lead", "rest", "width", "fill", "ahead", "behind"]
abbrev A_P_padded_inside : List Str := ["lead", "rest", "width", "fill"]
theorem sc_P_padded_inside : FnScope N_P_padded_inside A_P_padded_inside (defScope s_P_padded_inside) := ⟨rfl, rfl, rfl, by decide +kernel, rfl, by decide +kernel, by decide +kernel⟩
theorem nm_P_padded_inside_lead : Nm (defScope s_P_padded_inside) "lead" := nm_of (by decide +kernel)
theorem nl_P_padded_inside_lead : Nl (defScope s_P_padded_inside) "lead" := nl_of (by decide +kernel)
theorem lo_P_padded_inside_lead : (defScope s_P_padded_inside).names.lookup ("lead" : Str) = some .local := by decide +kernel
theorem nm_P_padded_inside_rest : Nm (defScope s_P_padded_inside) "rest" := nm_of (by decide +kernel)
theorem nl_P_padded_inside_rest : Nl (defScope s_P_padded_inside) "rest" := nl_of (by decide +kernel)
theorem lo_P_padded_inside_rest : (defScope s_P_padded_inside).names.lookup ("rest" : Str) = some .local := by decide +kernel
theorem nm_P_padded_inside_width : Nm (defScope s_P_padded_inside) "width" := nm_of (by decide +kernel)
theorem nl_P_padded_inside_width : Nl (defScope s_P_padded_inside) "width" := nl_of (by decide +kernel)
theorem lo_P_padded_inside_width : (defScope s_P_padded_inside).names.lookup ("width" : Str) = some .local := by decide +kernel
theorem nm_P_padded_inside_fill : Nm (defScope s_P_padded_inside) "fill" := nm_of (by decide +kernel)
theorem nl_P_padded_inside_fill : Nl (defScope s_P_padded_inside) "fill" := nl_of (by decide +kernel)
theorem lo_P_padded_inside_fill : (defScope s_P_padded_inside).names.lookup ("fill" : Str) = some .local := by decide +kernel
theorem nm_P_padded_inside_ahead : Nm (defScope s_P_padded_inside) "ahead" := nm_of (by decide +kernel)
theorem nl_P_padded_inside_ahead : Nl (defScope s_P_padded_inside) "ahead" := nl_of (by decide +kernel)
theorem lo_P_padded_inside_ahead : (defScope s_P_padded_inside).names.lookup ("ahead" : Str) = some .local := by decide +kernel
theorem nm_P_padded_inside_behind : Nm (defScope s_P_padded_inside) "behind" := nm_of (by decide +kernel)
theorem nl_P_padded_inside_behind : Nl (defScope s_P_padded_inside) "behind" := nl_of (by decide +kernel)
theorem lo_P_padded_inside_behind : (defScope s_P_padded_inside).names.lookup ("behind" : Str) = some .local := by decide +kernel
theorem ng_P_padded_inside_pads_of : Ng (defScope s_P_padded_inside) "pads_of" := ng_of (by decide +kernel)
theorem ng_P_padded_inside_len : Ng (defScope s_P_padded_inside) "len" := ng_of (by decide +kernel)
abbrev s_P_stripped : Stmt := top 52
abbrev N_P_stripped : List Str := ["text", "width", "fill", "side", "found", "length", "ahead", "within"]
abbrev A_P_stripped : List Str := ["text", "width", "fill", "side"]
theorem sc_P_stripped : FnScope N_P_stripped A_P_stripped (defScope s_P_stripped) := ⟨rfl, rfl, rfl, by decide +kernel, rfl, by decide +kernel, by decide +kernel⟩
theorem nm_P_stripped_text : Nm (defScope s_P_stripped) "text" := nm_of (by decide +kernel)
theorem nl_P_stripped_text : Nl (defScope s_P_stripped) "text" := nl_of (by decide +kernel)
theorem lo_P_stripped_text : (defScope s_P_stripped).names.lookup ("text" : Str) = some .local := by decide +kernel
theorem nm_P_stripped_width : Nm (defScope s_P_stripped) "width" := nm_of (by decide +kernel)
theorem nl_P_stripped_width : Nl (defScope s_P_stripped) "width" := nl_of (by decide +kernel)
theorem lo_P_stripped_width : (defScope s_P_stripped).names.lookup ("width" : Str) = some .local := by decide +kernel
theorem nm_P_stripped_fill : Nm (defScope s_P_stripped) "fill" := nm_of (by decide +kernel)
theorem nl_P_stripped_fill : Nl (defScope s_P_stripped) "fill" := nl_of (by decide +kernel)
theorem lo_P_stripped_fill : (defScope s_P_stripped).names.lookup ("fill" : Str) = some .local := by decide +kernel
theorem nm_P_stripped_side : Nm (defScope s_P_stripped) "side" := nm_of (by decide +kernel)
theorem nl_P_stripped_side : Nl (defScope s_P_stripped) "side" := nl_of (by decide +kernel)
theorem lo_P_stripped_side : (defScope s_P_stripped).names.lookup ("side" : Str) = some .local := by decide +kernel
theorem nm_P_stripped_found : Nm (defScope s_P_stripped) "found" := nm_of (by decide +kernel)
theorem nl_P_stripped_found : Nl (defScope s_P_stripped) "found" := nl_of (by decide +kernel)
theorem lo_P_stripped_found : (defScope s_P_stripped).names.lookup ("found" : Str) = some .local := by decide +kernel
theorem nm_P_stripped_length : Nm (defScope s_P_stripped) "length" := nm_of (by decide +kernel)
theorem nl_P_stripped_length : Nl (defScope s_P_stripped) "length" := nl_of (by decide +kernel)
theorem lo_P_stripped_length : (defScope s_P_stripped).names.lookup ("length" : Str) = some .local := by decide +kernel
theorem nm_P_stripped_ahead : Nm (defScope s_P_stripped) "ahead" := nm_of (by decide +kernel)
theorem nl_P_stripped_ahead : Nl (defScope s_P_stripped) "ahead" := nl_of (by decide +kernel)
theorem lo_P_stripped_ahead : (defScope s_P_stripped).names.lookup ("ahead" : Str) = some .local := by decide +kernel
theorem nm_P_stripped_within : Nm (defScope s_P_stripped) "within" := nm_of (by decide +kernel)
theorem nl_P_stripped_within : Nl (defScope s_P_stripped) "within" := nl_of (by decide +kernel)
theorem lo_P_stripped_within : (defScope s_P_stripped).names.lookup ("within" : Str) = some .local := by decide +kernel
theorem ng_P_stripped_range : Ng (defScope s_P_stripped) "range" := ng_of (by decide +kernel)
theorem ng_P_stripped_len : Ng (defScope s_P_stripped) "len" := ng_of (by decide +kernel)
theorem ng_P_stripped_pads_of : Ng (defScope s_P_stripped) "pads_of" := ng_of (by decide +kernel)
theorem ng_P_stripped_padded : Ng (defScope s_P_stripped) "padded" := ng_of (by decide +kernel)
abbrev s_P_stripped_inside : Stmt := top 53
abbrev N_P_stripped_inside : List Str := ["text", "lead", "width", "fill", "found", "length", "rest"]
abbrev A_P_stripped_inside : List Str := ["text", "lead", "width", "fill"]
theorem sc_P_stripped_inside : FnScope N_P_stripped_inside A_P_stripped_inside (defScope s_P_stripped_inside) := ⟨rfl, rfl, rfl, by decide +kernel, rfl, by decide +kernel, by decide +kernel⟩
theorem nm_P_stripped_inside_text : Nm (defScope s_P_stripped_inside) "text" := nm_of (by decide +kernel)
theorem nl_P_stripped_inside_text : Nl (defScope s_P_stripped_inside) "text" := nl_of (by decide +kernel)
theorem lo_P_stripped_inside_text : (defScope s_P_stripped_inside).names.lookup ("text" : Str) = some .local := by decide +kernel
theorem nm_P_stripped_inside_lead : Nm (defScope s_P_stripped_inside) "lead" := nm_of (by decide +kernel)
theorem nl_P_stripped_inside_lead : Nl (defScope s_P_stripped_inside) "lead" := nl_of (by decide +kernel)
theorem lo_P_stripped_inside_lead : (defScope s_P_stripped_inside).names.lookup ("lead" : Str) = some .local := by decide +kernel
theorem nm_P_stripped_inside_width : Nm (defScope s_P_stripped_inside) "width" := nm_of (by decide +kernel)
theorem nl_P_stripped_inside_width : Nl (defScope s_P_stripped_inside) "width" := nl_of (by decide +kernel)
theorem lo_P_stripped_inside_width : (defScope s_P_stripped_inside).names.lookup ("width" : Str) = some .local := by decide +kernel
theorem nm_P_stripped_inside_fill : Nm (defScope s_P_stripped_inside) "fill" := nm_of (by decide +kernel)
theorem nl_P_stripped_inside_fill : Nl (defScope s_P_stripped_inside) "fill" := nl_of (by decide +kernel)
theorem lo_P_stripped_inside_fill : (defScope s_P_stripped_inside).names.lookup ("fill" : Str) = some .local := by decide +kernel
theorem nm_P_stripped_inside_found : Nm (defScope s_P_stripped_inside) "found" := nm_of (by decide +kernel)
theorem nl_P_stripped_inside_found : Nl (defScope s_P_stripped_inside) "found" := nl_of (by decide +kernel)
theorem lo_P_stripped_inside_found : (defScope s_P_stripped_inside).names.lookup ("found" : Str) = some .local := by decide +kernel
theorem nm_P_stripped_inside_length : Nm (defScope s_P_stripped_inside) "length" := nm_of (by decide +kernel)
theorem nl_P_stripped_inside_length : Nl (defScope s_P_stripped_inside) "length" := nl_of (by decide +kernel)
theorem lo_P_stripped_inside_length : (defScope s_P_stripped_inside).names.lookup ("length" : Str) = some .local := by decide +kernel
theorem nm_P_stripped_inside_rest : Nm (defScope s_P_stripped_inside) "rest" := nm_of (by decide +kernel)
theorem nl_P_stripped_inside_rest : Nl (defScope s_P_stripped_inside) "rest" := nl_of (by decide +kernel)
theorem lo_P_stripped_inside_rest : (defScope s_P_stripped_inside).names.lookup ("rest" : Str) = some .local := by decide +kernel
theorem ng_P_stripped_inside_range : Ng (defScope s_P_stripped_inside) "range" := ng_of (by decide +kernel)
theorem ng_P_stripped_inside_len : Ng (defScope s_P_stripped_inside) "len" := ng_of (by decide +kernel)
theorem ng_P_stripped_inside_padded_inside : Ng (defScope s_P_stripped_inside) "padded_inside" := ng_of (by decide +kernel)
abbrev s_P_NumberForm___init__ : Stmt := inClass (top 55) 0
abbrev N_P_NumberForm___init__ : List Str := ["self", "figures", "places", "base", "sign", "size", "mark", "point", "way", "width", "fill", "side", "strict"]
abbrev A_P_NumberForm___init__ : List Str := ["self", "figures", "places", "base", "sign", "size", "mark", "point", "way", "width", "fill", "side", "strict"]
theorem sc_P_NumberForm___init__ : FnScope N_P_NumberForm___init__ A_P_NumberForm___init__ (defScope s_P_NumberForm___init__) := ⟨rfl, rfl, rfl, by decide +kernel, rfl, by decide +kernel, by decide +kernel⟩
theorem nm_P_NumberForm___init___self : Nm (defScope s_P_NumberForm___init__) "self" := nm_of (by decide +kernel)
theorem nl_P_NumberForm___init___self : Nl (defScope s_P_NumberForm___init__) "self" := nl_of (by decide +kernel)
theorem lo_P_NumberForm___init___self : (defScope s_P_NumberForm___init__).names.lookup ("self" : Str) = some .local := by decide +kernel
theorem nm_P_NumberForm___init___figures : Nm (defScope s_P_NumberForm___init__) "figures" := nm_of (by decide +kernel)
theorem nl_P_NumberForm___init___figures : Nl (defScope s_P_NumberForm___init__) "figures" := nl_of (by decide +kernel)
theorem lo_P_NumberForm___init___figures : (defScope s_P_NumberForm___init__).names.lookup ("figures" : Str) = some .local := by decide +kernel
theorem nm_P_NumberForm___init___places : Nm (defScope s_P_NumberForm___init__) "places" := nm_of (by decide +kernel)
theorem nl_P_NumberForm___init___places : Nl (defScope s_P_NumberForm___init__) "places" := nl_of (by decide +kernel)
theorem lo_P_NumberForm___init___places : (defScope s_P_NumberForm___init__).names.lookup ("places" : Str) = some .local := by decide +kernel
theorem nm_P_NumberForm___init___base : Nm (defScope s_P_NumberForm___init__) "base" := nm_of (by decide +kernel)
theorem nl_P_NumberForm___init___base : Nl (defScope s_P_NumberForm___init__) "base" := nl_of (by decide +kernel)
theorem lo_P_NumberForm___init___base : (defScope s_P_NumberForm___init__).names.lookup ("base" : Str) = some .local := by decide +kernel
theorem nm_P_NumberForm___init___sign : Nm (defScope s_P_NumberForm___init__) "sign" := nm_of (by decide +kernel)
theorem nl_P_NumberForm___init___sign : Nl (defScope s_P_NumberForm___init__) "sign" := nl_of (by decide +kernel)
theorem lo_P_NumberForm___init___sign : (defScope s_P_NumberForm___init__).names.lookup ("sign" : Str) = some .local := by decide +kernel
theorem nm_P_NumberForm___init___size : Nm (defScope s_P_NumberForm___init__) "size" := nm_of (by decide +kernel)
theorem nl_P_NumberForm___init___size : Nl (defScope s_P_NumberForm___init__) "size" := nl_of (by decide +kernel)
theorem lo_P_NumberForm___init___size : (defScope s_P_NumberForm___init__).names.lookup ("size" : Str) = some .local := by decide +kernel
theorem nm_P_NumberForm___init___mark : Nm (defScope s_P_NumberForm___init__) "mark" := nm_of (by decide +kernel)
theorem nl_P_NumberForm___init___mark : Nl (defScope s_P_NumberForm___init__) "mark" := nl_of (by decide +kernel)
theorem lo_P_NumberForm___init___mark : (defScope s_P_NumberForm___init__).names.lookup ("mark" : Str) = some .local := by decide +kernel
theorem nm_P_NumberForm___init___point : Nm (defScope s_P_NumberForm___init__) "point" := nm_of (by decide +kernel)
theorem nl_P_NumberForm___init___point : Nl (defScope s_P_NumberForm___init__) "point" := nl_of (by decide +kernel)
theorem lo_P_NumberForm___init___point : (defScope s_P_NumberForm___init__).names.lookup ("point" : Str) = some .local := by decide +kernel
theorem nm_P_NumberForm___init___way : Nm (defScope s_P_NumberForm___init__) "way" := nm_of (by decide +kernel)
theorem nl_P_NumberForm___init___way : Nl (defScope s_P_NumberForm___init__) "way" := nl_of (by decide +kernel)
theorem lo_P_NumberForm___init___way : (defScope s_P_NumberForm___init__).names.lookup ("way" : Str) = some .local := by decide +kernel
theorem nm_P_NumberForm___init___width : Nm (defScope s_P_NumberForm___init__) "width" := nm_of (by decide +kernel)
theorem nl_P_NumberForm___init___width : Nl (defScope s_P_NumberForm___init__) "width" := nl_of (by decide +kernel)
theorem lo_P_NumberForm___init___width : (defScope s_P_NumberForm___init__).names.lookup ("width" : Str) = some .local := by decide +kernel
theorem nm_P_NumberForm___init___fill : Nm (defScope s_P_NumberForm___init__) "fill" := nm_of (by decide +kernel)
theorem nl_P_NumberForm___init___fill : Nl (defScope s_P_NumberForm___init__) "fill" := nl_of (by decide +kernel)
theorem lo_P_NumberForm___init___fill : (defScope s_P_NumberForm___init__).names.lookup ("fill" : Str) = some .local := by decide +kernel
theorem nm_P_NumberForm___init___side : Nm (defScope s_P_NumberForm___init__) "side" := nm_of (by decide +kernel)
theorem nl_P_NumberForm___init___side : Nl (defScope s_P_NumberForm___init__) "side" := nl_of (by decide +kernel)
theorem lo_P_NumberForm___init___side : (defScope s_P_NumberForm___init__).names.lookup ("side" : Str) = some .local := by decide +kernel
theorem nm_P_NumberForm___init___strict : Nm (defScope s_P_NumberForm___init__) "strict" := nm_of (by decide +kernel)
theorem nl_P_NumberForm___init___strict : Nl (defScope s_P_NumberForm___init__) "strict" := nl_of (by decide +kernel)
theorem lo_P_NumberForm___init___strict : (defScope s_P_NumberForm___init__).names.lookup ("strict" : Str) = some .local := by decide +kernel
theorem ng_P_NumberForm___init___Form : Ng (defScope s_P_NumberForm___init__) "Form" := ng_of (by decide +kernel)
abbrev s_P_NumberForm_rests_in : Stmt := inClass (top 55) 5
abbrev N_P_NumberForm_rests_in : List Str := ["self", "text", "lead", "cores", "core"]
abbrev A_P_NumberForm_rests_in : List Str := ["self", "text", "lead"]
theorem sc_P_NumberForm_rests_in : FnScope N_P_NumberForm_rests_in A_P_NumberForm_rests_in (defScope s_P_NumberForm_rests_in) := ⟨rfl, rfl, rfl, by decide +kernel, rfl, by decide +kernel, by decide +kernel⟩
theorem nm_P_NumberForm_rests_in_self : Nm (defScope s_P_NumberForm_rests_in) "self" := nm_of (by decide +kernel)
theorem nl_P_NumberForm_rests_in_self : Nl (defScope s_P_NumberForm_rests_in) "self" := nl_of (by decide +kernel)
theorem lo_P_NumberForm_rests_in_self : (defScope s_P_NumberForm_rests_in).names.lookup ("self" : Str) = some .local := by decide +kernel
theorem nm_P_NumberForm_rests_in_text : Nm (defScope s_P_NumberForm_rests_in) "text" := nm_of (by decide +kernel)
theorem nl_P_NumberForm_rests_in_text : Nl (defScope s_P_NumberForm_rests_in) "text" := nl_of (by decide +kernel)
theorem lo_P_NumberForm_rests_in_text : (defScope s_P_NumberForm_rests_in).names.lookup ("text" : Str) = some .local := by decide +kernel
theorem nm_P_NumberForm_rests_in_lead : Nm (defScope s_P_NumberForm_rests_in) "lead" := nm_of (by decide +kernel)
theorem nl_P_NumberForm_rests_in_lead : Nl (defScope s_P_NumberForm_rests_in) "lead" := nl_of (by decide +kernel)
theorem nm_P_NumberForm_rests_in_cores : Nm (defScope s_P_NumberForm_rests_in) "cores" := nm_of (by decide +kernel)
theorem nl_P_NumberForm_rests_in_cores : Nl (defScope s_P_NumberForm_rests_in) "cores" := nl_of (by decide +kernel)
theorem lo_P_NumberForm_rests_in_cores : (defScope s_P_NumberForm_rests_in).names.lookup ("cores" : Str) = some .local := by decide +kernel
theorem ng_P_NumberForm_rests_in_stripped_inside : Ng (defScope s_P_NumberForm_rests_in) "stripped_inside" := ng_of (by decide +kernel)
theorem ng_P_NumberForm_rests_in_stripped : Ng (defScope s_P_NumberForm_rests_in) "stripped" := ng_of (by decide +kernel)
abbrev s_P_NumberForm_steps_in : Stmt := inClass (top 55) 6
abbrev N_P_NumberForm_steps_in : List Str := ["self", "body", "steps"]
abbrev A_P_NumberForm_steps_in : List Str := ["self", "body"]
theorem sc_P_NumberForm_steps_in : FnScope N_P_NumberForm_steps_in A_P_NumberForm_steps_in (defScope s_P_NumberForm_steps_in) := ⟨rfl, rfl, rfl, by decide +kernel, rfl, by decide +kernel, by decide +kernel⟩
theorem nm_P_NumberForm_steps_in_self : Nm (defScope s_P_NumberForm_steps_in) "self" := nm_of (by decide +kernel)
theorem nl_P_NumberForm_steps_in_self : Nl (defScope s_P_NumberForm_steps_in) "self" := nl_of (by decide +kernel)
theorem lo_P_NumberForm_steps_in_self : (defScope s_P_NumberForm_steps_in).names.lookup ("self" : Str) = some .local := by decide +kernel
theorem nm_P_NumberForm_steps_in_body : Nm (defScope s_P_NumberForm_steps_in) "body" := nm_of (by decide +kernel)
theorem nl_P_NumberForm_steps_in_body : Nl (defScope s_P_NumberForm_steps_in) "body" := nl_of (by decide +kernel)
theorem lo_P_NumberForm_steps_in_body : (defScope s_P_NumberForm_steps_in).names.lookup ("body" : Str) = some .local := by decide +kernel
theorem nm_P_NumberForm_steps_in_steps : Nm (defScope s_P_NumberForm_steps_in) "steps" := nm_of (by decide +kernel)
theorem nl_P_NumberForm_steps_in_steps : Nl (defScope s_P_NumberForm_steps_in) "steps" := nl_of (by decide +kernel)
theorem lo_P_NumberForm_steps_in_steps : (defScope s_P_NumberForm_steps_in).names.lookup ("steps" : Str) = some .local := by decide +kernel
theorem ng_P_NumberForm_steps_in_number_in : Ng (defScope s_P_NumberForm_steps_in) "number_in" := ng_of (by decide +kernel)
theorem ng_P_NumberForm_steps_in_NoBody : Ng (defScope s_P_NumberForm_steps_in) "NoBody" := ng_of (by decide +kernel)
theorem ng_P_NumberForm_steps_in_power_of : Ng (defScope s_P_NumberForm_steps_in) "power_of" := ng_of (by decide +kernel)
abbrev s_P_NumberForm_all_steps : Stmt := inClass (top 55) 7
abbrev N_P_NumberForm_all_steps : List Str := ["self", "text", "is_below", "lead", "tail", "found", "rest", "steps"]
abbrev A_P_NumberForm_all_steps : List Str := ["self", "text", "is_below"]
theorem sc_P_NumberForm_all_steps : FnScope N_P_NumberForm_all_steps A_P_NumberForm_all_steps (defScope s_P_NumberForm_all_steps) := ⟨rfl, rfl, rfl, by decide +kernel, rfl, by decide +kernel, by decide +kernel⟩
theorem nm_P_NumberForm_all_steps_self : Nm (defScope s_P_NumberForm_all_steps) "self" := nm_of (by decide +kernel)
theorem nl_P_NumberForm_all_steps_self : Nl (defScope s_P_NumberForm_all_steps) "self" := nl_of (by decide +kernel)
theorem lo_P_NumberForm_all_steps_self : (defScope s_P_NumberForm_all_steps).names.lookup ("self" : Str) = some .local := by decide +kernel
theorem nm_P_NumberForm_all_steps_text : Nm (defScope s_P_NumberForm_all_steps) "text" := nm_of (by decide +kernel)
theorem nl_P_NumberForm_all_steps_text : Nl (defScope s_P_NumberForm_all_steps) "text" := nl_of (by decide +kernel)
theorem lo_P_NumberForm_all_steps_text : (defScope s_P_NumberForm_all_steps).names.lookup ("text" : Str) = some .local := by decide +kernel
theorem nm_P_NumberForm_all_steps_is_below : Nm (defScope s_P_NumberForm_all_steps) "is_below" := nm_of (by decide +kernel)
theorem nl_P_NumberForm_all_steps_is_below : Nl (defScope s_P_NumberForm_all_steps) "is_below" := nl_of (by decide +kernel)
theorem lo_P_NumberForm_all_steps_is_below : (defScope s_P_NumberForm_all_steps).names.lookup ("is_below" : Str) = some .local := by decide +kernel
theorem nm_P_NumberForm_all_steps_lead : Nm (defScope s_P_NumberForm_all_steps) "lead" := nm_of (by decide +kernel)
theorem nl_P_NumberForm_all_steps_lead : Nl (defScope s_P_NumberForm_all_steps) "lead" := nl_of (by decide +kernel)
theorem lo_P_NumberForm_all_steps_lead : (defScope s_P_NumberForm_all_steps).names.lookup ("lead" : Str) = some .local := by decide +kernel
theorem nm_P_NumberForm_all_steps_tail : Nm (defScope s_P_NumberForm_all_steps) "tail" := nm_of (by decide +kernel)
theorem nl_P_NumberForm_all_steps_tail : Nl (defScope s_P_NumberForm_all_steps) "tail" := nl_of (by decide +kernel)
theorem lo_P_NumberForm_all_steps_tail : (defScope s_P_NumberForm_all_steps).names.lookup ("tail" : Str) = some .local := by decide +kernel
theorem nm_P_NumberForm_all_steps_found : Nm (defScope s_P_NumberForm_all_steps) "found" := nm_of (by decide +kernel)
theorem nl_P_NumberForm_all_steps_found : Nl (defScope s_P_NumberForm_all_steps) "found" := nl_of (by decide +kernel)
theorem lo_P_NumberForm_all_steps_found : (defScope s_P_NumberForm_all_steps).names.lookup ("found" : Str) = some .local := by decide +kernel
theorem nm_P_NumberForm_all_steps_rest : Nm (defScope s_P_NumberForm_all_steps) "rest" := nm_of (by decide +kernel)
theorem nl_P_NumberForm_all_steps_rest : Nl (defScope s_P_NumberForm_all_steps) "rest" := nl_of (by decide +kernel)
theorem lo_P_NumberForm_all_steps_rest : (defScope s_P_NumberForm_all_steps).names.lookup ("rest" : Str) = some .local := by decide +kernel
theorem nm_P_NumberForm_all_steps_steps : Nm (defScope s_P_NumberForm_all_steps) "steps" := nm_of (by decide +kernel)
theorem nl_P_NumberForm_all_steps_steps : Nl (defScope s_P_NumberForm_all_steps) "steps" := nl_of (by decide +kernel)
theorem lo_P_NumberForm_all_steps_steps : (defScope s_P_NumberForm_all_steps).names.lookup ("steps" : Str) = some .local := by decide +kernel
theorem ng_P_NumberForm_all_steps_ends_of : Ng (defScope s_P_NumberForm_all_steps) "ends_of" := ng_of (by decide +kernel)
theorem ng_P_NumberForm_all_steps_too_long : Ng (defScope s_P_NumberForm_all_steps) "too_long" := ng_of (by decide +kernel)
theorem ng_P_NumberForm_all_steps_len : Ng (defScope s_P_NumberForm_all_steps) "len" := ng_of (by decide +kernel)
abbrev s_P_NumberForm_values_for : Stmt := inClass (top 55) 8
abbrev N_P_NumberForm_values_for : List Str := ["self", "text", "found", "steps"]
abbrev A_P_NumberForm_values_for : List Str := ["self", "text"]
theorem sc_P_NumberForm_values_for : FnScope N_P_NumberForm_values_for A_P_NumberForm_values_for (defScope s_P_NumberForm_values_for) := ⟨rfl, rfl, rfl, by decide +kernel, rfl, by decide +kernel, by decide +kernel⟩
theorem nm_P_NumberForm_values_for_self : Nm (defScope s_P_NumberForm_values_for) "self" := nm_of (by decide +kernel)
theorem nl_P_NumberForm_values_for_self : Nl (defScope s_P_NumberForm_values_for) "self" := nl_of (by decide +kernel)
theorem nm_P_NumberForm_values_for_text : Nm (defScope s_P_NumberForm_values_for) "text" := nm_of (by decide +kernel)
theorem nl_P_NumberForm_values_for_text : Nl (defScope s_P_NumberForm_values_for) "text" := nl_of (by decide +kernel)
theorem lo_P_NumberForm_values_for_text : (defScope s_P_NumberForm_values_for).names.lookup ("text" : Str) = some .local := by decide +kernel
theorem nm_P_NumberForm_values_for_found : Nm (defScope s_P_NumberForm_values_for) "found" := nm_of (by decide +kernel)
theorem nl_P_NumberForm_values_for_found : Nl (defScope s_P_NumberForm_values_for) "found" := nl_of (by decide +kernel)
theorem lo_P_NumberForm_values_for_found : (defScope s_P_NumberForm_values_for).names.lookup ("found" : Str) = some .local := by decide +kernel
theorem ng_P_NumberForm_values_for_sorted : Ng (defScope s_P_NumberForm_values_for) "sorted" := ng_of (by decide +kernel)
abbrev s_P_NumberForm_value_of : Stmt := inClass (top 55) 9
abbrev N_P_NumberForm_value_of : List Str := ["self", "text"]
abbrev A_P_NumberForm_value_of : List Str := ["self", "text"]
theorem sc_P_NumberForm_value_of : FnScope N_P_NumberForm_value_of A_P_NumberForm_value_of (defScope s_P_NumberForm_value_of) := ⟨rfl, rfl, rfl, by decide +kernel, rfl, by decide +kernel, by decide +kernel⟩
theorem nm_P_NumberForm_value_of_self : Nm (defScope s_P_NumberForm_value_of) "self" := nm_of (by decide +kernel)
theorem nl_P_NumberForm_value_of_self : Nl (defScope s_P_NumberForm_value_of) "self" := nl_of (by decide +kernel)
theorem lo_P_NumberForm_value_of_self : (defScope s_P_NumberForm_value_of).names.lookup ("self" : Str) = some .local := by decide +kernel
theorem nm_P_NumberForm_value_of_text : Nm (defScope s_P_NumberForm_value_of) "text" := nm_of (by decide +kernel)
theorem nl_P_NumberForm_value_of_text : Nl (defScope s_P_NumberForm_value_of) "text" := nl_of (by decide +kernel)
theorem lo_P_NumberForm_value_of_text : (defScope s_P_NumberForm_value_of).names.lookup ("text" : Str) = some .local := by decide +kernel
theorem ng_P_NumberForm_value_of_only_one : Ng (defScope s_P_NumberForm_value_of) "only_one" := ng_of (by decide +kernel)
abbrev s_P_cores_in : Stmt := top 58
abbrev N_P_cores_in : List Str := ["form", "text", "cores", "core"]
abbrev A_P_cores_in : List Str := ["form", "text"]
theorem sc_P_cores_in : FnScope N_P_cores_in A_P_cores_in (defScope s_P_cores_in) := ⟨rfl, rfl, rfl, by decide +kernel, rfl, by decide +kernel, by decide +kernel⟩
theorem nm_P_cores_in_form : Nm (defScope s_P_cores_in) "form" := nm_of (by decide +kernel)
theorem nl_P_cores_in_form : Nl (defScope s_P_cores_in) "form" := nl_of (by decide +kernel)
theorem nm_P_cores_in_text : Nm (defScope s_P_cores_in) "text" := nm_of (by decide +kernel)
theorem nl_P_cores_in_text : Nl (defScope s_P_cores_in) "text" := nl_of (by decide +kernel)
theorem lo_P_cores_in_text : (defScope s_P_cores_in).names.lookup ("text" : Str) = some .local := by decide +kernel
theorem nm_P_cores_in_cores : Nm (defScope s_P_cores_in) "cores" := nm_of (by decide +kernel)
theorem nl_P_cores_in_cores : Nl (defScope s_P_cores_in) "cores" := nl_of (by decide +kernel)
theorem lo_P_cores_in_cores : (defScope s_P_cores_in).names.lookup ("cores" : Str) = some .local := by decide +kernel
theorem ng_P_cores_in_stripped : Ng (defScope s_P_cores_in) "stripped" := ng_of (by decide +kernel)
abbrev s_P_WordForm___init__ : Stmt := inClass (top 59) 0
abbrev N_P_WordForm___init__ : List Str := ["self", "signs", "least", "most", "width", "fill", "side", "strict"]
abbrev A_P_WordForm___init__ : List Str := ["self", "signs", "least", "most", "width", "fill", "side", "strict"]
theorem sc_P_WordForm___init__ : FnScope N_P_WordForm___init__ A_P_WordForm___init__ (defScope s_P_WordForm___init__) := ⟨rfl, rfl, rfl, by decide +kernel, rfl, by decide +kernel, by decide +kernel⟩
theorem nm_P_WordForm___init___self : Nm (defScope s_P_WordForm___init__) "self" := nm_of (by decide +kernel)
theorem nl_P_WordForm___init___self : Nl (defScope s_P_WordForm___init__) "self" := nl_of (by decide +kernel)
theorem lo_P_WordForm___init___self : (defScope s_P_WordForm___init__).names.lookup ("self" : Str) = some .local := by decide +kernel
theorem nm_P_WordForm___init___signs : Nm (defScope s_P_WordForm___init__) "signs" := nm_of (by decide +kernel)
theorem nl_P_WordForm___init___signs : Nl (defScope s_P_WordForm___init__) "signs" := nl_of (by decide +kernel)
theorem lo_P_WordForm___init___signs : (defScope s_P_WordForm___init__).names.lookup ("signs" : Str) = some .local := by decide +kernel
theorem nm_P_WordForm___init___least : Nm (defScope s_P_WordForm___init__) "least" := nm_of (by decide +kernel)
theorem nl_P_WordForm___init___least : Nl (defScope s_P_WordForm___init__) "least" := nl_of (by decide +kernel)
theorem lo_P_WordForm___init___least : (defScope s_P_WordForm___init__).names.lookup ("least" : Str) = some .local := by decide +kernel
theorem nm_P_WordForm___init___most : Nm (defScope s_P_WordForm___init__) "most" := nm_of (by decide +kernel)
theorem nl_P_WordForm___init___most : Nl (defScope s_P_WordForm___init__) "most" := nl_of (by decide +kernel)
theorem lo_P_WordForm___init___most : (defScope s_P_WordForm___init__).names.lookup ("most" : Str) = some .local := by decide +kernel
theorem nm_P_WordForm___init___width : Nm (defScope s_P_WordForm___init__) "width" := nm_of (by decide +kernel)
theorem nl_P_WordForm___init___width : Nl (defScope s_P_WordForm___init__) "width" := nl_of (by decide +kernel)
theorem lo_P_WordForm___init___width : (defScope s_P_WordForm___init__).names.lookup ("width" : Str) = some .local := by decide +kernel
theorem nm_P_WordForm___init___fill : Nm (defScope s_P_WordForm___init__) "fill" := nm_of (by decide +kernel)
theorem nl_P_WordForm___init___fill : Nl (defScope s_P_WordForm___init__) "fill" := nl_of (by decide +kernel)
theorem lo_P_WordForm___init___fill : (defScope s_P_WordForm___init__).names.lookup ("fill" : Str) = some .local := by decide +kernel
theorem nm_P_WordForm___init___side : Nm (defScope s_P_WordForm___init__) "side" := nm_of (by decide +kernel)
theorem nl_P_WordForm___init___side : Nl (defScope s_P_WordForm___init__) "side" := nl_of (by decide +kernel)
theorem lo_P_WordForm___init___side : (defScope s_P_WordForm___init__).names.lookup ("side" : Str) = some .local := by decide +kernel
theorem nm_P_WordForm___init___strict : Nm (defScope s_P_WordForm___init__) "strict" := nm_of (by decide +kernel)
theorem nl_P_WordForm___init___strict : Nl (defScope s_P_WordForm___init__) "strict" := nl_of (by decide +kernel)
theorem lo_P_WordForm___init___strict : (defScope s_P_WordForm___init__).names.lookup ("strict" : Str) = some .local := by decide +kernel
theorem ng_P_WordForm___init___Form : Ng (defScope s_P_WordForm___init__) "Form" := ng_of (by decide +kernel)
abbrev s_P_WordForm_is_word : Stmt := inClass (top 59) 1
abbrev N_P_WordForm_is_word : List Str := ["self", "thing", "sign"]
abbrev A_P_WordForm_is_word : List Str := ["self", "thing"]
theorem sc_P_WordForm_is_word : FnScope N_P_WordForm_is_word A_P_WordForm_is_word (defScope s_P_WordForm_is_word) := ⟨rfl, rfl, rfl, by decide +kernel, rfl, by decide +kernel, by decide +kernel⟩
theorem nm_P_WordForm_is_word_self : Nm (defScope s_P_WordForm_is_word) "self" := nm_of (by decide +kernel)
theorem nl_P_WordForm_is_word_self : Nl (defScope s_P_WordForm_is_word) "self" := nl_of (by decide +kernel)
theorem lo_P_WordForm_is_word_self : (defScope s_P_WordForm_is_word).names.lookup ("self" : Str) = some .local := by decide +kernel
theorem nm_P_WordForm_is_word_thing : Nm (defScope s_P_WordForm_is_word) "thing" := nm_of (by decide +kernel)
theorem nl_P_WordForm_is_word_thing : Nl (defScope s_P_WordForm_is_word) "thing" := nl_of (by decide +kernel)
theorem lo_P_WordForm_is_word_thing : (defScope s_P_WordForm_is_word).names.lookup ("thing" : Str) = some .local := by decide +kernel
theorem nm_P_WordForm_is_word_sign : Nm (defScope s_P_WordForm_is_word) "sign" := nm_of (by decide +kernel)
theorem nl_P_WordForm_is_word_sign : Nl (defScope s_P_WordForm_is_word) "sign" := nl_of (by decide +kernel)
theorem lo_P_WordForm_is_word_sign : (defScope s_P_WordForm_is_word).names.lookup ("sign" : Str) = some .local := by decide +kernel
theorem ng_P_WordForm_is_word_isinstance : Ng (defScope s_P_WordForm_is_word) "isinstance" := ng_of (by decide +kernel)
theorem ng_P_WordForm_is_word_str : Ng (defScope s_P_WordForm_is_word) "str" := ng_of (by decide +kernel)
theorem ng_P_WordForm_is_word_len : Ng (defScope s_P_WordForm_is_word) "len" := ng_of (by decide +kernel)
abbrev s_P_WordForm_values_for : Stmt := inClass (top 59) 4
abbrev N_P_WordForm_values_for : List Str := ["self", "text", "core"]
abbrev A_P_WordForm_values_for : List Str := ["self", "text"]
theorem sc_P_WordForm_values_for : FnScope N_P_WordForm_values_for A_P_WordForm_values_for (defScope s_P_WordForm_values_for) := ⟨rfl, rfl, rfl, by decide +kernel, rfl, by decide +kernel, by decide +kernel⟩
theorem nm_P_WordForm_values_for_self : Nm (defScope s_P_WordForm_values_for) "self" := nm_of (by decide +kernel)
theorem nl_P_WordForm_values_for_self : Nl (defScope s_P_WordForm_values_for) "self" := nl_of (by decide +kernel)
theorem nm_P_WordForm_values_for_text : Nm (defScope s_P_WordForm_values_for) "text" := nm_of (by decide +kernel)
theorem nl_P_WordForm_values_for_text : Nl (defScope s_P_WordForm_values_for) "text" := nl_of (by decide +kernel)
theorem lo_P_WordForm_values_for_text : (defScope s_P_WordForm_values_for).names.lookup ("text" : Str) = some .local := by decide +kernel
theorem ng_P_WordForm_values_for_sorted : Ng (defScope s_P_WordForm_values_for) "sorted" := ng_of (by decide +kernel)
theorem ng_P_WordForm_values_for_cores_in : Ng (defScope s_P_WordForm_values_for) "cores_in" := ng_of (by decide +kernel)
abbrev s_P_WordForm_value_of : Stmt := inClass (top 59) 5
abbrev N_P_WordForm_value_of : List Str := ["self", "text"]
abbrev A_P_WordForm_value_of : List Str := ["self", "text"]
theorem sc_P_WordForm_value_of : FnScope N_P_WordForm_value_of A_P_WordForm_value_of (defScope s_P_WordForm_value_of) := ⟨rfl, rfl, rfl, by decide +kernel, rfl, by decide +kernel, by decide +kernel⟩
theorem nm_P_WordForm_value_of_self : Nm (defScope s_P_WordForm_value_of) "self" := nm_of (by decide +kernel)
theorem nl_P_WordForm_value_of_self : Nl (defScope s_P_WordForm_value_of) "self" := nl_of (by decide +kernel)
theorem lo_P_WordForm_value_of_self : (defScope s_P_WordForm_value_of).names.lookup ("self" : Str) = some .local := by decide +kernel
theorem nm_P_WordForm_value_of_text : Nm (defScope s_P_WordForm_value_of) "text" := nm_of (by decide +kernel)
theorem nl_P_WordForm_value_of_text : Nl (defScope s_P_WordForm_value_of) "text" := nl_of (by decide +kernel)
theorem lo_P_WordForm_value_of_text : (defScope s_P_WordForm_value_of).names.lookup ("text" : Str) = some .local := by decide +kernel
theorem ng_P_WordForm_value_of_only_one : Ng (defScope s_P_WordForm_value_of) "only_one" := ng_of (by decide +kernel)
abbrev s_P_ChoiceForm___init__ : Stmt := inClass (top 60) 0
abbrev N_P_ChoiceForm___init__ : List Str := ["self", "names", "width", "fill", "side", "strict"]
abbrev A_P_ChoiceForm___init__ : List Str := ["self", "names", "width", "fill", "side", "strict"]
theorem sc_P_ChoiceForm___init__ : FnScope N_P_ChoiceForm___init__ A_P_ChoiceForm___init__ (defScope s_P_ChoiceForm___init__) := ⟨rfl, rfl, rfl, by decide +kernel, rfl, by decide +kernel, by decide +kernel⟩
theorem nm_P_ChoiceForm___init___self : Nm (defScope s_P_ChoiceForm___init__) "self" := nm_of (by decide +kernel)
theorem nl_P_ChoiceForm___init___self : Nl (defScope s_P_ChoiceForm___init__) "self" := nl_of (by decide +kernel)
theorem lo_P_ChoiceForm___init___self : (defScope s_P_ChoiceForm___init__).names.lookup ("self" : Str) = some .local := by decide +kernel
theorem nm_P_ChoiceForm___init___names : Nm (defScope s_P_ChoiceForm___init__) "names" := nm_of (by decide +kernel)
theorem nl_P_ChoiceForm___init___names : Nl (defScope s_P_ChoiceForm___init__) "names" := nl_of (by decide +kernel)
theorem lo_P_ChoiceForm___init___names : (defScope s_P_ChoiceForm___init__).names.lookup ("names" : Str) = some .local := by decide +kernel
theorem nm_P_ChoiceForm___init___width : Nm (defScope s_P_ChoiceForm___init__) "width" := nm_of (by decide +kernel)
theorem nl_P_ChoiceForm___init___width : Nl (defScope s_P_ChoiceForm___init__) "width" := nl_of (by decide +kernel)
theorem lo_P_ChoiceForm___init___width : (defScope s_P_ChoiceForm___init__).names.lookup ("width" : Str) = some .local := by decide +kernel
theorem nm_P_ChoiceForm___init___fill : Nm (defScope s_P_ChoiceForm___init__) "fill" := nm_of (by decide +kernel)
theorem nl_P_ChoiceForm___init___fill : Nl (defScope s_P_ChoiceForm___init__) "fill" := nl_of (by decide +kernel)
theorem lo_P_ChoiceForm___init___fill : (defScope s_P_ChoiceForm___init__).names.lookup ("fill" : Str) = some .local := by decide +kernel
theorem nm_P_ChoiceForm___init___side : Nm (defScope s_P_ChoiceForm___init__) "side" := nm_of (by decide +kernel)
theorem nl_P_ChoiceForm___init___side : Nl (defScope s_P_ChoiceForm___init__) "side" := nl_of (by decide +kernel)
theorem lo_P_ChoiceForm___init___side : (defScope s_P_ChoiceForm___init__).names.lookup ("side" : Str) = some .local := by decide +kernel
theorem nm_P_ChoiceForm___init___strict : Nm (defScope s_P_ChoiceForm___init__) "strict" := nm_of (by decide +kernel)
theorem nl_P_ChoiceForm___init___strict : Nl (defScope s_P_ChoiceForm___init__) "strict" := nl_of (by decide +kernel)
theorem lo_P_ChoiceForm___init___strict : (defScope s_P_ChoiceForm___init__).names.lookup ("strict" : Str) = some .local := by decide +kernel
theorem ng_P_ChoiceForm___init___Form : Ng (defScope s_P_ChoiceForm___init__) "Form" := ng_of (by decide +kernel)
theorem ng_P_ChoiceForm___init___list : Ng (defScope s_P_ChoiceForm___init__) "list" := ng_of (by decide +kernel)
abbrev s_P_ChoiceForm_values_for : Stmt := inClass (top 60) 3
abbrev N_P_ChoiceForm_values_for : List Str := ["self", "text", "cores", "name"]
abbrev A_P_ChoiceForm_values_for : List Str := ["self", "text"]
theorem sc_P_ChoiceForm_values_for : FnScope N_P_ChoiceForm_values_for A_P_ChoiceForm_values_for (defScope s_P_ChoiceForm_values_for) := ⟨rfl, rfl, rfl, by decide +kernel, rfl, by decide +kernel, by decide +kernel⟩
theorem nm_P_ChoiceForm_values_for_self : Nm (defScope s_P_ChoiceForm_values_for) "self" := nm_of (by decide +kernel)
theorem nl_P_ChoiceForm_values_for_self : Nl (defScope s_P_ChoiceForm_values_for) "self" := nl_of (by decide +kernel)
theorem lo_P_ChoiceForm_values_for_self : (defScope s_P_ChoiceForm_values_for).names.lookup ("self" : Str) = some .local := by decide +kernel
theorem nm_P_ChoiceForm_values_for_text : Nm (defScope s_P_ChoiceForm_values_for) "text" := nm_of (by decide +kernel)
theorem nl_P_ChoiceForm_values_for_text : Nl (defScope s_P_ChoiceForm_values_for) "text" := nl_of (by decide +kernel)
theorem lo_P_ChoiceForm_values_for_text : (defScope s_P_ChoiceForm_values_for).names.lookup ("text" : Str) = some .local := by decide +kernel
theorem nm_P_ChoiceForm_values_for_cores : Nm (defScope s_P_ChoiceForm_values_for) "cores" := nm_of (by decide +kernel)
theorem nl_P_ChoiceForm_values_for_cores : Nl (defScope s_P_ChoiceForm_values_for) "cores" := nl_of (by decide +kernel)
theorem ng_P_ChoiceForm_values_for_cores_in : Ng (defScope s_P_ChoiceForm_values_for) "cores_in" := ng_of (by decide +kernel)
abbrev s_P_ChoiceForm_value_of : Stmt := inClass (top 60) 4
abbrev N_P_ChoiceForm_value_of : List Str := ["self", "text"]
abbrev A_P_ChoiceForm_value_of : List Str := ["self", "text"]
theorem sc_P_ChoiceForm_value_of : FnScope N_P_ChoiceForm_value_of A_P_ChoiceForm_value_of (defScope s_P_ChoiceForm_value_of) := ⟨rfl, rfl, rfl, by decide +kernel, rfl, by decide +kernel, by decide +kernel⟩
theorem nm_P_ChoiceForm_value_of_self : Nm (defScope s_P_ChoiceForm_value_of) "self" := nm_of (by decide +kernel)
theorem nl_P_ChoiceForm_value_of_self : Nl (defScope s_P_ChoiceForm_value_of) "self" := nl_of (by decide +kernel)
theorem lo_P_ChoiceForm_value_of_self : (defScope s_P_ChoiceForm_value_of).names.lookup ("self" : Str) = some .local := by decide +kernel
theorem nm_P_ChoiceForm_value_of_text : Nm (defScope s_P_ChoiceForm_value_of) "text" := nm_of (by decide +kernel)
theorem nl_P_ChoiceForm_value_of_text : Nl (defScope s_P_ChoiceForm_value_of) "text" := nl_of (by decide +kernel)
theorem lo_P_ChoiceForm_value_of_text : (defScope s_P_ChoiceForm_value_of).names.lookup ("text" : Str) = some .local := by decide +kernel
theorem ng_P_ChoiceForm_value_of_only_one : Ng (defScope s_P_ChoiceForm_value_of) "only_one" := ng_of (by decide +kernel)
abbrev s_L_cell_at : Stmt := top 62
abbrev N_L_cell_at : List Str := ["_law_script", "_law_k"]
abbrev A_L_cell_at : List Str := ["_law_script", "_law_k"]
theorem sc_L_cell_at : FnScope N_L_cell_at A_L_cell_at (defScope s_L_cell_at) := ⟨rfl, rfl, rfl, by decide +kernel, rfl, by decide +kernel, by decide +kernel⟩
theorem nm_L_cell_at__law_script : Nm (defScope s_L_cell_at) "_law_script" := nm_of (by decide +kernel)
theorem nl_L_cell_at__law_script : Nl (defScope s_L_cell_at) "_law_script" := nl_of (by decide +kernel)
theorem lo_L_cell_at__law_script : (defScope s_L_cell_at).names.lookup ("_law_script" : Str) = some .local := by decide +kernel
theorem nm_L_cell_at__law_k : Nm (defScope s_L_cell_at) "_law_k" := nm_of (by decide +kernel)
theorem nl_L_cell_at__law_k : Nl (defScope s_L_cell_at) "_law_k" := nl_of (by decide +kernel)
theorem lo_L_cell_at__law_k : (defScope s_L_cell_at).names.lookup ("_law_k" : Str) = some .local := by decide +kernel
theorem ng_L_cell_at_len : Ng (defScope s_L_cell_at) "len" := ng_of (by decide +kernel)
abbrev s_L_whole : Stmt := top 63
abbrev N_L_whole : List Str := ["_law_thing"]
abbrev A_L_whole : List Str := ["_law_thing"]
theorem sc_L_whole : FnScope N_L_whole A_L_whole (defScope s_L_whole) := ⟨rfl, rfl, rfl, by decide +kernel, rfl, by decide +kernel, by decide +kernel⟩
theorem nm_L_whole__law_thing : Nm (defScope s_L_whole) "_law_thing" := nm_of (by decide +kernel)
theorem nl_L_whole__law_thing : Nl (defScope s_L_whole) "_law_thing" := nl_of (by decide +kernel)
theorem lo_L_whole__law_thing : (defScope s_L_whole).names.lookup ("_law_thing" : Str) = some .local := by decide +kernel
theorem ng_L_whole_isinstance : Ng (defScope s_L_whole) "isinstance" := ng_of (by decide +kernel)
theorem ng_L_whole_int : Ng (defScope s_L_whole) "int" := ng_of (by decide +kernel)
theorem ng_L_whole_bool : Ng (defScope s_L_whole) "bool" := ng_of (by decide +kernel)
abbrev s_L_pick : Stmt := top 64
abbrev N_L_pick : List Str := ["_law_cell", "_law_salt", "_law_many", "_law_one", "_law_two"]
abbrev A_L_pick : List Str := ["_law_cell", "_law_salt", "_law_many"]
theorem sc_L_pick : FnScope N_L_pick A_L_pick (defScope s_L_pick) := ⟨rfl, rfl, rfl, by decide +kernel, rfl, by decide +kernel, by decide +kernel⟩
theorem nm_L_pick__law_cell : Nm (defScope s_L_pick) "_law_cell" := nm_of (by decide +kernel)
theorem nl_L_pick__law_cell : Nl (defScope s_L_pick) "_law_cell" := nl_of (by decide +kernel)
theorem lo_L_pick__law_cell : (defScope s_L_pick).names.lookup ("_law_cell" : Str) = some .local := by decide +kernel
theorem nm_L_pick__law_salt : Nm (defScope s_L_pick) "_law_salt" := nm_of (by decide +kernel)
theorem nl_L_pick__law_salt : Nl (defScope s_L_pick) "_law_salt" := nl_of (by decide +kernel)
theorem lo_L_pick__law_salt : (defScope s_L_pick).names.lookup ("_law_salt" : Str) = some .local := by decide +kernel
theorem nm_L_pick__law_many : Nm (defScope s_L_pick) "_law_many" := nm_of (by decide +kernel)
theorem nl_L_pick__law_many : Nl (defScope s_L_pick) "_law_many" := nl_of (by decide +kernel)
theorem lo_L_pick__law_many : (defScope s_L_pick).names.lookup ("_law_many" : Str) = some .local := by decide +kernel
theorem nm_L_pick__law_one : Nm (defScope s_L_pick) "_law_one" := nm_of (by decide +kernel)
theorem nl_L_pick__law_one : Nl (defScope s_L_pick) "_law_one" := nl_of (by decide +kernel)
theorem lo_L_pick__law_one : (defScope s_L_pick).names.lookup ("_law_one" : Str) = some .local := by decide +kernel
theorem nm_L_pick__law_two : Nm (defScope s_L_pick) "_law_two" := nm_of (by decide +kernel)
theorem nl_L_pick__law_two : Nl (defScope s_L_pick) "_law_two" := nl_of (by decide +kernel)
theorem lo_L_pick__law_two : (defScope s_L_pick).names.lookup ("_law_two" : Str) = some .local := by decide +kernel
abbrev s_L_signs : Stmt := top 65
abbrev N_L_signs : List Str := []
abbrev A_L_signs : List Str := []
theorem sc_L_signs : FnScope N_L_signs A_L_signs (defScope s_L_signs) := ⟨rfl, rfl, rfl, by decide +kernel, rfl, by decide +kernel, by decide +kernel⟩
abbrev s_L_sign : Stmt := top 66
abbrev N_L_sign : List Str := ["_law_cell", "_law_salt", "_law_some"]
abbrev A_L_sign : List Str := ["_law_cell", "_law_salt"]
theorem sc_L_sign : FnScope N_L_sign A_L_sign (defScope s_L_sign) := ⟨rfl, rfl, rfl, by decide +kernel, rfl, by decide +kernel, by decide +kernel⟩
theorem nm_L_sign__law_cell : Nm (defScope s_L_sign) "_law_cell" := nm_of (by decide +kernel)
theorem nl_L_sign__law_cell : Nl (defScope s_L_sign) "_law_cell" := nl_of (by decide +kernel)
theorem lo_L_sign__law_cell : (defScope s_L_sign).names.lookup ("_law_cell" : Str) = some .local := by decide +kernel
theorem nm_L_sign__law_salt : Nm (defScope s_L_sign) "_law_salt" := nm_of (by decide +kernel)
theorem nl_L_sign__law_salt : Nl (defScope s_L_sign) "_law_salt" := nl_of (by decide +kernel)
theorem lo_L_sign__law_salt : (defScope s_L_sign).names.lookup ("_law_salt" : Str) = some .local := by decide +kernel
theorem nm_L_sign__law_some : Nm (defScope s_L_sign) "_law_some" := nm_of (by decide +kernel)
theorem nl_L_sign__law_some : Nl (defScope s_L_sign) "_law_some" := nl_of (by decide +kernel)
theorem lo_L_sign__law_some : (defScope s_L_sign).names.lookup ("_law_some" : Str) = some .local := by decide +kernel
theorem ng_L_sign__law_pick : Ng (defScope s_L_sign) "_law_pick" := ng_of (by decide +kernel)
theorem ng_L_sign_len : Ng (defScope s_L_sign) "len" := ng_of (by decide +kernel)
theorem ng_L_sign__law_signs : Ng (defScope s_L_sign) "_law_signs" := ng_of (by decide +kernel)
abbrev s_L_number_spec : Stmt := top 67
abbrev N_L_number_spec : List Str := ["_law_cell", "_law_other", "_law_small", "_law_figures_here", "_law_places", "_law_base", "_law_sign_here", "_law_size", "_law_way", "_law_signs_here", "_law_widths", "_law_width", "_law_side", "_law_strict"]
abbrev A_L_number_spec : List Str := ["_law_cell", "_law_other", "_law_small"]
theorem sc_L_number_spec : FnScope N_L_number_spec A_L_number_spec (defScope s_L_number_spec) := ⟨rfl, rfl, rfl, by decide +kernel, rfl, by decide +kernel, by decide +kernel⟩
theorem nm_L_number_spec__law_cell : Nm (defScope s_L_number_spec) "_law_cell" := nm_of (by decide +kernel)
theorem nl_L_number_spec__law_cell : Nl (defScope s_L_number_spec) "_law_cell" := nl_of (by decide +kernel)
theorem lo_L_number_spec__law_cell : (defScope s_L_number_spec).names.lookup ("_law_cell" : Str) = some .local := by decide +kernel
theorem nm_L_number_spec__law_other : Nm (defScope s_L_number_spec) "_law_other" := nm_of (by decide +kernel)
theorem nl_L_number_spec__law_other : Nl (defScope s_L_number_spec) "_law_other" := nl_of (by decide +kernel)
theorem lo_L_number_spec__law_other : (defScope s_L_number_spec).names.lookup ("_law_other" : Str) = some .local := by decide +kernel
theorem nm_L_number_spec__law_small : Nm (defScope s_L_number_spec) "_law_small" := nm_of (by decide +kernel)
theorem nl_L_number_spec__law_small : Nl (defScope s_L_number_spec) "_law_small" := nl_of (by decide +kernel)
theorem lo_L_number_spec__law_small : (defScope s_L_number_spec).names.lookup ("_law_small" : Str) = some .local := by decide +kernel
theorem nm_L_number_spec__law_figures_here : Nm (defScope s_L_number_spec) "_law_figures_here" := nm_of (by decide +kernel)
theorem nl_L_number_spec__law_figures_here : Nl (defScope s_L_number_spec) "_law_figures_here" := nl_of (by decide +kernel)
theorem lo_L_number_spec__law_figures_here : (defScope s_L_number_spec).names.lookup ("_law_figures_here" : Str) = some .local := by decide +kernel
theorem nm_L_number_spec__law_places : Nm (defScope s_L_number_spec) "_law_places" := nm_of (by decide +kernel)
theorem nl_L_number_spec__law_places : Nl (defScope s_L_number_spec) "_law_places" := nl_of (by decide +kernel)
theorem lo_L_number_spec__law_places : (defScope s_L_number_spec).names.lookup ("_law_places" : Str) = some .local := by decide +kernel
theorem nm_L_number_spec__law_base : Nm (defScope s_L_number_spec) "_law_base" := nm_of (by decide +kernel)
theorem nl_L_number_spec__law_base : Nl (defScope s_L_number_spec) "_law_base" := nl_of (by decide +kernel)
theorem lo_L_number_spec__law_base : (defScope s_L_number_spec).names.lookup ("_law_base" : Str) = some .local := by decide +kernel
theorem nm_L_number_spec__law_sign_here : Nm (defScope s_L_number_spec) "_law_sign_here" := nm_of (by decide +kernel)
theorem nl_L_number_spec__law_sign_here : Nl (defScope s_L_number_spec) "_law_sign_here" := nl_of (by decide +kernel)
theorem lo_L_number_spec__law_sign_here : (defScope s_L_number_spec).names.lookup ("_law_sign_here" : Str) = some .local := by decide +kernel
theorem nm_L_number_spec__law_size : Nm (defScope s_L_number_spec) "_law_size" := nm_of (by decide +kernel)
theorem nl_L_number_spec__law_size : Nl (defScope s_L_number_spec) "_law_size" := nl_of (by decide +kernel)
theorem lo_L_number_spec__law_size : (defScope s_L_number_spec).names.lookup ("_law_size" : Str) = some .local := by decide +kernel
theorem nm_L_number_spec__law_way : Nm (defScope s_L_number_spec) "_law_way" := nm_of (by decide +kernel)
theorem nl_L_number_spec__law_way : Nl (defScope s_L_number_spec) "_law_way" := nl_of (by decide +kernel)
theorem lo_L_number_spec__law_way : (defScope s_L_number_spec).names.lookup ("_law_way" : Str) = some .local := by decide +kernel
theorem nm_L_number_spec__law_signs_here : Nm (defScope s_L_number_spec) "_law_signs_here" := nm_of (by decide +kernel)
theorem nl_L_number_spec__law_signs_here : Nl (defScope s_L_number_spec) "_law_signs_here" := nl_of (by decide +kernel)
theorem lo_L_number_spec__law_signs_here : (defScope s_L_number_spec).names.lookup ("_law_signs_here" : Str) = some .local := by decide +kernel
theorem nm_L_number_spec__law_widths : Nm (defScope s_L_number_spec) "_law_widths" := nm_of (by decide +kernel)
theorem nl_L_number_spec__law_widths : Nl (defScope s_L_number_spec) "_law_widths" := nl_of (by decide +kernel)
theorem lo_L_number_spec__law_widths : (defScope s_L_number_spec).names.lookup ("_law_widths" : Str) = some .local := by decide +kernel
theorem nm_L_number_spec__law_width : Nm (defScope s_L_number_spec) "_law_width" := nm_of (by decide +kernel)
theorem nl_L_number_spec__law_width : Nl (defScope s_L_number_spec) "_law_width" := nl_of (by decide +kernel)
theorem lo_L_number_spec__law_width : (defScope s_L_number_spec).names.lookup ("_law_width" : Str) = some .local := by decide +kernel
theorem nm_L_number_spec__law_side : Nm (defScope s_L_number_spec) "_law_side" := nm_of (by decide +kernel)
theorem nl_L_number_spec__law_side : Nl (defScope s_L_number_spec) "_law_side" := nl_of (by decide +kernel)
theorem lo_L_number_spec__law_side : (defScope s_L_number_spec).names.lookup ("_law_side" : Str) = some .local := by decide +kernel
theorem nm_L_number_spec__law_strict : Nm (defScope s_L_number_spec) "_law_strict" := nm_of (by decide +kernel)
theorem nl_L_number_spec__law_strict : Nl (defScope s_L_number_spec) "_law_strict" := nl_of (by decide +kernel)
theorem lo_L_number_spec__law_strict : (defScope s_L_number_spec).names.lookup ("_law_strict" : Str) = some .local := by decide +kernel
theorem ng_L_number_spec__law_pick : Ng (defScope s_L_number_spec) "_law_pick" := ng_of (by decide +kernel)
theorem ng_L_number_spec__law_sign : Ng (defScope s_L_number_spec) "_law_sign" := ng_of (by decide +kernel)
abbrev s_L_number_form : Stmt := top 68
abbrev N_L_number_form : List Str := ["_law_spec_here", "_law_figures_here", "_law_places", "_law_base", "_law_sign_here", "_law_size", "_law_mark", "_law_point", "_law_way", "_law_width", "_law_fill", "_law_side", "_law_strict"]
abbrev A_L_number_form : List Str := ["_law_spec_here"]
theorem sc_L_number_form : FnScope N_L_number_form A_L_number_form (defScope s_L_number_form) := ⟨rfl, rfl, rfl, by decide +kernel, rfl, by decide +kernel, by decide +kernel⟩
theorem nm_L_number_form__law_spec_here : Nm (defScope s_L_number_form) "_law_spec_here" := nm_of (by decide +kernel)
theorem nl_L_number_form__law_spec_here : Nl (defScope s_L_number_form) "_law_spec_here" := nl_of (by decide +kernel)
theorem lo_L_number_form__law_spec_here : (defScope s_L_number_form).names.lookup ("_law_spec_here" : Str) = some .local := by decide +kernel
theorem nm_L_number_form__law_figures_here : Nm (defScope s_L_number_form) "_law_figures_here" := nm_of (by decide +kernel)
theorem nl_L_number_form__law_figures_here : Nl (defScope s_L_number_form) "_law_figures_here" := nl_of (by decide +kernel)
theorem lo_L_number_form__law_figures_here : (defScope s_L_number_form).names.lookup ("_law_figures_here" : Str) = some .local := by decide +kernel
theorem nm_L_number_form__law_places : Nm (defScope s_L_number_form) "_law_places" := nm_of (by decide +kernel)
theorem nl_L_number_form__law_places : Nl (defScope s_L_number_form) "_law_places" := nl_of (by decide +kernel)
theorem lo_L_number_form__law_places : (defScope s_L_number_form).names.lookup ("_law_places" : Str) = some .local := by decide +kernel
theorem nm_L_number_form__law_base : Nm (defScope s_L_number_form) "_law_base" := nm_of (by decide +kernel)
theorem nl_L_number_form__law_base : Nl (defScope s_L_number_form) "_law_base" := nl_of (by decide +kernel)
theorem lo_L_number_form__law_base : (defScope s_L_number_form).names.lookup ("_law_base" : Str) = some .local := by decide +kernel
theorem nm_L_number_form__law_sign_here : Nm (defScope s_L_number_form) "_law_sign_here" := nm_of (by decide +kernel)
theorem nl_L_number_form__law_sign_here : Nl (defScope s_L_number_form) "_law_sign_here" := nl_of (by decide +kernel)
theorem lo_L_number_form__law_sign_here : (defScope s_L_number_form).names.lookup ("_law_sign_here" : Str) = some .local := by decide +kernel
theorem nm_L_number_form__law_size : Nm (defScope s_L_number_form) "_law_size" := nm_of (by decide +kernel)
theorem nl_L_number_form__law_size : Nl (defScope s_L_number_form) "_law_size" := nl_of (by decide +kernel)
theorem lo_L_number_form__law_size : (defScope s_L_number_form).names.lookup ("_law_size" : Str) = some .local := by decide +kernel
theorem nm_L_number_form__law_mark : Nm (defScope s_L_number_form) "_law_mark" := nm_of (by decide +kernel)
theorem nl_L_number_form__law_mark : Nl (defScope s_L_number_form) "_law_mark" := nl_of (by decide +kernel)
theorem lo_L_number_form__law_mark : (defScope s_L_number_form).names.lookup ("_law_mark" : Str) = some .local := by decide +kernel
theorem nm_L_number_form__law_point : Nm (defScope s_L_number_form) "_law_point" := nm_of (by decide +kernel)
theorem nl_L_number_form__law_point : Nl (defScope s_L_number_form) "_law_point" := nl_of (by decide +kernel)
theorem lo_L_number_form__law_point : (defScope s_L_number_form).names.lookup ("_law_point" : Str) = some .local := by decide +kernel
theorem nm_L_number_form__law_way : Nm (defScope s_L_number_form) "_law_way" := nm_of (by decide +kernel)
theorem nl_L_number_form__law_way : Nl (defScope s_L_number_form) "_law_way" := nl_of (by decide +kernel)
theorem lo_L_number_form__law_way : (defScope s_L_number_form).names.lookup ("_law_way" : Str) = some .local := by decide +kernel
theorem nm_L_number_form__law_width : Nm (defScope s_L_number_form) "_law_width" := nm_of (by decide +kernel)
theorem nl_L_number_form__law_width : Nl (defScope s_L_number_form) "_law_width" := nl_of (by decide +kernel)
theorem lo_L_number_form__law_width : (defScope s_L_number_form).names.lookup ("_law_width" : Str) = some .local := by decide +kernel
theorem nm_L_number_form__law_fill : Nm (defScope s_L_number_form) "_law_fill" := nm_of (by decide +kernel)
theorem nl_L_number_form__law_fill : Nl (defScope s_L_number_form) "_law_fill" := nl_of (by decide +kernel)
theorem lo_L_number_form__law_fill : (defScope s_L_number_form).names.lookup ("_law_fill" : Str) = some .local := by decide +kernel
theorem nm_L_number_form__law_side : Nm (defScope s_L_number_form) "_law_side" := nm_of (by decide +kernel)
theorem nl_L_number_form__law_side : Nl (defScope s_L_number_form) "_law_side" := nl_of (by decide +kernel)
theorem lo_L_number_form__law_side : (defScope s_L_number_form).names.lookup ("_law_side" : Str) = some .local := by decide +kernel
theorem nm_L_number_form__law_strict : Nm (defScope s_L_number_form) "_law_strict" := nm_of (by decide +kernel)
theorem nl_L_number_form__law_strict : Nl (defScope s_L_number_form) "_law_strict" := nl_of (by decide +kernel)
theorem lo_L_number_form__law_strict : (defScope s_L_number_form).names.lookup ("_law_strict" : Str) = some .local := by decide +kernel
theorem ng_L_number_form_NumberForm : Ng (defScope s_L_number_form) "NumberForm" := ng_of (by decide +kernel)
abbrev s_L_power : Stmt := top 69
abbrev N_L_power : List Str := ["_law_base", "_law_times", "_law_found", "_law_k"]
abbrev A_L_power : List Str := ["_law_base", "_law_times"]
theorem sc_L_power : FnScope N_L_power A_L_power (defScope s_L_power) := ⟨rfl, rfl, rfl, by decide +kernel, rfl, by decide +kernel, by decide +kernel⟩
theorem nm_L_power__law_base : Nm (defScope s_L_power) "_law_base" := nm_of (by decide +kernel)
theorem nl_L_power__law_base : Nl (defScope s_L_power) "_law_base" := nl_of (by decide +kernel)
theorem lo_L_power__law_base : (defScope s_L_power).names.lookup ("_law_base" : Str) = some .local := by decide +kernel
theorem nm_L_power__law_times : Nm (defScope s_L_power) "_law_times" := nm_of (by decide +kernel)
theorem nl_L_power__law_times : Nl (defScope s_L_power) "_law_times" := nl_of (by decide +kernel)
theorem lo_L_power__law_times : (defScope s_L_power).names.lookup ("_law_times" : Str) = some .local := by decide +kernel
theorem nm_L_power__law_found : Nm (defScope s_L_power) "_law_found" := nm_of (by decide +kernel)
theorem nl_L_power__law_found : Nl (defScope s_L_power) "_law_found" := nl_of (by decide +kernel)
theorem lo_L_power__law_found : (defScope s_L_power).names.lookup ("_law_found" : Str) = some .local := by decide +kernel
theorem nm_L_power__law_k : Nm (defScope s_L_power) "_law_k" := nm_of (by decide +kernel)
theorem nl_L_power__law_k : Nl (defScope s_L_power) "_law_k" := nl_of (by decide +kernel)
theorem lo_L_power__law_k : (defScope s_L_power).names.lookup ("_law_k" : Str) = some .local := by decide +kernel
theorem ng_L_power_range : Ng (defScope s_L_power) "range" := ng_of (by decide +kernel)
abbrev s_L_divisor : Stmt := top 70
abbrev N_L_divisor : List Str := ["_law_one", "_law_other"]
abbrev A_L_divisor : List Str := ["_law_one", "_law_other"]
theorem sc_L_divisor : FnScope N_L_divisor A_L_divisor (defScope s_L_divisor) := ⟨rfl, rfl, rfl, by decide +kernel, rfl, by decide +kernel, by decide +kernel⟩
theorem nm_L_divisor__law_one : Nm (defScope s_L_divisor) "_law_one" := nm_of (by decide +kernel)
theorem nl_L_divisor__law_one : Nl (defScope s_L_divisor) "_law_one" := nl_of (by decide +kernel)
theorem lo_L_divisor__law_one : (defScope s_L_divisor).names.lookup ("_law_one" : Str) = some .local := by decide +kernel
theorem nm_L_divisor__law_other : Nm (defScope s_L_divisor) "_law_other" := nm_of (by decide +kernel)
theorem nl_L_divisor__law_other : Nl (defScope s_L_divisor) "_law_other" := nl_of (by decide +kernel)
theorem lo_L_divisor__law_other : (defScope s_L_divisor).names.lookup ("_law_other" : Str) = some .local := by decide +kernel
theorem ng_L_divisor_abs : Ng (defScope s_L_divisor) "abs" := ng_of (by decide +kernel)
abbrev s_L_lowest : Stmt := top 71
abbrev N_L_lowest : List Str := ["_law_top", "_law_bottom", "_law_many"]
abbrev A_L_lowest : List Str := ["_law_top", "_law_bottom"]
theorem sc_L_lowest : FnScope N_L_lowest A_L_lowest (defScope s_L_lowest) := ⟨rfl, rfl, rfl, by decide +kernel, rfl, by decide +kernel, by decide +kernel⟩
theorem nm_L_lowest__law_top : Nm (defScope s_L_lowest) "_law_top" := nm_of (by decide +kernel)
theorem nl_L_lowest__law_top : Nl (defScope s_L_lowest) "_law_top" := nl_of (by decide +kernel)
theorem lo_L_lowest__law_top : (defScope s_L_lowest).names.lookup ("_law_top" : Str) = some .local := by decide +kernel
theorem nm_L_lowest__law_bottom : Nm (defScope s_L_lowest) "_law_bottom" := nm_of (by decide +kernel)
theorem nl_L_lowest__law_bottom : Nl (defScope s_L_lowest) "_law_bottom" := nl_of (by decide +kernel)
theorem lo_L_lowest__law_bottom : (defScope s_L_lowest).names.lookup ("_law_bottom" : Str) = some .local := by decide +kernel
theorem nm_L_lowest__law_many : Nm (defScope s_L_lowest) "_law_many" := nm_of (by decide +kernel)
theorem nl_L_lowest__law_many : Nl (defScope s_L_lowest) "_law_many" := nl_of (by decide +kernel)
theorem lo_L_lowest__law_many : (defScope s_L_lowest).names.lookup ("_law_many" : Str) = some .local := by decide +kernel
theorem ng_L_lowest__law_divisor : Ng (defScope s_L_lowest) "_law_divisor" := ng_of (by decide +kernel)
abbrev s_L_figures : Stmt := top 72
abbrev N_L_figures : List Str := ["_law_number", "_law_base", "_law_found"]
abbrev A_L_figures : List Str := ["_law_number", "_law_base"]
theorem sc_L_figures : FnScope N_L_figures A_L_figures (defScope s_L_figures) := ⟨rfl, rfl, rfl, by decide +kernel, rfl, by decide +kernel, by decide +kernel⟩
theorem nm_L_figures__law_number : Nm (defScope s_L_figures) "_law_number" := nm_of (by decide +kernel)
theorem nl_L_figures__law_number : Nl (defScope s_L_figures) "_law_number" := nl_of (by decide +kernel)
theorem lo_L_figures__law_number : (defScope s_L_figures).names.lookup ("_law_number" : Str) = some .local := by decide +kernel
theorem nm_L_figures__law_base : Nm (defScope s_L_figures) "_law_base" := nm_of (by decide +kernel)
theorem nl_L_figures__law_base : Nl (defScope s_L_figures) "_law_base" := nl_of (by decide +kernel)
theorem lo_L_figures__law_base : (defScope s_L_figures).names.lookup ("_law_base" : Str) = some .local := by decide +kernel
theorem nm_L_figures__law_found : Nm (defScope s_L_figures) "_law_found" := nm_of (by decide +kernel)
theorem nl_L_figures__law_found : Nl (defScope s_L_figures) "_law_found" := nl_of (by decide +kernel)
theorem lo_L_figures__law_found : (defScope s_L_figures).names.lookup ("_law_found" : Str) = some .local := by decide +kernel
abbrev s_L_body : Stmt := top 73
abbrev N_L_body : List Str := ["_law_steps_here", "_law_spec_here", "_law_places", "_law_base", "_law_size", "_law_mark", "_law_point", "_law_step", "_law_figures_here", "_law_whole_here", "_law_k", "_law_rest"]
abbrev A_L_body : List Str := ["_law_steps_here", "_law_spec_here"]
theorem sc_L_body : FnScope N_L_body A_L_body (defScope s_L_body) := ⟨rfl, rfl, rfl, by decide +kernel, rfl, by decide +kernel, by decide +kernel⟩
theorem nm_L_body__law_steps_here : Nm (defScope s_L_body) "_law_steps_here" := nm_of (by decide +kernel)
theorem nl_L_body__law_steps_here : Nl (defScope s_L_body) "_law_steps_here" := nl_of (by decide +kernel)
theorem lo_L_body__law_steps_here : (defScope s_L_body).names.lookup ("_law_steps_here" : Str) = some .local := by decide +kernel
theorem nm_L_body__law_spec_here : Nm (defScope s_L_body) "_law_spec_here" := nm_of (by decide +kernel)
theorem nl_L_body__law_spec_here : Nl (defScope s_L_body) "_law_spec_here" := nl_of (by decide +kernel)
theorem lo_L_body__law_spec_here : (defScope s_L_body).names.lookup ("_law_spec_here" : Str) = some .local := by decide +kernel
theorem nm_L_body__law_places : Nm (defScope s_L_body) "_law_places" := nm_of (by decide +kernel)
theorem nl_L_body__law_places : Nl (defScope s_L_body) "_law_places" := nl_of (by decide +kernel)
theorem lo_L_body__law_places : (defScope s_L_body).names.lookup ("_law_places" : Str) = some .local := by decide +kernel
theorem nm_L_body__law_base : Nm (defScope s_L_body) "_law_base" := nm_of (by decide +kernel)
theorem nl_L_body__law_base : Nl (defScope s_L_body) "_law_base" := nl_of (by decide +kernel)
theorem lo_L_body__law_base : (defScope s_L_body).names.lookup ("_law_base" : Str) = some .local := by decide +kernel
theorem nm_L_body__law_size : Nm (defScope s_L_body) "_law_size" := nm_of (by decide +kernel)
theorem nl_L_body__law_size : Nl (defScope s_L_body) "_law_size" := nl_of (by decide +kernel)
theorem lo_L_body__law_size : (defScope s_L_body).names.lookup ("_law_size" : Str) = some .local := by decide +kernel
theorem nm_L_body__law_mark : Nm (defScope s_L_body) "_law_mark" := nm_of (by decide +kernel)
theorem nl_L_body__law_mark : Nl (defScope s_L_body) "_law_mark" := nl_of (by decide +kernel)
theorem lo_L_body__law_mark : (defScope s_L_body).names.lookup ("_law_mark" : Str) = some .local := by decide +kernel
theorem nm_L_body__law_point : Nm (defScope s_L_body) "_law_point" := nm_of (by decide +kernel)
theorem nl_L_body__law_point : Nl (defScope s_L_body) "_law_point" := nl_of (by decide +kernel)
theorem lo_L_body__law_point : (defScope s_L_body).names.lookup ("_law_point" : Str) = some .local := by decide +kernel
theorem nm_L_body__law_step : Nm (defScope s_L_body) "_law_step" := nm_of (by decide +kernel)
theorem nl_L_body__law_step : Nl (defScope s_L_body) "_law_step" := nl_of (by decide +kernel)
theorem lo_L_body__law_step : (defScope s_L_body).names.lookup ("_law_step" : Str) = some .local := by decide +kernel
theorem nm_L_body__law_figures_here : Nm (defScope s_L_body) "_law_figures_here" := nm_of (by decide +kernel)
theorem nl_L_body__law_figures_here : Nl (defScope s_L_body) "_law_figures_here" := nl_of (by decide +kernel)
theorem lo_L_body__law_figures_here : (defScope s_L_body).names.lookup ("_law_figures_here" : Str) = some .local := by decide +kernel
theorem nm_L_body__law_whole_here : Nm (defScope s_L_body) "_law_whole_here" := nm_of (by decide +kernel)
theorem nl_L_body__law_whole_here : Nl (defScope s_L_body) "_law_whole_here" := nl_of (by decide +kernel)
theorem lo_L_body__law_whole_here : (defScope s_L_body).names.lookup ("_law_whole_here" : Str) = some .local := by decide +kernel
theorem nm_L_body__law_k : Nm (defScope s_L_body) "_law_k" := nm_of (by decide +kernel)
theorem nl_L_body__law_k : Nl (defScope s_L_body) "_law_k" := nl_of (by decide +kernel)
theorem lo_L_body__law_k : (defScope s_L_body).names.lookup ("_law_k" : Str) = some .local := by decide +kernel
theorem nm_L_body__law_rest : Nm (defScope s_L_body) "_law_rest" := nm_of (by decide +kernel)
theorem nl_L_body__law_rest : Nl (defScope s_L_body) "_law_rest" := nl_of (by decide +kernel)
theorem lo_L_body__law_rest : (defScope s_L_body).names.lookup ("_law_rest" : Str) = some .local := by decide +kernel
theorem ng_L_body__law_power : Ng (defScope s_L_body) "_law_power" := ng_of (by decide +kernel)
theorem ng_L_body__law_figures : Ng (defScope s_L_body) "_law_figures" := ng_of (by decide +kernel)
theorem ng_L_body_range : Ng (defScope s_L_body) "range" := ng_of (by decide +kernel)
theorem ng_L_body_len : Ng (defScope s_L_body) "len" := ng_of (by decide +kernel)
abbrev s_L_parts : Stmt := top 74
abbrev N_L_parts : List Str := ["_law_steps_here", "_law_spec_here", "_law_body_here"]
abbrev A_L_parts : List Str := ["_law_steps_here", "_law_spec_here"]
theorem sc_L_parts : FnScope N_L_parts A_L_parts (defScope s_L_parts) := ⟨rfl, rfl, rfl, by decide +kernel, rfl, by decide +kernel, by decide +kernel⟩
theorem nm_L_parts__law_steps_here : Nm (defScope s_L_parts) "_law_steps_here" := nm_of (by decide +kernel)
theorem nl_L_parts__law_steps_here : Nl (defScope s_L_parts) "_law_steps_here" := nl_of (by decide +kernel)
theorem lo_L_parts__law_steps_here : (defScope s_L_parts).names.lookup ("_law_steps_here" : Str) = some .local := by decide +kernel
theorem nm_L_parts__law_spec_here : Nm (defScope s_L_parts) "_law_spec_here" := nm_of (by decide +kernel)
theorem nl_L_parts__law_spec_here : Nl (defScope s_L_parts) "_law_spec_here" := nl_of (by decide +kernel)
theorem lo_L_parts__law_spec_here : (defScope s_L_parts).names.lookup ("_law_spec_here" : Str) = some .local := by decide +kernel
theorem nm_L_parts__law_body_here : Nm (defScope s_L_parts) "_law_body_here" := nm_of (by decide +kernel)
theorem nl_L_parts__law_body_here : Nl (defScope s_L_parts) "_law_body_here" := nl_of (by decide +kernel)
theorem lo_L_parts__law_body_here : (defScope s_L_parts).names.lookup ("_law_body_here" : Str) = some .local := by decide +kernel
theorem ng_L_parts__law_body : Ng (defScope s_L_parts) "_law_body" := ng_of (by decide +kernel)
theorem ng_L_parts_abs : Ng (defScope s_L_parts) "abs" := ng_of (by decide +kernel)
abbrev s_L_filled : Stmt := top 75
abbrev N_L_filled : List Str := ["_law_lead", "_law_rest", "_law_spec_here", "_law_width", "_law_fill", "_law_side", "_law_lacks", "_law_ahead_here"]
abbrev A_L_filled : List Str := ["_law_lead", "_law_rest", "_law_spec_here"]
theorem sc_L_filled : FnScope N_L_filled A_L_filled (defScope s_L_filled) := ⟨rfl, rfl, rfl, by decide +kernel, rfl, by decide +kernel, by decide +kernel⟩
theorem nm_L_filled__law_lead : Nm (defScope s_L_filled) "_law_lead" := nm_of (by decide +kernel)
theorem nl_L_filled__law_lead : Nl (defScope s_L_filled) "_law_lead" := nl_of (by decide +kernel)
theorem lo_L_filled__law_lead : (defScope s_L_filled).names.lookup ("_law_lead" : Str) = some .local := by decide +kernel
theorem nm_L_filled__law_rest : Nm (defScope s_L_filled) "_law_rest" := nm_of (by decide +kernel)
theorem nl_L_filled__law_rest : Nl (defScope s_L_filled) "_law_rest" := nl_of (by decide +kernel)
theorem lo_L_filled__law_rest : (defScope s_L_filled).names.lookup ("_law_rest" : Str) = some .local := by decide +kernel
theorem nm_L_filled__law_spec_here : Nm (defScope s_L_filled) "_law_spec_here" := nm_of (by decide +kernel)
theorem nl_L_filled__law_spec_here : Nl (defScope s_L_filled) "_law_spec_here" := nl_of (by decide +kernel)
theorem lo_L_filled__law_spec_here : (defScope s_L_filled).names.lookup ("_law_spec_here" : Str) = some .local := by decide +kernel
theorem nm_L_filled__law_width : Nm (defScope s_L_filled) "_law_width" := nm_of (by decide +kernel)
theorem nl_L_filled__law_width : Nl (defScope s_L_filled) "_law_width" := nl_of (by decide +kernel)
theorem lo_L_filled__law_width : (defScope s_L_filled).names.lookup ("_law_width" : Str) = some .local := by decide +kernel
theorem nm_L_filled__law_fill : Nm (defScope s_L_filled) "_law_fill" := nm_of (by decide +kernel)
theorem nl_L_filled__law_fill : Nl (defScope s_L_filled) "_law_fill" := nl_of (by decide +kernel)
theorem lo_L_filled__law_fill : (defScope s_L_filled).names.lookup ("_law_fill" : Str) = some .local := by decide +kernel
theorem nm_L_filled__law_side : Nm (defScope s_L_filled) "_law_side" := nm_of (by decide +kernel)
theorem nl_L_filled__law_side : Nl (defScope s_L_filled) "_law_side" := nl_of (by decide +kernel)
theorem lo_L_filled__law_side : (defScope s_L_filled).names.lookup ("_law_side" : Str) = some .local := by decide +kernel
theorem nm_L_filled__law_lacks : Nm (defScope s_L_filled) "_law_lacks" := nm_of (by decide +kernel)
theorem nl_L_filled__law_lacks : Nl (defScope s_L_filled) "_law_lacks" := nl_of (by decide +kernel)
theorem lo_L_filled__law_lacks : (defScope s_L_filled).names.lookup ("_law_lacks" : Str) = some .local := by decide +kernel
theorem nm_L_filled__law_ahead_here : Nm (defScope s_L_filled) "_law_ahead_here" := nm_of (by decide +kernel)
theorem nl_L_filled__law_ahead_here : Nl (defScope s_L_filled) "_law_ahead_here" := nl_of (by decide +kernel)
theorem lo_L_filled__law_ahead_here : (defScope s_L_filled).names.lookup ("_law_ahead_here" : Str) = some .local := by decide +kernel
theorem ng_L_filled_max : Ng (defScope s_L_filled) "max" := ng_of (by decide +kernel)
theorem ng_L_filled_len : Ng (defScope s_L_filled) "len" := ng_of (by decide +kernel)
abbrev s_L_word_spec : Stmt := top 76
abbrev N_L_word_spec : List Str := ["_law_cell", "_law_other", "_law_small", "_law_start", "_law_step", "_law_signs_here", "_law_least", "_law_most", "_law_fill", "_law_width", "_law_side"]
abbrev A_L_word_spec : List Str := ["_law_cell", "_law_other", "_law_small"]
theorem sc_L_word_spec : FnScope N_L_word_spec A_L_word_spec (defScope s_L_word_spec) := ⟨rfl, rfl, rfl, by decide +kernel, rfl, by decide +kernel, by decide +kernel⟩
theorem nm_L_word_spec__law_cell : Nm (defScope s_L_word_spec) "_law_cell" := nm_of (by decide +kernel)
theorem nl_L_word_spec__law_cell : Nl (defScope s_L_word_spec) "_law_cell" := nl_of (by decide +kernel)
theorem lo_L_word_spec__law_cell : (defScope s_L_word_spec).names.lookup ("_law_cell" : Str) = some .local := by decide +kernel
theorem nm_L_word_spec__law_other : Nm (defScope s_L_word_spec) "_law_other" := nm_of (by decide +kernel)
theorem nl_L_word_spec__law_other : Nl (defScope s_L_word_spec) "_law_other" := nl_of (by decide +kernel)
theorem lo_L_word_spec__law_other : (defScope s_L_word_spec).names.lookup ("_law_other" : Str) = some .local := by decide +kernel
theorem nm_L_word_spec__law_small : Nm (defScope s_L_word_spec) "_law_small" := nm_of (by decide +kernel)
theorem nl_L_word_spec__law_small : Nl (defScope s_L_word_spec) "_law_small" := nl_of (by decide +kernel)
theorem lo_L_word_spec__law_small : (defScope s_L_word_spec).names.lookup ("_law_small" : Str) = some .local := by decide +kernel
theorem nm_L_word_spec__law_start : Nm (defScope s_L_word_spec) "_law_start" := nm_of (by decide +kernel)
theorem nl_L_word_spec__law_start : Nl (defScope s_L_word_spec) "_law_start" := nl_of (by decide +kernel)
theorem lo_L_word_spec__law_start : (defScope s_L_word_spec).names.lookup ("_law_start" : Str) = some .local := by decide +kernel
theorem nm_L_word_spec__law_step : Nm (defScope s_L_word_spec) "_law_step" := nm_of (by decide +kernel)
theorem nl_L_word_spec__law_step : Nl (defScope s_L_word_spec) "_law_step" := nl_of (by decide +kernel)
theorem lo_L_word_spec__law_step : (defScope s_L_word_spec).names.lookup ("_law_step" : Str) = some .local := by decide +kernel
theorem nm_L_word_spec__law_signs_here : Nm (defScope s_L_word_spec) "_law_signs_here" := nm_of (by decide +kernel)
theorem nl_L_word_spec__law_signs_here : Nl (defScope s_L_word_spec) "_law_signs_here" := nl_of (by decide +kernel)
theorem lo_L_word_spec__law_signs_here : (defScope s_L_word_spec).names.lookup ("_law_signs_here" : Str) = some .local := by decide +kernel
theorem nm_L_word_spec__law_least : Nm (defScope s_L_word_spec) "_law_least" := nm_of (by decide +kernel)
theorem nl_L_word_spec__law_least : Nl (defScope s_L_word_spec) "_law_least" := nl_of (by decide +kernel)
theorem lo_L_word_spec__law_least : (defScope s_L_word_spec).names.lookup ("_law_least" : Str) = some .local := by decide +kernel
theorem nm_L_word_spec__law_most : Nm (defScope s_L_word_spec) "_law_most" := nm_of (by decide +kernel)
theorem nl_L_word_spec__law_most : Nl (defScope s_L_word_spec) "_law_most" := nl_of (by decide +kernel)
theorem lo_L_word_spec__law_most : (defScope s_L_word_spec).names.lookup ("_law_most" : Str) = some .local := by decide +kernel
theorem nm_L_word_spec__law_fill : Nm (defScope s_L_word_spec) "_law_fill" := nm_of (by decide +kernel)
theorem nl_L_word_spec__law_fill : Nl (defScope s_L_word_spec) "_law_fill" := nl_of (by decide +kernel)
theorem lo_L_word_spec__law_fill : (defScope s_L_word_spec).names.lookup ("_law_fill" : Str) = some .local := by decide +kernel
theorem nm_L_word_spec__law_width : Nm (defScope s_L_word_spec) "_law_width" := nm_of (by decide +kernel)
theorem nl_L_word_spec__law_width : Nl (defScope s_L_word_spec) "_law_width" := nl_of (by decide +kernel)
theorem lo_L_word_spec__law_width : (defScope s_L_word_spec).names.lookup ("_law_width" : Str) = some .local := by decide +kernel
theorem nm_L_word_spec__law_side : Nm (defScope s_L_word_spec) "_law_side" := nm_of (by decide +kernel)
theorem nl_L_word_spec__law_side : Nl (defScope s_L_word_spec) "_law_side" := nl_of (by decide +kernel)
theorem lo_L_word_spec__law_side : (defScope s_L_word_spec).names.lookup ("_law_side" : Str) = some .local := by decide +kernel
theorem ng_L_word_spec__law_pick : Ng (defScope s_L_word_spec) "_law_pick" := ng_of (by decide +kernel)
theorem ng_L_word_spec__law_signs : Ng (defScope s_L_word_spec) "_law_signs" := ng_of (by decide +kernel)
theorem ng_L_word_spec_min : Ng (defScope s_L_word_spec) "min" := ng_of (by decide +kernel)
theorem ng_L_word_spec__law_sign : Ng (defScope s_L_word_spec) "_law_sign" := ng_of (by decide +kernel)
abbrev s_L_names : Stmt := top 77
abbrev N_L_names : List Str := ["_law_cell", "_law_many", "_law_signs_here", "_law_k", "_law_base", "_law_way", "_law_at", "_law_size", "_law_step", "_law_found", "_law_sign_here", "_law_turn"]
abbrev A_L_names : List Str := ["_law_cell", "_law_many"]
theorem sc_L_names : FnScope N_L_names A_L_names (defScope s_L_names) := ⟨rfl, rfl, rfl, by decide +kernel, rfl, by decide +kernel, by decide +kernel⟩
theorem nm_L_names__law_cell : Nm (defScope s_L_names) "_law_cell" := nm_of (by decide +kernel)
theorem nl_L_names__law_cell : Nl (defScope s_L_names) "_law_cell" := nl_of (by decide +kernel)
theorem nm_L_names__law_many : Nm (defScope s_L_names) "_law_many" := nm_of (by decide +kernel)
theorem nl_L_names__law_many : Nl (defScope s_L_names) "_law_many" := nl_of (by decide +kernel)
theorem lo_L_names__law_many : (defScope s_L_names).names.lookup ("_law_many" : Str) = some .local := by decide +kernel
theorem nm_L_names__law_signs_here : Nm (defScope s_L_names) "_law_signs_here" := nm_of (by decide +kernel)
theorem nl_L_names__law_signs_here : Nl (defScope s_L_names) "_law_signs_here" := nl_of (by decide +kernel)
theorem nm_L_names__law_k : Nm (defScope s_L_names) "_law_k" := nm_of (by decide +kernel)
theorem nl_L_names__law_k : Nl (defScope s_L_names) "_law_k" := nl_of (by decide +kernel)
theorem lo_L_names__law_k : (defScope s_L_names).names.lookup ("_law_k" : Str) = some .local := by decide +kernel
theorem nm_L_names__law_base : Nm (defScope s_L_names) "_law_base" := nm_of (by decide +kernel)
theorem nl_L_names__law_base : Nl (defScope s_L_names) "_law_base" := nl_of (by decide +kernel)
theorem lo_L_names__law_base : (defScope s_L_names).names.lookup ("_law_base" : Str) = some .local := by decide +kernel
theorem nm_L_names__law_way : Nm (defScope s_L_names) "_law_way" := nm_of (by decide +kernel)
theorem nl_L_names__law_way : Nl (defScope s_L_names) "_law_way" := nl_of (by decide +kernel)
theorem lo_L_names__law_way : (defScope s_L_names).names.lookup ("_law_way" : Str) = some .local := by decide +kernel
theorem nm_L_names__law_at : Nm (defScope s_L_names) "_law_at" := nm_of (by decide +kernel)
theorem nl_L_names__law_at : Nl (defScope s_L_names) "_law_at" := nl_of (by decide +kernel)
theorem lo_L_names__law_at : (defScope s_L_names).names.lookup ("_law_at" : Str) = some .local := by decide +kernel
theorem nm_L_names__law_size : Nm (defScope s_L_names) "_law_size" := nm_of (by decide +kernel)
theorem nl_L_names__law_size : Nl (defScope s_L_names) "_law_size" := nl_of (by decide +kernel)
theorem lo_L_names__law_size : (defScope s_L_names).names.lookup ("_law_size" : Str) = some .local := by decide +kernel
theorem nm_L_names__law_step : Nm (defScope s_L_names) "_law_step" := nm_of (by decide +kernel)
theorem nl_L_names__law_step : Nl (defScope s_L_names) "_law_step" := nl_of (by decide +kernel)
theorem lo_L_names__law_step : (defScope s_L_names).names.lookup ("_law_step" : Str) = some .local := by decide +kernel
theorem nm_L_names__law_found : Nm (defScope s_L_names) "_law_found" := nm_of (by decide +kernel)
theorem nl_L_names__law_found : Nl (defScope s_L_names) "_law_found" := nl_of (by decide +kernel)
theorem lo_L_names__law_found : (defScope s_L_names).names.lookup ("_law_found" : Str) = some .local := by decide +kernel
theorem nm_L_names__law_sign_here : Nm (defScope s_L_names) "_law_sign_here" := nm_of (by decide +kernel)
theorem nl_L_names__law_sign_here : Nl (defScope s_L_names) "_law_sign_here" := nl_of (by decide +kernel)
theorem lo_L_names__law_sign_here : (defScope s_L_names).names.lookup ("_law_sign_here" : Str) = some .local := by decide +kernel
theorem nm_L_names__law_turn : Nm (defScope s_L_names) "_law_turn" := nm_of (by decide +kernel)
theorem nl_L_names__law_turn : Nl (defScope s_L_names) "_law_turn" := nl_of (by decide +kernel)
theorem lo_L_names__law_turn : (defScope s_L_names).names.lookup ("_law_turn" : Str) = some .local := by decide +kernel
theorem ng_L_names__law_signs : Ng (defScope s_L_names) "_law_signs" := ng_of (by decide +kernel)
theorem ng_L_names_range : Ng (defScope s_L_names) "range" := ng_of (by decide +kernel)
theorem ng_L_names__law_pick : Ng (defScope s_L_names) "_law_pick" := ng_of (by decide +kernel)
theorem ng_L_names_min : Ng (defScope s_L_names) "min" := ng_of (by decide +kernel)
abbrev s_L_choice_spec : Stmt := top 78
abbrev N_L_choice_spec : List Str := ["_law_cell", "_law_other", "_law_small", "_law_names_here", "_law_fill", "_law_width", "_law_side"]
abbrev A_L_choice_spec : List Str := ["_law_cell", "_law_other", "_law_small"]
theorem sc_L_choice_spec : FnScope N_L_choice_spec A_L_choice_spec (defScope s_L_choice_spec) := ⟨rfl, rfl, rfl, by decide +kernel, rfl, by decide +kernel, by decide +kernel⟩
theorem nm_L_choice_spec__law_cell : Nm (defScope s_L_choice_spec) "_law_cell" := nm_of (by decide +kernel)
theorem nl_L_choice_spec__law_cell : Nl (defScope s_L_choice_spec) "_law_cell" := nl_of (by decide +kernel)
theorem lo_L_choice_spec__law_cell : (defScope s_L_choice_spec).names.lookup ("_law_cell" : Str) = some .local := by decide +kernel
theorem nm_L_choice_spec__law_other : Nm (defScope s_L_choice_spec) "_law_other" := nm_of (by decide +kernel)
theorem nl_L_choice_spec__law_other : Nl (defScope s_L_choice_spec) "_law_other" := nl_of (by decide +kernel)
theorem lo_L_choice_spec__law_other : (defScope s_L_choice_spec).names.lookup ("_law_other" : Str) = some .local := by decide +kernel
theorem nm_L_choice_spec__law_small : Nm (defScope s_L_choice_spec) "_law_small" := nm_of (by decide +kernel)
theorem nl_L_choice_spec__law_small : Nl (defScope s_L_choice_spec) "_law_small" := nl_of (by decide +kernel)
theorem lo_L_choice_spec__law_small : (defScope s_L_choice_spec).names.lookup ("_law_small" : Str) = some .local := by decide +kernel
theorem nm_L_choice_spec__law_names_here : Nm (defScope s_L_choice_spec) "_law_names_here" := nm_of (by decide +kernel)
theorem nl_L_choice_spec__law_names_here : Nl (defScope s_L_choice_spec) "_law_names_here" := nl_of (by decide +kernel)
theorem lo_L_choice_spec__law_names_here : (defScope s_L_choice_spec).names.lookup ("_law_names_here" : Str) = some .local := by decide +kernel
theorem nm_L_choice_spec__law_fill : Nm (defScope s_L_choice_spec) "_law_fill" := nm_of (by decide +kernel)
theorem nl_L_choice_spec__law_fill : Nl (defScope s_L_choice_spec) "_law_fill" := nl_of (by decide +kernel)
theorem lo_L_choice_spec__law_fill : (defScope s_L_choice_spec).names.lookup ("_law_fill" : Str) = some .local := by decide +kernel
theorem nm_L_choice_spec__law_width : Nm (defScope s_L_choice_spec) "_law_width" := nm_of (by decide +kernel)
theorem nl_L_choice_spec__law_width : Nl (defScope s_L_choice_spec) "_law_width" := nl_of (by decide +kernel)
theorem lo_L_choice_spec__law_width : (defScope s_L_choice_spec).names.lookup ("_law_width" : Str) = some .local := by decide +kernel
theorem nm_L_choice_spec__law_side : Nm (defScope s_L_choice_spec) "_law_side" := nm_of (by decide +kernel)
theorem nl_L_choice_spec__law_side : Nl (defScope s_L_choice_spec) "_law_side" := nl_of (by decide +kernel)
theorem lo_L_choice_spec__law_side : (defScope s_L_choice_spec).names.lookup ("_law_side" : Str) = some .local := by decide +kernel
theorem ng_L_choice_spec__law_names : Ng (defScope s_L_choice_spec) "_law_names" := ng_of (by decide +kernel)
theorem ng_L_choice_spec__law_pick : Ng (defScope s_L_choice_spec) "_law_pick" := ng_of (by decide +kernel)
theorem ng_L_choice_spec__law_sign : Ng (defScope s_L_choice_spec) "_law_sign" := ng_of (by decide +kernel)
theorem ng_L_choice_spec_len : Ng (defScope s_L_choice_spec) "len" := ng_of (by decide +kernel)
abbrev s_L_great : Stmt := top 79
abbrev N_L_great : List Str := ["_law_cell", "_law_at", "_law_limit", "_law_one"]
abbrev A_L_great : List Str := ["_law_cell", "_law_at", "_law_limit"]
theorem sc_L_great : FnScope N_L_great A_L_great (defScope s_L_great) := ⟨rfl, rfl, rfl, by decide +kernel, rfl, by decide +kernel, by decide +kernel⟩
theorem nm_L_great__law_cell : Nm (defScope s_L_great) "_law_cell" := nm_of (by decide +kernel)
theorem nl_L_great__law_cell : Nl (defScope s_L_great) "_law_cell" := nl_of (by decide +kernel)
theorem lo_L_great__law_cell : (defScope s_L_great).names.lookup ("_law_cell" : Str) = some .local := by decide +kernel
theorem nm_L_great__law_at : Nm (defScope s_L_great) "_law_at" := nm_of (by decide +kernel)
theorem nl_L_great__law_at : Nl (defScope s_L_great) "_law_at" := nl_of (by decide +kernel)
theorem lo_L_great__law_at : (defScope s_L_great).names.lookup ("_law_at" : Str) = some .local := by decide +kernel
theorem nm_L_great__law_limit : Nm (defScope s_L_great) "_law_limit" := nm_of (by decide +kernel)
theorem nl_L_great__law_limit : Nl (defScope s_L_great) "_law_limit" := nl_of (by decide +kernel)
theorem lo_L_great__law_limit : (defScope s_L_great).names.lookup ("_law_limit" : Str) = some .local := by decide +kernel
theorem nm_L_great__law_one : Nm (defScope s_L_great) "_law_one" := nm_of (by decide +kernel)
theorem nl_L_great__law_one : Nl (defScope s_L_great) "_law_one" := nl_of (by decide +kernel)
theorem lo_L_great__law_one : (defScope s_L_great).names.lookup ("_law_one" : Str) = some .local := by decide +kernel
abbrev s_L_steps : Stmt := top 80
abbrev N_L_steps : List Str := ["_law_cell", "_law_limit", "_law_way", "_law_number"]
abbrev A_L_steps : List Str := ["_law_cell", "_law_limit"]
theorem sc_L_steps : FnScope N_L_steps A_L_steps (defScope s_L_steps) := ⟨rfl, rfl, rfl, by decide +kernel, rfl, by decide +kernel, by decide +kernel⟩
theorem nm_L_steps__law_cell : Nm (defScope s_L_steps) "_law_cell" := nm_of (by decide +kernel)
theorem nl_L_steps__law_cell : Nl (defScope s_L_steps) "_law_cell" := nl_of (by decide +kernel)
theorem lo_L_steps__law_cell : (defScope s_L_steps).names.lookup ("_law_cell" : Str) = some .local := by decide +kernel
theorem nm_L_steps__law_limit : Nm (defScope s_L_steps) "_law_limit" := nm_of (by decide +kernel)
theorem nl_L_steps__law_limit : Nl (defScope s_L_steps) "_law_limit" := nl_of (by decide +kernel)
theorem lo_L_steps__law_limit : (defScope s_L_steps).names.lookup ("_law_limit" : Str) = some .local := by decide +kernel
theorem nm_L_steps__law_way : Nm (defScope s_L_steps) "_law_way" := nm_of (by decide +kernel)
theorem nl_L_steps__law_way : Nl (defScope s_L_steps) "_law_way" := nl_of (by decide +kernel)
theorem lo_L_steps__law_way : (defScope s_L_steps).names.lookup ("_law_way" : Str) = some .local := by decide +kernel
theorem nm_L_steps__law_number : Nm (defScope s_L_steps) "_law_number" := nm_of (by decide +kernel)
theorem nl_L_steps__law_number : Nl (defScope s_L_steps) "_law_number" := nl_of (by decide +kernel)
theorem lo_L_steps__law_number : (defScope s_L_steps).names.lookup ("_law_number" : Str) = some .local := by decide +kernel
theorem ng_L_steps__law_pick : Ng (defScope s_L_steps) "_law_pick" := ng_of (by decide +kernel)
theorem ng_L_steps__law_great : Ng (defScope s_L_steps) "_law_great" := ng_of (by decide +kernel)
abbrev s_L_word : Stmt := top 81
abbrev N_L_word : List Str := ["_law_cell", "_law_signs_here", "_law_size", "_law_k"]
abbrev A_L_word : List Str := ["_law_cell", "_law_signs_here", "_law_size"]
theorem sc_L_word : FnScope N_L_word A_L_word (defScope s_L_word) := ⟨rfl, rfl, rfl, by decide +kernel, rfl, by decide +kernel, by decide +kernel⟩
theorem nm_L_word__law_cell : Nm (defScope s_L_word) "_law_cell" := nm_of (by decide +kernel)
theorem nl_L_word__law_cell : Nl (defScope s_L_word) "_law_cell" := nl_of (by decide +kernel)
theorem nm_L_word__law_signs_here : Nm (defScope s_L_word) "_law_signs_here" := nm_of (by decide +kernel)
theorem nl_L_word__law_signs_here : Nl (defScope s_L_word) "_law_signs_here" := nl_of (by decide +kernel)
theorem nm_L_word__law_size : Nm (defScope s_L_word) "_law_size" := nm_of (by decide +kernel)
theorem nl_L_word__law_size : Nl (defScope s_L_word) "_law_size" := nl_of (by decide +kernel)
theorem lo_L_word__law_size : (defScope s_L_word).names.lookup ("_law_size" : Str) = some .local := by decide +kernel
theorem ng_L_word_range : Ng (defScope s_L_word) "range" := ng_of (by decide +kernel)
abbrev s_L_spec : Stmt := top 82
abbrev N_L_spec : List Str := ["_law_script", "_law_small", "_law_kind", "_law_one", "_law_other"]
abbrev A_L_spec : List Str := ["_law_script", "_law_small"]
theorem sc_L_spec : FnScope N_L_spec A_L_spec (defScope s_L_spec) := ⟨rfl, rfl, rfl, by decide +kernel, rfl, by decide +kernel, by decide +kernel⟩
theorem nm_L_spec__law_script : Nm (defScope s_L_spec) "_law_script" := nm_of (by decide +kernel)
theorem nl_L_spec__law_script : Nl (defScope s_L_spec) "_law_script" := nl_of (by decide +kernel)
theorem lo_L_spec__law_script : (defScope s_L_spec).names.lookup ("_law_script" : Str) = some .local := by decide +kernel
theorem nm_L_spec__law_small : Nm (defScope s_L_spec) "_law_small" := nm_of (by decide +kernel)
theorem nl_L_spec__law_small : Nl (defScope s_L_spec) "_law_small" := nl_of (by decide +kernel)
theorem lo_L_spec__law_small : (defScope s_L_spec).names.lookup ("_law_small" : Str) = some .local := by decide +kernel
theorem nm_L_spec__law_kind : Nm (defScope s_L_spec) "_law_kind" := nm_of (by decide +kernel)
theorem nl_L_spec__law_kind : Nl (defScope s_L_spec) "_law_kind" := nl_of (by decide +kernel)
theorem lo_L_spec__law_kind : (defScope s_L_spec).names.lookup ("_law_kind" : Str) = some .local := by decide +kernel
theorem nm_L_spec__law_one : Nm (defScope s_L_spec) "_law_one" := nm_of (by decide +kernel)
theorem nl_L_spec__law_one : Nl (defScope s_L_spec) "_law_one" := nl_of (by decide +kernel)
theorem lo_L_spec__law_one : (defScope s_L_spec).names.lookup ("_law_one" : Str) = some .local := by decide +kernel
theorem nm_L_spec__law_other : Nm (defScope s_L_spec) "_law_other" := nm_of (by decide +kernel)
theorem nl_L_spec__law_other : Nl (defScope s_L_spec) "_law_other" := nl_of (by decide +kernel)
theorem lo_L_spec__law_other : (defScope s_L_spec).names.lookup ("_law_other" : Str) = some .local := by decide +kernel
theorem ng_L_spec__law_pick : Ng (defScope s_L_spec) "_law_pick" := ng_of (by decide +kernel)
theorem ng_L_spec__law_cell_at : Ng (defScope s_L_spec) "_law_cell_at" := ng_of (by decide +kernel)
theorem ng_L_spec__law_number_spec : Ng (defScope s_L_spec) "_law_number_spec" := ng_of (by decide +kernel)
theorem ng_L_spec__law_word_spec : Ng (defScope s_L_spec) "_law_word_spec" := ng_of (by decide +kernel)
theorem ng_L_spec__law_choice_spec : Ng (defScope s_L_spec) "_law_choice_spec" := ng_of (by decide +kernel)
abbrev s_L_form : Stmt := top 83
abbrev N_L_form : List Str := ["_law_spec_here"]
abbrev A_L_form : List Str := ["_law_spec_here"]
theorem sc_L_form : FnScope N_L_form A_L_form (defScope s_L_form) := ⟨rfl, rfl, rfl, by decide +kernel, rfl, by decide +kernel, by decide +kernel⟩
theorem nm_L_form__law_spec_here : Nm (defScope s_L_form) "_law_spec_here" := nm_of (by decide +kernel)
theorem nl_L_form__law_spec_here : Nl (defScope s_L_form) "_law_spec_here" := nl_of (by decide +kernel)
theorem lo_L_form__law_spec_here : (defScope s_L_form).names.lookup ("_law_spec_here" : Str) = some .local := by decide +kernel
theorem ng_L_form__law_number_form : Ng (defScope s_L_form) "_law_number_form" := ng_of (by decide +kernel)
theorem ng_L_form_WordForm : Ng (defScope s_L_form) "WordForm" := ng_of (by decide +kernel)
theorem ng_L_form_ChoiceForm : Ng (defScope s_L_form) "ChoiceForm" := ng_of (by decide +kernel)
theorem ng_L_form_list : Ng (defScope s_L_form) "list" := ng_of (by decide +kernel)
abbrev s_L_parts_of : Stmt := top 84
abbrev N_L_parts_of : List Str := ["_law_value_here", "_law_spec_here"]
abbrev A_L_parts_of : List Str := ["_law_value_here", "_law_spec_here"]
theorem sc_L_parts_of : FnScope N_L_parts_of A_L_parts_of (defScope s_L_parts_of) := ⟨rfl, rfl, rfl, by decide +kernel, rfl, by decide +kernel, by decide +kernel⟩
theorem nm_L_parts_of__law_value_here : Nm (defScope s_L_parts_of) "_law_value_here" := nm_of (by decide +kernel)
theorem nl_L_parts_of__law_value_here : Nl (defScope s_L_parts_of) "_law_value_here" := nl_of (by decide +kernel)
theorem lo_L_parts_of__law_value_here : (defScope s_L_parts_of).names.lookup ("_law_value_here" : Str) = some .local := by decide +kernel
theorem nm_L_parts_of__law_spec_here : Nm (defScope s_L_parts_of) "_law_spec_here" := nm_of (by decide +kernel)
theorem nl_L_parts_of__law_spec_here : Nl (defScope s_L_parts_of) "_law_spec_here" := nl_of (by decide +kernel)
theorem lo_L_parts_of__law_spec_here : (defScope s_L_parts_of).names.lookup ("_law_spec_here" : Str) = some .local := by decide +kernel
theorem ng_L_parts_of__law_parts : Ng (defScope s_L_parts_of) "_law_parts" := ng_of (by decide +kernel)
theorem ng_L_parts_of__law_power : Ng (defScope s_L_parts_of) "_law_power" := ng_of (by decide +kernel)
abbrev s_L_text : Stmt := top 85
abbrev N_L_text : List Str := ["_law_value_here", "_law_spec_here", "_law_lead", "_law_rest"]
abbrev A_L_text : List Str := ["_law_value_here", "_law_spec_here"]
theorem sc_L_text : FnScope N_L_text A_L_text (defScope s_L_text) := ⟨rfl, rfl, rfl, by decide +kernel, rfl, by decide +kernel, by decide +kernel⟩
theorem nm_L_text__law_value_here : Nm (defScope s_L_text) "_law_value_here" := nm_of (by decide +kernel)
theorem nl_L_text__law_value_here : Nl (defScope s_L_text) "_law_value_here" := nl_of (by decide +kernel)
theorem lo_L_text__law_value_here : (defScope s_L_text).names.lookup ("_law_value_here" : Str) = some .local := by decide +kernel
theorem nm_L_text__law_spec_here : Nm (defScope s_L_text) "_law_spec_here" := nm_of (by decide +kernel)
theorem nl_L_text__law_spec_here : Nl (defScope s_L_text) "_law_spec_here" := nl_of (by decide +kernel)
theorem lo_L_text__law_spec_here : (defScope s_L_text).names.lookup ("_law_spec_here" : Str) = some .local := by decide +kernel
theorem nm_L_text__law_lead : Nm (defScope s_L_text) "_law_lead" := nm_of (by decide +kernel)
theorem nl_L_text__law_lead : Nl (defScope s_L_text) "_law_lead" := nl_of (by decide +kernel)
theorem lo_L_text__law_lead : (defScope s_L_text).names.lookup ("_law_lead" : Str) = some .local := by decide +kernel
theorem nm_L_text__law_rest : Nm (defScope s_L_text) "_law_rest" := nm_of (by decide +kernel)
theorem nl_L_text__law_rest : Nl (defScope s_L_text) "_law_rest" := nl_of (by decide +kernel)
theorem lo_L_text__law_rest : (defScope s_L_text).names.lookup ("_law_rest" : Str) = some .local := by decide +kernel
theorem ng_L_text__law_parts_of : Ng (defScope s_L_text) "_law_parts_of" := ng_of (by decide +kernel)
theorem ng_L_text_len : Ng (defScope s_L_text) "len" := ng_of (by decide +kernel)
theorem ng_L_text__law_filled : Ng (defScope s_L_text) "_law_filled" := ng_of (by decide +kernel)
abbrev s_L_value : Stmt := top 86
abbrev N_L_value : List Str := ["_law_cell", "_law_spec_here", "_law_step"]
abbrev A_L_value : List Str := ["_law_cell", "_law_spec_here"]
theorem sc_L_value : FnScope N_L_value A_L_value (defScope s_L_value) := ⟨rfl, rfl, rfl, by decide +kernel, rfl, by decide +kernel, by decide +kernel⟩
theorem nm_L_value__law_cell : Nm (defScope s_L_value) "_law_cell" := nm_of (by decide +kernel)
theorem nl_L_value__law_cell : Nl (defScope s_L_value) "_law_cell" := nl_of (by decide +kernel)
theorem lo_L_value__law_cell : (defScope s_L_value).names.lookup ("_law_cell" : Str) = some .local := by decide +kernel
theorem nm_L_value__law_spec_here : Nm (defScope s_L_value) "_law_spec_here" := nm_of (by decide +kernel)
theorem nl_L_value__law_spec_here : Nl (defScope s_L_value) "_law_spec_here" := nl_of (by decide +kernel)
theorem lo_L_value__law_spec_here : (defScope s_L_value).names.lookup ("_law_spec_here" : Str) = some .local := by decide +kernel
theorem nm_L_value__law_step : Nm (defScope s_L_value) "_law_step" := nm_of (by decide +kernel)
theorem nl_L_value__law_step : Nl (defScope s_L_value) "_law_step" := nl_of (by decide +kernel)
theorem lo_L_value__law_step : (defScope s_L_value).names.lookup ("_law_step" : Str) = some .local := by decide +kernel
theorem ng_L_value__law_power : Ng (defScope s_L_value) "_law_power" := ng_of (by decide +kernel)
theorem ng_L_value__law_lowest : Ng (defScope s_L_value) "_law_lowest" := ng_of (by decide +kernel)
theorem ng_L_value__law_steps : Ng (defScope s_L_value) "_law_steps" := ng_of (by decide +kernel)
theorem ng_L_value__law_word : Ng (defScope s_L_value) "_law_word" := ng_of (by decide +kernel)
theorem ng_L_value__law_pick : Ng (defScope s_L_value) "_law_pick" := ng_of (by decide +kernel)
theorem ng_L_value_len : Ng (defScope s_L_value) "len" := ng_of (by decide +kernel)
abbrev s_L_is_number : Stmt := top 87
abbrev N_L_is_number : List Str := ["_law_value_here", "_law_spec_here", "_law_step"]
abbrev A_L_is_number : List Str := ["_law_value_here", "_law_spec_here"]
theorem sc_L_is_number : FnScope N_L_is_number A_L_is_number (defScope s_L_is_number) := ⟨rfl, rfl, rfl, by decide +kernel, rfl, by decide +kernel, by decide +kernel⟩
theorem nm_L_is_number__law_value_here : Nm (defScope s_L_is_number) "_law_value_here" := nm_of (by decide +kernel)
theorem nl_L_is_number__law_value_here : Nl (defScope s_L_is_number) "_law_value_here" := nl_of (by decide +kernel)
theorem lo_L_is_number__law_value_here : (defScope s_L_is_number).names.lookup ("_law_value_here" : Str) = some .local := by decide +kernel
theorem nm_L_is_number__law_spec_here : Nm (defScope s_L_is_number) "_law_spec_here" := nm_of (by decide +kernel)
theorem nl_L_is_number__law_spec_here : Nl (defScope s_L_is_number) "_law_spec_here" := nl_of (by decide +kernel)
theorem lo_L_is_number__law_spec_here : (defScope s_L_is_number).names.lookup ("_law_spec_here" : Str) = some .local := by decide +kernel
theorem nm_L_is_number__law_step : Nm (defScope s_L_is_number) "_law_step" := nm_of (by decide +kernel)
theorem nl_L_is_number__law_step : Nl (defScope s_L_is_number) "_law_step" := nl_of (by decide +kernel)
theorem lo_L_is_number__law_step : (defScope s_L_is_number).names.lookup ("_law_step" : Str) = some .local := by decide +kernel
theorem ng_L_is_number_isinstance : Ng (defScope s_L_is_number) "isinstance" := ng_of (by decide +kernel)
theorem ng_L_is_number_tuple : Ng (defScope s_L_is_number) "tuple" := ng_of (by decide +kernel)
theorem ng_L_is_number_len : Ng (defScope s_L_is_number) "len" := ng_of (by decide +kernel)
theorem ng_L_is_number__law_whole : Ng (defScope s_L_is_number) "_law_whole" := ng_of (by decide +kernel)
theorem ng_L_is_number__law_power : Ng (defScope s_L_is_number) "_law_power" := ng_of (by decide +kernel)
theorem ng_L_is_number__law_divisor : Ng (defScope s_L_is_number) "_law_divisor" := ng_of (by decide +kernel)
theorem ng_L_is_number_abs : Ng (defScope s_L_is_number) "abs" := ng_of (by decide +kernel)
abbrev s_L_is_value : Stmt := top 88
abbrev N_L_is_value : List Str := ["_law_value_here", "_law_spec_here", "_law_sign_here"]
abbrev A_L_is_value : List Str := ["_law_value_here", "_law_spec_here"]
theorem sc_L_is_value : FnScope N_L_is_value A_L_is_value (defScope s_L_is_value) := ⟨rfl, rfl, rfl, by decide +kernel, rfl, by decide +kernel, by decide +kernel⟩
theorem nm_L_is_value__law_value_here : Nm (defScope s_L_is_value) "_law_value_here" := nm_of (by decide +kernel)
theorem nl_L_is_value__law_value_here : Nl (defScope s_L_is_value) "_law_value_here" := nl_of (by decide +kernel)
theorem lo_L_is_value__law_value_here : (defScope s_L_is_value).names.lookup ("_law_value_here" : Str) = some .local := by decide +kernel
theorem nm_L_is_value__law_spec_here : Nm (defScope s_L_is_value) "_law_spec_here" := nm_of (by decide +kernel)
theorem nl_L_is_value__law_spec_here : Nl (defScope s_L_is_value) "_law_spec_here" := nl_of (by decide +kernel)
theorem ng_L_is_value__law_is_number : Ng (defScope s_L_is_value) "_law_is_number" := ng_of (by decide +kernel)
theorem ng_L_is_value_isinstance : Ng (defScope s_L_is_value) "isinstance" := ng_of (by decide +kernel)
theorem ng_L_is_value_str : Ng (defScope s_L_is_value) "str" := ng_of (by decide +kernel)
theorem ng_L_is_value_len : Ng (defScope s_L_is_value) "len" := ng_of (by decide +kernel)
abbrev s_L_ahead : Stmt := top 89
abbrev N_L_ahead : List Str := ["_law_one", "_law_other", "_law_spec_here"]
abbrev A_L_ahead : List Str := ["_law_one", "_law_other", "_law_spec_here"]
theorem sc_L_ahead : FnScope N_L_ahead A_L_ahead (defScope s_L_ahead) := ⟨rfl, rfl, rfl, by decide +kernel, rfl, by decide +kernel, by decide +kernel⟩
theorem nm_L_ahead__law_one : Nm (defScope s_L_ahead) "_law_one" := nm_of (by decide +kernel)
theorem nl_L_ahead__law_one : Nl (defScope s_L_ahead) "_law_one" := nl_of (by decide +kernel)
theorem lo_L_ahead__law_one : (defScope s_L_ahead).names.lookup ("_law_one" : Str) = some .local := by decide +kernel
theorem nm_L_ahead__law_other : Nm (defScope s_L_ahead) "_law_other" := nm_of (by decide +kernel)
theorem nl_L_ahead__law_other : Nl (defScope s_L_ahead) "_law_other" := nl_of (by decide +kernel)
theorem lo_L_ahead__law_other : (defScope s_L_ahead).names.lookup ("_law_other" : Str) = some .local := by decide +kernel
theorem nm_L_ahead__law_spec_here : Nm (defScope s_L_ahead) "_law_spec_here" := nm_of (by decide +kernel)
theorem nl_L_ahead__law_spec_here : Nl (defScope s_L_ahead) "_law_spec_here" := nl_of (by decide +kernel)
theorem lo_L_ahead__law_spec_here : (defScope s_L_ahead).names.lookup ("_law_spec_here" : Str) = some .local := by decide +kernel
abbrev s_L_single : Stmt := top 90
abbrev N_L_single : List Str := ["_law_form_here", "_law_text_here", "_law_found", "e", "_law_some"]
abbrev A_L_single : List Str := ["_law_form_here", "_law_text_here"]
theorem sc_L_single : FnScope N_L_single A_L_single (defScope s_L_single) := ⟨rfl, rfl, rfl, by decide +kernel, rfl, by decide +kernel, by decide +kernel⟩
theorem nm_L_single__law_form_here : Nm (defScope s_L_single) "_law_form_here" := nm_of (by decide +kernel)
theorem nl_L_single__law_form_here : Nl (defScope s_L_single) "_law_form_here" := nl_of (by decide +kernel)
theorem lo_L_single__law_form_here : (defScope s_L_single).names.lookup ("_law_form_here" : Str) = some .local := by decide +kernel
theorem nm_L_single__law_text_here : Nm (defScope s_L_single) "_law_text_here" := nm_of (by decide +kernel)
theorem nl_L_single__law_text_here : Nl (defScope s_L_single) "_law_text_here" := nl_of (by decide +kernel)
theorem lo_L_single__law_text_here : (defScope s_L_single).names.lookup ("_law_text_here" : Str) = some .local := by decide +kernel
theorem nm_L_single__law_found : Nm (defScope s_L_single) "_law_found" := nm_of (by decide +kernel)
theorem nl_L_single__law_found : Nl (defScope s_L_single) "_law_found" := nl_of (by decide +kernel)
theorem lo_L_single__law_found : (defScope s_L_single).names.lookup ("_law_found" : Str) = some .local := by decide +kernel
theorem nm_L_single_e : Nm (defScope s_L_single) "e" := nm_of (by decide +kernel)
theorem nl_L_single_e : Nl (defScope s_L_single) "e" := nl_of (by decide +kernel)
theorem lo_L_single_e : (defScope s_L_single).names.lookup ("e" : Str) = some .local := by decide +kernel
theorem nm_L_single__law_some : Nm (defScope s_L_single) "_law_some" := nm_of (by decide +kernel)
theorem nl_L_single__law_some : Nl (defScope s_L_single) "_law_some" := nl_of (by decide +kernel)
theorem lo_L_single__law_some : (defScope s_L_single).names.lookup ("_law_some" : Str) = some .local := by decide +kernel
theorem ng_L_single_NoText : Ng (defScope s_L_single) "NoText" := ng_of (by decide +kernel)
theorem ng_L_single_TwoValues : Ng (defScope s_L_single) "TwoValues" := ng_of (by decide +kernel)
theorem ng_L_single_list : Ng (defScope s_L_single) "list" := ng_of (by decide +kernel)
abbrev s_L_near : Stmt := top 91
abbrev N_L_near : List Str := ["_law_one", "_law_spec_here", "_law_fill", "_law_base", "_law_step", "_law_steps_here", "_law_great_here", "_law_figure", "_law_some", "_law_each"]
abbrev A_L_near : List Str := ["_law_one", "_law_spec_here"]
theorem sc_L_near : FnScope N_L_near A_L_near (defScope s_L_near) := ⟨rfl, rfl, rfl, by decide +kernel, rfl, by decide +kernel, by decide +kernel⟩
theorem nm_L_near__law_one : Nm (defScope s_L_near) "_law_one" := nm_of (by decide +kernel)
theorem nl_L_near__law_one : Nl (defScope s_L_near) "_law_one" := nl_of (by decide +kernel)
theorem lo_L_near__law_one : (defScope s_L_near).names.lookup ("_law_one" : Str) = some .local := by decide +kernel
theorem nm_L_near__law_spec_here : Nm (defScope s_L_near) "_law_spec_here" := nm_of (by decide +kernel)
theorem nl_L_near__law_spec_here : Nl (defScope s_L_near) "_law_spec_here" := nl_of (by decide +kernel)
theorem lo_L_near__law_spec_here : (defScope s_L_near).names.lookup ("_law_spec_here" : Str) = some .local := by decide +kernel
theorem nm_L_near__law_fill : Nm (defScope s_L_near) "_law_fill" := nm_of (by decide +kernel)
theorem nl_L_near__law_fill : Nl (defScope s_L_near) "_law_fill" := nl_of (by decide +kernel)
theorem lo_L_near__law_fill : (defScope s_L_near).names.lookup ("_law_fill" : Str) = some .local := by decide +kernel
theorem nm_L_near__law_base : Nm (defScope s_L_near) "_law_base" := nm_of (by decide +kernel)
theorem nl_L_near__law_base : Nl (defScope s_L_near) "_law_base" := nl_of (by decide +kernel)
theorem lo_L_near__law_base : (defScope s_L_near).names.lookup ("_law_base" : Str) = some .local := by decide +kernel
theorem nm_L_near__law_step : Nm (defScope s_L_near) "_law_step" := nm_of (by decide +kernel)
theorem nl_L_near__law_step : Nl (defScope s_L_near) "_law_step" := nl_of (by decide +kernel)
theorem nm_L_near__law_steps_here : Nm (defScope s_L_near) "_law_steps_here" := nm_of (by decide +kernel)
theorem nl_L_near__law_steps_here : Nl (defScope s_L_near) "_law_steps_here" := nl_of (by decide +kernel)
theorem lo_L_near__law_steps_here : (defScope s_L_near).names.lookup ("_law_steps_here" : Str) = some .local := by decide +kernel
theorem nm_L_near__law_great_here : Nm (defScope s_L_near) "_law_great_here" := nm_of (by decide +kernel)
theorem nl_L_near__law_great_here : Nl (defScope s_L_near) "_law_great_here" := nl_of (by decide +kernel)
theorem lo_L_near__law_great_here : (defScope s_L_near).names.lookup ("_law_great_here" : Str) = some .local := by decide +kernel
theorem nm_L_near__law_figure : Nm (defScope s_L_near) "_law_figure" := nm_of (by decide +kernel)
theorem nl_L_near__law_figure : Nl (defScope s_L_near) "_law_figure" := nl_of (by decide +kernel)
theorem lo_L_near__law_figure : (defScope s_L_near).names.lookup ("_law_figure" : Str) = some .local := by decide +kernel
theorem nm_L_near__law_some : Nm (defScope s_L_near) "_law_some" := nm_of (by decide +kernel)
theorem nl_L_near__law_some : Nl (defScope s_L_near) "_law_some" := nl_of (by decide +kernel)
theorem lo_L_near__law_some : (defScope s_L_near).names.lookup ("_law_some" : Str) = some .local := by decide +kernel
theorem ng_L_near__law_power : Ng (defScope s_L_near) "_law_power" := ng_of (by decide +kernel)
theorem ng_L_near_abs : Ng (defScope s_L_near) "abs" := ng_of (by decide +kernel)
theorem ng_L_near_len : Ng (defScope s_L_near) "len" := ng_of (by decide +kernel)
theorem ng_L_near__law_figures : Ng (defScope s_L_near) "_law_figures" := ng_of (by decide +kernel)
theorem ng_L_near_max : Ng (defScope s_L_near) "max" := ng_of (by decide +kernel)
abbrev s_L_is_full : Stmt := top 92
abbrev N_L_is_full : List Str := ["_law_told", "_law_spec_here", "_law_text_here", "_law_one", "_law_other"]
abbrev A_L_is_full : List Str := ["_law_told", "_law_spec_here", "_law_text_here"]
theorem sc_L_is_full : FnScope N_L_is_full A_L_is_full (defScope s_L_is_full) := ⟨rfl, rfl, rfl, by decide +kernel, rfl, by decide +kernel, by decide +kernel⟩
theorem nm_L_is_full__law_told : Nm (defScope s_L_is_full) "_law_told" := nm_of (by decide +kernel)
theorem nl_L_is_full__law_told : Nl (defScope s_L_is_full) "_law_told" := nl_of (by decide +kernel)
theorem lo_L_is_full__law_told : (defScope s_L_is_full).names.lookup ("_law_told" : Str) = some .local := by decide +kernel
theorem nm_L_is_full__law_spec_here : Nm (defScope s_L_is_full) "_law_spec_here" := nm_of (by decide +kernel)
theorem nl_L_is_full__law_spec_here : Nl (defScope s_L_is_full) "_law_spec_here" := nl_of (by decide +kernel)
theorem lo_L_is_full__law_spec_here : (defScope s_L_is_full).names.lookup ("_law_spec_here" : Str) = some .local := by decide +kernel
theorem nm_L_is_full__law_text_here : Nm (defScope s_L_is_full) "_law_text_here" := nm_of (by decide +kernel)
theorem nl_L_is_full__law_text_here : Nl (defScope s_L_is_full) "_law_text_here" := nl_of (by decide +kernel)
theorem lo_L_is_full__law_text_here : (defScope s_L_is_full).names.lookup ("_law_text_here" : Str) = some .local := by decide +kernel
theorem nm_L_is_full__law_one : Nm (defScope s_L_is_full) "_law_one" := nm_of (by decide +kernel)
theorem nl_L_is_full__law_one : Nl (defScope s_L_is_full) "_law_one" := nl_of (by decide +kernel)
theorem lo_L_is_full__law_one : (defScope s_L_is_full).names.lookup ("_law_one" : Str) = some .local := by decide +kernel
theorem nm_L_is_full__law_other : Nm (defScope s_L_is_full) "_law_other" := nm_of (by decide +kernel)
theorem nl_L_is_full__law_other : Nl (defScope s_L_is_full) "_law_other" := nl_of (by decide +kernel)
theorem lo_L_is_full__law_other : (defScope s_L_is_full).names.lookup ("_law_other" : Str) = some .local := by decide +kernel
theorem ng_L_is_full__law_near : Ng (defScope s_L_is_full) "_law_near" := ng_of (by decide +kernel)
theorem ng_L_is_full__law_is_value : Ng (defScope s_L_is_full) "_law_is_value" := ng_of (by decide +kernel)
theorem ng_L_is_full__law_text : Ng (defScope s_L_is_full) "_law_text" := ng_of (by decide +kernel)
abbrev s_L_good : Stmt := top 93
abbrev N_L_good : List Str := ["_law_form_here", "_law_spec_here", "_law_text_here", "_law_value_here", "_law_told", "_law_one", "_law_other", "_law_kept", "_law_due"]
abbrev A_L_good : List Str := ["_law_form_here", "_law_spec_here", "_law_text_here", "_law_value_here"]
theorem sc_L_good : FnScope N_L_good A_L_good (defScope s_L_good) := ⟨rfl, rfl, rfl, by decide +kernel, rfl, by decide +kernel, by decide +kernel⟩
theorem nm_L_good__law_form_here : Nm (defScope s_L_good) "_law_form_here" := nm_of (by decide +kernel)
theorem nl_L_good__law_form_here : Nl (defScope s_L_good) "_law_form_here" := nl_of (by decide +kernel)
theorem lo_L_good__law_form_here : (defScope s_L_good).names.lookup ("_law_form_here" : Str) = some .local := by decide +kernel
theorem nm_L_good__law_spec_here : Nm (defScope s_L_good) "_law_spec_here" := nm_of (by decide +kernel)
theorem nl_L_good__law_spec_here : Nl (defScope s_L_good) "_law_spec_here" := nl_of (by decide +kernel)
theorem lo_L_good__law_spec_here : (defScope s_L_good).names.lookup ("_law_spec_here" : Str) = some .local := by decide +kernel
theorem nm_L_good__law_text_here : Nm (defScope s_L_good) "_law_text_here" := nm_of (by decide +kernel)
theorem nl_L_good__law_text_here : Nl (defScope s_L_good) "_law_text_here" := nl_of (by decide +kernel)
theorem lo_L_good__law_text_here : (defScope s_L_good).names.lookup ("_law_text_here" : Str) = some .local := by decide +kernel
theorem nm_L_good__law_value_here : Nm (defScope s_L_good) "_law_value_here" := nm_of (by decide +kernel)
theorem nl_L_good__law_value_here : Nl (defScope s_L_good) "_law_value_here" := nl_of (by decide +kernel)
theorem lo_L_good__law_value_here : (defScope s_L_good).names.lookup ("_law_value_here" : Str) = some .local := by decide +kernel
theorem nm_L_good__law_told : Nm (defScope s_L_good) "_law_told" := nm_of (by decide +kernel)
theorem nl_L_good__law_told : Nl (defScope s_L_good) "_law_told" := nl_of (by decide +kernel)
theorem lo_L_good__law_told : (defScope s_L_good).names.lookup ("_law_told" : Str) = some .local := by decide +kernel
theorem nm_L_good__law_one : Nm (defScope s_L_good) "_law_one" := nm_of (by decide +kernel)
theorem nl_L_good__law_one : Nl (defScope s_L_good) "_law_one" := nl_of (by decide +kernel)
theorem lo_L_good__law_one : (defScope s_L_good).names.lookup ("_law_one" : Str) = some .local := by decide +kernel
theorem nm_L_good__law_other : Nm (defScope s_L_good) "_law_other" := nm_of (by decide +kernel)
theorem nl_L_good__law_other : Nl (defScope s_L_good) "_law_other" := nl_of (by decide +kernel)
theorem lo_L_good__law_other : (defScope s_L_good).names.lookup ("_law_other" : Str) = some .local := by decide +kernel
theorem nm_L_good__law_kept : Nm (defScope s_L_good) "_law_kept" := nm_of (by decide +kernel)
theorem nl_L_good__law_kept : Nl (defScope s_L_good) "_law_kept" := nl_of (by decide +kernel)
theorem lo_L_good__law_kept : (defScope s_L_good).names.lookup ("_law_kept" : Str) = some .local := by decide +kernel
theorem nm_L_good__law_due : Nm (defScope s_L_good) "_law_due" := nm_of (by decide +kernel)
theorem nl_L_good__law_due : Nl (defScope s_L_good) "_law_due" := nl_of (by decide +kernel)
theorem lo_L_good__law_due : (defScope s_L_good).names.lookup ("_law_due" : Str) = some .local := by decide +kernel
theorem ng_L_good_isinstance : Ng (defScope s_L_good) "isinstance" := ng_of (by decide +kernel)
theorem ng_L_good_list : Ng (defScope s_L_good) "list" := ng_of (by decide +kernel)
theorem ng_L_good__law_is_value : Ng (defScope s_L_good) "_law_is_value" := ng_of (by decide +kernel)
theorem ng_L_good__law_text : Ng (defScope s_L_good) "_law_text" := ng_of (by decide +kernel)
theorem ng_L_good_zip : Ng (defScope s_L_good) "zip" := ng_of (by decide +kernel)
theorem ng_L_good__law_ahead : Ng (defScope s_L_good) "_law_ahead" := ng_of (by decide +kernel)
theorem ng_L_good__law_is_full : Ng (defScope s_L_good) "_law_is_full" := ng_of (by decide +kernel)
theorem ng_L_good_min : Ng (defScope s_L_good) "min" := ng_of (by decide +kernel)
theorem ng_L_good_len : Ng (defScope s_L_good) "len" := ng_of (by decide +kernel)
theorem ng_L_good__law_single : Ng (defScope s_L_good) "_law_single" := ng_of (by decide +kernel)
abbrev s_L_spoilt : Stmt := top 94
abbrev N_L_spoilt : List Str := ["_law_cell", "_law_text_here", "_law_at", "_law_sign_here"]
abbrev A_L_spoilt : List Str := ["_law_cell", "_law_text_here"]
theorem sc_L_spoilt : FnScope N_L_spoilt A_L_spoilt (defScope s_L_spoilt) := ⟨rfl, rfl, rfl, by decide +kernel, rfl, by decide +kernel, by decide +kernel⟩
theorem nm_L_spoilt__law_cell : Nm (defScope s_L_spoilt) "_law_cell" := nm_of (by decide +kernel)
theorem nl_L_spoilt__law_cell : Nl (defScope s_L_spoilt) "_law_cell" := nl_of (by decide +kernel)
theorem lo_L_spoilt__law_cell : (defScope s_L_spoilt).names.lookup ("_law_cell" : Str) = some .local := by decide +kernel
theorem nm_L_spoilt__law_text_here : Nm (defScope s_L_spoilt) "_law_text_here" := nm_of (by decide +kernel)
theorem nl_L_spoilt__law_text_here : Nl (defScope s_L_spoilt) "_law_text_here" := nl_of (by decide +kernel)
theorem lo_L_spoilt__law_text_here : (defScope s_L_spoilt).names.lookup ("_law_text_here" : Str) = some .local := by decide +kernel
theorem nm_L_spoilt__law_at : Nm (defScope s_L_spoilt) "_law_at" := nm_of (by decide +kernel)
theorem nl_L_spoilt__law_at : Nl (defScope s_L_spoilt) "_law_at" := nl_of (by decide +kernel)
theorem lo_L_spoilt__law_at : (defScope s_L_spoilt).names.lookup ("_law_at" : Str) = some .local := by decide +kernel
theorem nm_L_spoilt__law_sign_here : Nm (defScope s_L_spoilt) "_law_sign_here" := nm_of (by decide +kernel)
theorem nl_L_spoilt__law_sign_here : Nl (defScope s_L_spoilt) "_law_sign_here" := nl_of (by decide +kernel)
theorem lo_L_spoilt__law_sign_here : (defScope s_L_spoilt).names.lookup ("_law_sign_here" : Str) = some .local := by decide +kernel
theorem ng_L_spoilt__law_pick : Ng (defScope s_L_spoilt) "_law_pick" := ng_of (by decide +kernel)
theorem ng_L_spoilt_len : Ng (defScope s_L_spoilt) "len" := ng_of (by decide +kernel)
theorem ng_L_spoilt__law_sign : Ng (defScope s_L_spoilt) "_law_sign" := ng_of (by decide +kernel)
abbrev s_L_law : Stmt := top 95
abbrev N_L_law : List Str := ["_law_script", "_law_spec_here", "_law_form_here", "_law_k", "_law_cell", "_law_value_here", "_law_text_here", "_law_lead", "_law_rest", "_law_one"]
abbrev A_L_law : List Str := ["_law_script"]
theorem sc_L_law : FnScope N_L_law A_L_law (defScope s_L_law) := ⟨rfl, rfl, rfl, by decide +kernel, rfl, by decide +kernel, by decide +kernel⟩
theorem nm_L_law__law_script : Nm (defScope s_L_law) "_law_script" := nm_of (by decide +kernel)
theorem nl_L_law__law_script : Nl (defScope s_L_law) "_law_script" := nl_of (by decide +kernel)
theorem lo_L_law__law_script : (defScope s_L_law).names.lookup ("_law_script" : Str) = some .local := by decide +kernel
theorem nm_L_law__law_spec_here : Nm (defScope s_L_law) "_law_spec_here" := nm_of (by decide +kernel)
theorem nl_L_law__law_spec_here : Nl (defScope s_L_law) "_law_spec_here" := nl_of (by decide +kernel)
theorem lo_L_law__law_spec_here : (defScope s_L_law).names.lookup ("_law_spec_here" : Str) = some .local := by decide +kernel
theorem nm_L_law__law_form_here : Nm (defScope s_L_law) "_law_form_here" := nm_of (by decide +kernel)
theorem nl_L_law__law_form_here : Nl (defScope s_L_law) "_law_form_here" := nl_of (by decide +kernel)
theorem lo_L_law__law_form_here : (defScope s_L_law).names.lookup ("_law_form_here" : Str) = some .local := by decide +kernel
theorem nm_L_law__law_k : Nm (defScope s_L_law) "_law_k" := nm_of (by decide +kernel)
theorem nl_L_law__law_k : Nl (defScope s_L_law) "_law_k" := nl_of (by decide +kernel)
theorem lo_L_law__law_k : (defScope s_L_law).names.lookup ("_law_k" : Str) = some .local := by decide +kernel
theorem nm_L_law__law_cell : Nm (defScope s_L_law) "_law_cell" := nm_of (by decide +kernel)
theorem nl_L_law__law_cell : Nl (defScope s_L_law) "_law_cell" := nl_of (by decide +kernel)
theorem lo_L_law__law_cell : (defScope s_L_law).names.lookup ("_law_cell" : Str) = some .local := by decide +kernel
theorem nm_L_law__law_value_here : Nm (defScope s_L_law) "_law_value_here" := nm_of (by decide +kernel)
theorem nl_L_law__law_value_here : Nl (defScope s_L_law) "_law_value_here" := nl_of (by decide +kernel)
theorem lo_L_law__law_value_here : (defScope s_L_law).names.lookup ("_law_value_here" : Str) = some .local := by decide +kernel
theorem nm_L_law__law_text_here : Nm (defScope s_L_law) "_law_text_here" := nm_of (by decide +kernel)
theorem nl_L_law__law_text_here : Nl (defScope s_L_law) "_law_text_here" := nl_of (by decide +kernel)
theorem lo_L_law__law_text_here : (defScope s_L_law).names.lookup ("_law_text_here" : Str) = some .local := by decide +kernel
theorem nm_L_law__law_lead : Nm (defScope s_L_law) "_law_lead" := nm_of (by decide +kernel)
theorem nl_L_law__law_lead : Nl (defScope s_L_law) "_law_lead" := nl_of (by decide +kernel)
theorem lo_L_law__law_lead : (defScope s_L_law).names.lookup ("_law_lead" : Str) = some .local := by decide +kernel
theorem nm_L_law__law_rest : Nm (defScope s_L_law) "_law_rest" := nm_of (by decide +kernel)
theorem nl_L_law__law_rest : Nl (defScope s_L_law) "_law_rest" := nl_of (by decide +kernel)
theorem lo_L_law__law_rest : (defScope s_L_law).names.lookup ("_law_rest" : Str) = some .local := by decide +kernel
theorem nm_L_law__law_one : Nm (defScope s_L_law) "_law_one" := nm_of (by decide +kernel)
theorem nl_L_law__law_one : Nl (defScope s_L_law) "_law_one" := nl_of (by decide +kernel)
theorem lo_L_law__law_one : (defScope s_L_law).names.lookup ("_law_one" : Str) = some .local := by decide +kernel
theorem ng_L_law__law_spec : Ng (defScope s_L_law) "_law_spec" := ng_of (by decide +kernel)
theorem ng_L_law__law_form : Ng (defScope s_L_law) "_law_form" := ng_of (by decide +kernel)
theorem ng_L_law_range : Ng (defScope s_L_law) "range" := ng_of (by decide +kernel)
theorem ng_L_law_max : Ng (defScope s_L_law) "max" := ng_of (by decide +kernel)
theorem ng_L_law_min : Ng (defScope s_L_law) "min" := ng_of (by decide +kernel)
theorem ng_L_law_len : Ng (defScope s_L_law) "len" := ng_of (by decide +kernel)
theorem ng_L_law__law_cell_at : Ng (defScope s_L_law) "_law_cell_at" := ng_of (by decide +kernel)
theorem ng_L_law__law_value : Ng (defScope s_L_law) "_law_value" := ng_of (by decide +kernel)
theorem ng_L_law__law_text : Ng (defScope s_L_law) "_law_text" := ng_of (by decide +kernel)
theorem ng_L_law__law_parts_of : Ng (defScope s_L_law) "_law_parts_of" := ng_of (by decide +kernel)
theorem ng_L_law__law_good : Ng (defScope s_L_law) "_law_good" := ng_of (by decide +kernel)
theorem ng_L_law__law_spoilt : Ng (defScope s_L_law) "_law_spoilt" := ng_of (by decide +kernel)
theorem bb_len : bootBuiltins "len" = some (.builtin "len") := by decide +kernel
theorem bb_abs : bootBuiltins "abs" = some (.builtin "abs") := by decide +kernel
theorem bb_max : bootBuiltins "max" = some (.builtin "max") := by decide +kernel
theorem bb_min : bootBuiltins "min" = some (.builtin "min") := by decide +kernel
theorem bb_isinstance : bootBuiltins "isinstance" = some (.builtin "isinstance") := by decide +kernel
theorem bb_sorted : bootBuiltins "sorted" = some (.builtin "sorted") := by decide +kernel
theorem bb_list : bootBuiltins "list" = some (.type "list") := by decide +kernel
theorem bb_str : bootBuiltins "str" = some (.type "str") := by decide +kernel
theorem bb_int : bootBuiltins "int" = some (.type "int") := by decide +kernel
theorem bb_bool : bootBuiltins "bool" = some (.type "bool") := by decide +kernel
theorem bb_tuple : bootBuiltins "tuple" = some (.type "tuple") := by decide +kernel
theorem hu_of1 {A : Around} {k : Nat} (hr : Room k A) : A.units + 64 < cLine := hr.units
theorem hu_of2 {A : Around} {k : Nat} (hr : Room k A) : A.units + 65 < cLine := by have := hr.un; omega
def figs16 : List Nat := [48, 49, 50, 51, 52, 53, 54, 55, 56, 57, 97, 98, 99, 100, 101, 102]
def styles : List (List Nat) := [[109, 105, 110, 117, 115], [112, 108, 117, 115], [98, 108, 97, 110, 107], [98, 114, 97, 99, 107, 101, 116, 115], [98, 101, 104, 105, 110, 100]]
/-- what stands ahead and behind, by the style -/
def aboveT : List (List Nat × List Nat × List Nat) := [([109, 105, 110, 117, 115], [], []), ([112, 108, 117, 115], [43], []), ([98, 108, 97, 110, 107], [32], []), ([98, 114, 97, 99, 107, 101, 116, 115], [], []), ([98, 101, 104, 105, 110, 100], [], [])]
def belowT : List (List Nat × List Nat × List Nat) := [([109, 105, 110, 117, 115], [45], []), ([112, 108, 117, 115], [45], []), ([98, 108, 97, 110, 107], [45], []), ([98, 114, 97, 99, 107, 101, 116, 115], [40], [41]), ([98, 101, 104, 105, 110, 100], [], [45])]
/-- what the top has left -/
structure TX (w : World) (K : PySem.W.Frag) (mg : Str → Option Value) : Prop where
  d_P_TwoValues___init__ : ∃ fd, FunD K "__init__" "TwoValues.__init__" (defArgs s_P_TwoValues___init__) (defBody s_P_TwoValues___init__) (defScope s_P_TwoValues___init__) [] [] (He.ma K (He.ga K "TwoValues") "__init__") fd
  d_P_number_of : ∃ fd, FunD K "number_of" "number_of" (defArgs s_P_number_of) (defBody s_P_number_of) (defScope s_P_number_of) [] [] (He.ga K "number_of") fd
  g_P_number_of : mg "number_of" = some (.ref (He.ga K "number_of"))
  d_P_marks_in : ∃ fd, FunD K "marks_in" "marks_in" (defArgs s_P_marks_in) (defBody s_P_marks_in) (defScope s_P_marks_in) [] [] (He.ga K "marks_in") fd
  g_P_marks_in : mg "marks_in" = some (.ref (He.ga K "marks_in"))
  d_P_signs_in : ∃ fd, FunD K "signs_in" "signs_in" (defArgs s_P_signs_in) (defBody s_P_signs_in) (defScope s_P_signs_in) [] [] (He.ga K "signs_in") fd
  g_P_signs_in : mg "signs_in" = some (.ref (He.ga K "signs_in"))
  d_P_ungrouped : ∃ fd, FunD K "ungrouped" "ungrouped" (defArgs s_P_ungrouped) (defBody s_P_ungrouped) (defScope s_P_ungrouped) [] [] (He.ga K "ungrouped") fd
  g_P_ungrouped : mg "ungrouped" = some (.ref (He.ga K "ungrouped"))
  d_P_is_whole : ∃ fd, FunD K "is_whole" "is_whole" (defArgs s_P_is_whole) (defBody s_P_is_whole) (defScope s_P_is_whole) [] [] (He.ga K "is_whole") fd
  g_P_is_whole : mg "is_whole" = some (.ref (He.ga K "is_whole"))
  d_P_power_of : ∃ fd, FunD K "power_of" "power_of" (defArgs s_P_power_of) (defBody s_P_power_of) (defScope s_P_power_of) [] [] (He.ga K "power_of") fd
  g_P_power_of : mg "power_of" = some (.ref (He.ga K "power_of"))
  d_P_whole_in : ∃ fd, FunD K "whole_in" "whole_in" (defArgs s_P_whole_in) (defBody s_P_whole_in) (defScope s_P_whole_in) [] [] (He.ga K "whole_in") fd
  g_P_whole_in : mg "whole_in" = some (.ref (He.ga K "whole_in"))
  d_P_worth_of : ∃ fd, FunD K "worth_of" "worth_of" (defArgs s_P_worth_of) (defBody s_P_worth_of) (defScope s_P_worth_of) [] [] (He.ga K "worth_of") fd
  g_P_worth_of : mg "worth_of" = some (.ref (He.ga K "worth_of"))
  d_P_number_in : ∃ fd, FunD K "number_in" "number_in" (defArgs s_P_number_in) (defBody s_P_number_in) (defScope s_P_number_in) [] [] (He.ga K "number_in") fd
  g_P_number_in : mg "number_in" = some (.ref (He.ga K "number_in"))
  d_P_ends_of : ∃ fd, FunD K "ends_of" "ends_of" (defArgs s_P_ends_of) (defBody s_P_ends_of) (defScope s_P_ends_of) [] [] (He.ga K "ends_of") fd
  g_P_ends_of : mg "ends_of" = some (.ref (He.ga K "ends_of"))
  d_P_Form___init__ : ∃ fd, FunD K "__init__" "Form.__init__" (defArgs s_P_Form___init__) (defBody s_P_Form___init__) (defScope s_P_Form___init__) [] [] (He.ma K (He.ga K "Form") "__init__") fd
  d_P_too_long : ∃ fd, FunD K "too_long" "too_long" (defArgs s_P_too_long) (defBody s_P_too_long) (defScope s_P_too_long) [] [] (He.ga K "too_long") fd
  g_P_too_long : mg "too_long" = some (.ref (He.ga K "too_long"))
  d_P_only_one : ∃ fd, FunD K "only_one" "only_one" (defArgs s_P_only_one) (defBody s_P_only_one) (defScope s_P_only_one) [] [] (He.ga K "only_one") fd
  g_P_only_one : mg "only_one" = some (.ref (He.ga K "only_one"))
  d_P_divisor_of : ∃ fd, FunD K "divisor_of" "divisor_of" (defArgs s_P_divisor_of) (defBody s_P_divisor_of) (defScope s_P_divisor_of) [] [] (He.ga K "divisor_of") fd
  g_P_divisor_of : mg "divisor_of" = some (.ref (He.ga K "divisor_of"))
  d_P_fraction : ∃ fd, FunD K "fraction" "fraction" (defArgs s_P_fraction) (defBody s_P_fraction) (defScope s_P_fraction) [] [] (He.ga K "fraction") fd
  g_P_fraction : mg "fraction" = some (.ref (He.ga K "fraction"))
  d_P_grid_value : ∃ fd, FunD K "grid_value" "grid_value" (defArgs s_P_grid_value) (defBody s_P_grid_value) (defScope s_P_grid_value) [] [] (He.ga K "grid_value") fd
  g_P_grid_value : mg "grid_value" = some (.ref (He.ga K "grid_value"))
  d_P_pads_of : ∃ fd, FunD K "pads_of" "pads_of" (defArgs s_P_pads_of) (defBody s_P_pads_of) (defScope s_P_pads_of) [] [] (He.ga K "pads_of") fd
  g_P_pads_of : mg "pads_of" = some (.ref (He.ga K "pads_of"))
  d_P_padded : ∃ fd, FunD K "padded" "padded" (defArgs s_P_padded) (defBody s_P_padded) (defScope s_P_padded) [] [] (He.ga K "padded") fd
  g_P_padded : mg "padded" = some (.ref (He.ga K "padded"))
  d_P_padded_inside : ∃ fd, FunD K "padded_inside" "padded_inside" (defArgs s_P_padded_inside) (defBody s_P_padded_inside) (defScope s_P_padded_inside) [] [] (He.ga K "padded_inside") fd
  g_P_padded_inside : mg "padded_inside" = some (.ref (He.ga K "padded_inside"))
  d_P_stripped : ∃ fd, FunD K "stripped" "stripped" (defArgs s_P_stripped) (defBody s_P_stripped) (defScope s_P_stripped) [] [] (He.ga K "stripped") fd
  g_P_stripped : mg "stripped" = some (.ref (He.ga K "stripped"))
  d_P_stripped_inside : ∃ fd, FunD K "stripped_inside" "stripped_inside" (defArgs s_P_stripped_inside) (defBody s_P_stripped_inside) (defScope s_P_stripped_inside) [] [] (He.ga K "stripped_inside") fd
  g_P_stripped_inside : mg "stripped_inside" = some (.ref (He.ga K "stripped_inside"))
  d_P_NumberForm___init__ : ∃ fd, FunD K "__init__" "NumberForm.__init__" (defArgs s_P_NumberForm___init__) (defBody s_P_NumberForm___init__) (defScope s_P_NumberForm___init__) [.int 10, .str (S [109, 105, 110, 117, 115]), .int 0, .str (S [44]), .str (S [46]), .str (S [110, 101, 97, 114]), .int 0, .str (S [32]), .str (S [114, 105, 103, 104, 116]), .bl false] [] (He.ma K (He.ga K "NumberForm") "__init__") fd
  d_P_NumberForm_rests_in : ∃ fd, FunD K "rests_in" "NumberForm.rests_in" (defArgs s_P_NumberForm_rests_in) (defBody s_P_NumberForm_rests_in) (defScope s_P_NumberForm_rests_in) [] [] (He.ma K (He.ga K "NumberForm") "rests_in") fd
  d_P_NumberForm_steps_in : ∃ fd, FunD K "steps_in" "NumberForm.steps_in" (defArgs s_P_NumberForm_steps_in) (defBody s_P_NumberForm_steps_in) (defScope s_P_NumberForm_steps_in) [] [] (He.ma K (He.ga K "NumberForm") "steps_in") fd
  d_P_NumberForm_all_steps : ∃ fd, FunD K "all_steps" "NumberForm.all_steps" (defArgs s_P_NumberForm_all_steps) (defBody s_P_NumberForm_all_steps) (defScope s_P_NumberForm_all_steps) [] [] (He.ma K (He.ga K "NumberForm") "all_steps") fd
  d_P_NumberForm_values_for : ∃ fd, FunD K "values_for" "NumberForm.values_for" (defArgs s_P_NumberForm_values_for) (defBody s_P_NumberForm_values_for) (defScope s_P_NumberForm_values_for) [] [] (He.ma K (He.ga K "NumberForm") "values_for") fd
  d_P_NumberForm_value_of : ∃ fd, FunD K "value_of" "NumberForm.value_of" (defArgs s_P_NumberForm_value_of) (defBody s_P_NumberForm_value_of) (defScope s_P_NumberForm_value_of) [] [] (He.ma K (He.ga K "NumberForm") "value_of") fd
  d_P_cores_in : ∃ fd, FunD K "cores_in" "cores_in" (defArgs s_P_cores_in) (defBody s_P_cores_in) (defScope s_P_cores_in) [] [] (He.ga K "cores_in") fd
  g_P_cores_in : mg "cores_in" = some (.ref (He.ga K "cores_in"))
  d_P_WordForm___init__ : ∃ fd, FunD K "__init__" "WordForm.__init__" (defArgs s_P_WordForm___init__) (defBody s_P_WordForm___init__) (defScope s_P_WordForm___init__) [.int 0, .str (S [32]), .str (S [108, 101, 102, 116]), .bl false] [] (He.ma K (He.ga K "WordForm") "__init__") fd
  d_P_WordForm_is_word : ∃ fd, FunD K "is_word" "WordForm.is_word" (defArgs s_P_WordForm_is_word) (defBody s_P_WordForm_is_word) (defScope s_P_WordForm_is_word) [] [] (He.ma K (He.ga K "WordForm") "is_word") fd
  d_P_WordForm_values_for : ∃ fd, FunD K "values_for" "WordForm.values_for" (defArgs s_P_WordForm_values_for) (defBody s_P_WordForm_values_for) (defScope s_P_WordForm_values_for) [] [] (He.ma K (He.ga K "WordForm") "values_for") fd
  d_P_WordForm_value_of : ∃ fd, FunD K "value_of" "WordForm.value_of" (defArgs s_P_WordForm_value_of) (defBody s_P_WordForm_value_of) (defScope s_P_WordForm_value_of) [] [] (He.ma K (He.ga K "WordForm") "value_of") fd
  d_P_ChoiceForm___init__ : ∃ fd, FunD K "__init__" "ChoiceForm.__init__" (defArgs s_P_ChoiceForm___init__) (defBody s_P_ChoiceForm___init__) (defScope s_P_ChoiceForm___init__) [.int 0, .str (S [32]), .str (S [108, 101, 102, 116]), .bl false] [] (He.ma K (He.ga K "ChoiceForm") "__init__") fd
  d_P_ChoiceForm_values_for : ∃ fd, FunD K "values_for" "ChoiceForm.values_for" (defArgs s_P_ChoiceForm_values_for) (defBody s_P_ChoiceForm_values_for) (defScope s_P_ChoiceForm_values_for) [] [] (He.ma K (He.ga K "ChoiceForm") "values_for") fd
  d_P_ChoiceForm_value_of : ∃ fd, FunD K "value_of" "ChoiceForm.value_of" (defArgs s_P_ChoiceForm_value_of) (defBody s_P_ChoiceForm_value_of) (defScope s_P_ChoiceForm_value_of) [] [] (He.ma K (He.ga K "ChoiceForm") "value_of") fd
  d_L_cell_at : ∃ fd, FunD K "_law_cell_at" "_law_cell_at" (defArgs s_L_cell_at) (defBody s_L_cell_at) (defScope s_L_cell_at) [] [] (He.ga K "_law_cell_at") fd
  g_L_cell_at : mg "_law_cell_at" = some (.ref (He.ga K "_law_cell_at"))
  d_L_whole : ∃ fd, FunD K "_law_whole" "_law_whole" (defArgs s_L_whole) (defBody s_L_whole) (defScope s_L_whole) [] [] (He.ga K "_law_whole") fd
  g_L_whole : mg "_law_whole" = some (.ref (He.ga K "_law_whole"))
  d_L_pick : ∃ fd, FunD K "_law_pick" "_law_pick" (defArgs s_L_pick) (defBody s_L_pick) (defScope s_L_pick) [] [] (He.ga K "_law_pick") fd
  g_L_pick : mg "_law_pick" = some (.ref (He.ga K "_law_pick"))
  d_L_signs : ∃ fd, FunD K "_law_signs" "_law_signs" (defArgs s_L_signs) (defBody s_L_signs) (defScope s_L_signs) [] [] (He.ga K "_law_signs") fd
  g_L_signs : mg "_law_signs" = some (.ref (He.ga K "_law_signs"))
  d_L_sign : ∃ fd, FunD K "_law_sign" "_law_sign" (defArgs s_L_sign) (defBody s_L_sign) (defScope s_L_sign) [] [] (He.ga K "_law_sign") fd
  g_L_sign : mg "_law_sign" = some (.ref (He.ga K "_law_sign"))
  d_L_number_spec : ∃ fd, FunD K "_law_number_spec" "_law_number_spec" (defArgs s_L_number_spec) (defBody s_L_number_spec) (defScope s_L_number_spec) [] [] (He.ga K "_law_number_spec") fd
  g_L_number_spec : mg "_law_number_spec" = some (.ref (He.ga K "_law_number_spec"))
  d_L_number_form : ∃ fd, FunD K "_law_number_form" "_law_number_form" (defArgs s_L_number_form) (defBody s_L_number_form) (defScope s_L_number_form) [] [] (He.ga K "_law_number_form") fd
  g_L_number_form : mg "_law_number_form" = some (.ref (He.ga K "_law_number_form"))
  d_L_power : ∃ fd, FunD K "_law_power" "_law_power" (defArgs s_L_power) (defBody s_L_power) (defScope s_L_power) [] [] (He.ga K "_law_power") fd
  g_L_power : mg "_law_power" = some (.ref (He.ga K "_law_power"))
  d_L_divisor : ∃ fd, FunD K "_law_divisor" "_law_divisor" (defArgs s_L_divisor) (defBody s_L_divisor) (defScope s_L_divisor) [] [] (He.ga K "_law_divisor") fd
  g_L_divisor : mg "_law_divisor" = some (.ref (He.ga K "_law_divisor"))
  d_L_lowest : ∃ fd, FunD K "_law_lowest" "_law_lowest" (defArgs s_L_lowest) (defBody s_L_lowest) (defScope s_L_lowest) [] [] (He.ga K "_law_lowest") fd
  g_L_lowest : mg "_law_lowest" = some (.ref (He.ga K "_law_lowest"))
  d_L_figures : ∃ fd, FunD K "_law_figures" "_law_figures" (defArgs s_L_figures) (defBody s_L_figures) (defScope s_L_figures) [] [] (He.ga K "_law_figures") fd
  g_L_figures : mg "_law_figures" = some (.ref (He.ga K "_law_figures"))
  d_L_body : ∃ fd, FunD K "_law_body" "_law_body" (defArgs s_L_body) (defBody s_L_body) (defScope s_L_body) [] [] (He.ga K "_law_body") fd
  g_L_body : mg "_law_body" = some (.ref (He.ga K "_law_body"))
  d_L_parts : ∃ fd, FunD K "_law_parts" "_law_parts" (defArgs s_L_parts) (defBody s_L_parts) (defScope s_L_parts) [] [] (He.ga K "_law_parts") fd
  g_L_parts : mg "_law_parts" = some (.ref (He.ga K "_law_parts"))
  d_L_filled : ∃ fd, FunD K "_law_filled" "_law_filled" (defArgs s_L_filled) (defBody s_L_filled) (defScope s_L_filled) [] [] (He.ga K "_law_filled") fd
  g_L_filled : mg "_law_filled" = some (.ref (He.ga K "_law_filled"))
  d_L_word_spec : ∃ fd, FunD K "_law_word_spec" "_law_word_spec" (defArgs s_L_word_spec) (defBody s_L_word_spec) (defScope s_L_word_spec) [] [] (He.ga K "_law_word_spec") fd
  g_L_word_spec : mg "_law_word_spec" = some (.ref (He.ga K "_law_word_spec"))
  d_L_names : ∃ fd, FunD K "_law_names" "_law_names" (defArgs s_L_names) (defBody s_L_names) (defScope s_L_names) [] [] (He.ga K "_law_names") fd
  g_L_names : mg "_law_names" = some (.ref (He.ga K "_law_names"))
  d_L_choice_spec : ∃ fd, FunD K "_law_choice_spec" "_law_choice_spec" (defArgs s_L_choice_spec) (defBody s_L_choice_spec) (defScope s_L_choice_spec) [] [] (He.ga K "_law_choice_spec") fd
  g_L_choice_spec : mg "_law_choice_spec" = some (.ref (He.ga K "_law_choice_spec"))
  d_L_great : ∃ fd, FunD K "_law_great" "_law_great" (defArgs s_L_great) (defBody s_L_great) (defScope s_L_great) [] [] (He.ga K "_law_great") fd
  g_L_great : mg "_law_great" = some (.ref (He.ga K "_law_great"))
  d_L_steps : ∃ fd, FunD K "_law_steps" "_law_steps" (defArgs s_L_steps) (defBody s_L_steps) (defScope s_L_steps) [] [] (He.ga K "_law_steps") fd
  g_L_steps : mg "_law_steps" = some (.ref (He.ga K "_law_steps"))
  d_L_word : ∃ fd, FunD K "_law_word" "_law_word" (defArgs s_L_word) (defBody s_L_word) (defScope s_L_word) [] [] (He.ga K "_law_word") fd
  g_L_word : mg "_law_word" = some (.ref (He.ga K "_law_word"))
  d_L_spec : ∃ fd, FunD K "_law_spec" "_law_spec" (defArgs s_L_spec) (defBody s_L_spec) (defScope s_L_spec) [] [] (He.ga K "_law_spec") fd
  g_L_spec : mg "_law_spec" = some (.ref (He.ga K "_law_spec"))
  d_L_form : ∃ fd, FunD K "_law_form" "_law_form" (defArgs s_L_form) (defBody s_L_form) (defScope s_L_form) [] [] (He.ga K "_law_form") fd
  g_L_form : mg "_law_form" = some (.ref (He.ga K "_law_form"))
  d_L_parts_of : ∃ fd, FunD K "_law_parts_of" "_law_parts_of" (defArgs s_L_parts_of) (defBody s_L_parts_of) (defScope s_L_parts_of) [] [] (He.ga K "_law_parts_of") fd
  g_L_parts_of : mg "_law_parts_of" = some (.ref (He.ga K "_law_parts_of"))
  d_L_text : ∃ fd, FunD K "_law_text" "_law_text" (defArgs s_L_text) (defBody s_L_text) (defScope s_L_text) [] [] (He.ga K "_law_text") fd
  g_L_text : mg "_law_text" = some (.ref (He.ga K "_law_text"))
  d_L_value : ∃ fd, FunD K "_law_value" "_law_value" (defArgs s_L_value) (defBody s_L_value) (defScope s_L_value) [] [] (He.ga K "_law_value") fd
  g_L_value : mg "_law_value" = some (.ref (He.ga K "_law_value"))
  d_L_is_number : ∃ fd, FunD K "_law_is_number" "_law_is_number" (defArgs s_L_is_number) (defBody s_L_is_number) (defScope s_L_is_number) [] [] (He.ga K "_law_is_number") fd
  g_L_is_number : mg "_law_is_number" = some (.ref (He.ga K "_law_is_number"))
  d_L_is_value : ∃ fd, FunD K "_law_is_value" "_law_is_value" (defArgs s_L_is_value) (defBody s_L_is_value) (defScope s_L_is_value) [] [] (He.ga K "_law_is_value") fd
  g_L_is_value : mg "_law_is_value" = some (.ref (He.ga K "_law_is_value"))
  d_L_ahead : ∃ fd, FunD K "_law_ahead" "_law_ahead" (defArgs s_L_ahead) (defBody s_L_ahead) (defScope s_L_ahead) [] [] (He.ga K "_law_ahead") fd
  g_L_ahead : mg "_law_ahead" = some (.ref (He.ga K "_law_ahead"))
  d_L_single : ∃ fd, FunD K "_law_single" "_law_single" (defArgs s_L_single) (defBody s_L_single) (defScope s_L_single) [] [] (He.ga K "_law_single") fd
  g_L_single : mg "_law_single" = some (.ref (He.ga K "_law_single"))
  d_L_near : ∃ fd, FunD K "_law_near" "_law_near" (defArgs s_L_near) (defBody s_L_near) (defScope s_L_near) [] [] (He.ga K "_law_near") fd
  g_L_near : mg "_law_near" = some (.ref (He.ga K "_law_near"))
  d_L_is_full : ∃ fd, FunD K "_law_is_full" "_law_is_full" (defArgs s_L_is_full) (defBody s_L_is_full) (defScope s_L_is_full) [] [] (He.ga K "_law_is_full") fd
  g_L_is_full : mg "_law_is_full" = some (.ref (He.ga K "_law_is_full"))
  d_L_good : ∃ fd, FunD K "_law_good" "_law_good" (defArgs s_L_good) (defBody s_L_good) (defScope s_L_good) [] [] (He.ga K "_law_good") fd
  g_L_good : mg "_law_good" = some (.ref (He.ga K "_law_good"))
  d_L_spoilt : ∃ fd, FunD K "_law_spoilt" "_law_spoilt" (defArgs s_L_spoilt) (defBody s_L_spoilt) (defScope s_L_spoilt) [] [] (He.ga K "_law_spoilt") fd
  g_L_spoilt : mg "_law_spoilt" = some (.ref (He.ga K "_law_spoilt"))
  d_L_law : ∃ fd, FunD K "law" "law" (defArgs s_L_law) (defBody s_L_law) (defScope s_L_law) [] [] (He.ga K "law") fd
  g_L_law : mg "law" = some (.ref (He.ga K "law"))
  g_PadError : mg "PadError" = some (.ref (He.ga K "PadError"))
  g_NoFigures : mg "NoFigures" = some (.ref (He.ga K "NoFigures"))
  g_NoGroups : mg "NoGroups" = some (.ref (He.ga K "NoGroups"))
  g_NoBody : mg "NoBody" = some (.ref (He.ga K "NoBody"))
  g_NoNumber : mg "NoNumber" = some (.ref (He.ga K "NoNumber"))
  g_NoText : mg "NoText" = some (.ref (He.ga K "NoText"))
  g_TwoValues : mg "TwoValues" = some (.ref (He.ga K "TwoValues"))
  g_Form : mg "Form" = some (.ref (He.ga K "Form"))
  g_NumberForm : mg "NumberForm" = some (.ref (He.ga K "NumberForm"))
  g_WordForm : mg "WordForm" = some (.ref (He.ga K "WordForm"))
  g_ChoiceForm : mg "ChoiceForm" = some (.ref (He.ga K "ChoiceForm"))
  g_ABOVE : mg "ABOVE" = some (.ref (He.ga K "ABOVE"))
  g_BELOW : mg "BELOW" = some (.ref (He.ga K "BELOW"))
  b_len : mg "len" = none
  b_abs : mg "abs" = none
  b_max : mg "max" = none
  b_min : mg "min" = none
  b_isinstance : mg "isinstance" = none
  b_sorted : mg "sorted" = none
  b_range : mg "range" = none
  b_list : mg "list" = none
  b_zip : mg "zip" = none
  b_str : mg "str" = none
  b_int : mg "int" = none
  b_bool : mg "bool" = none
  b_tuple : mg "tuple" = none
  b_ValueError : mg "ValueError" = none
  c_FIGURES : ∃ t, mg "FIGURES" = some (.str (S figs16) t)
  c_MOST_FIGURES : ∃ t, mg "MOST_FIGURES" = some (.int 240 t)
  c_MOST_SIGNS : ∃ t, mg "MOST_SIGNS" = some (.int 40 t)
  cl_NumberForm : Cls K (He.ga K "NumberForm")
  na_NumberForm_width : NoAttr K (He.ga K "NumberForm") "width"
  na_NumberForm_fill : NoAttr K (He.ga K "NumberForm") "fill"
  na_NumberForm_side : NoAttr K (He.ga K "NumberForm") "side"
  na_NumberForm_strict : NoAttr K (He.ga K "NumberForm") "strict"
  na_NumberForm_figures : NoAttr K (He.ga K "NumberForm") "figures"
  na_NumberForm_places : NoAttr K (He.ga K "NumberForm") "places"
  na_NumberForm_base : NoAttr K (He.ga K "NumberForm") "base"
  na_NumberForm_sign : NoAttr K (He.ga K "NumberForm") "sign"
  na_NumberForm_size : NoAttr K (He.ga K "NumberForm") "size"
  na_NumberForm_mark : NoAttr K (He.ga K "NumberForm") "mark"
  na_NumberForm_point : NoAttr K (He.ga K "NumberForm") "point"
  na_NumberForm_way : NoAttr K (He.ga K "NumberForm") "way"
  mt_NumberForm_rests_in : Meth K (He.ga K "NumberForm") "rests_in" (He.ma K (He.ga K "NumberForm") "rests_in")
  mt_NumberForm_steps_in : Meth K (He.ga K "NumberForm") "steps_in" (He.ma K (He.ga K "NumberForm") "steps_in")
  mt_NumberForm_all_steps : Meth K (He.ga K "NumberForm") "all_steps" (He.ma K (He.ga K "NumberForm") "all_steps")
  mt_NumberForm_values_for : Meth K (He.ga K "NumberForm") "values_for" (He.ma K (He.ga K "NumberForm") "values_for")
  mt_NumberForm_value_of : Meth K (He.ga K "NumberForm") "value_of" (He.ma K (He.ga K "NumberForm") "value_of")
  mk_NumberForm : Mk K (He.ga K "NumberForm") (He.ma K (He.ga K "NumberForm") "__init__")
  cl_WordForm : Cls K (He.ga K "WordForm")
  na_WordForm_width : NoAttr K (He.ga K "WordForm") "width"
  na_WordForm_fill : NoAttr K (He.ga K "WordForm") "fill"
  na_WordForm_side : NoAttr K (He.ga K "WordForm") "side"
  na_WordForm_strict : NoAttr K (He.ga K "WordForm") "strict"
  na_WordForm_signs : NoAttr K (He.ga K "WordForm") "signs"
  na_WordForm_least : NoAttr K (He.ga K "WordForm") "least"
  na_WordForm_most : NoAttr K (He.ga K "WordForm") "most"
  mt_WordForm_is_word : Meth K (He.ga K "WordForm") "is_word" (He.ma K (He.ga K "WordForm") "is_word")
  mt_WordForm_values_for : Meth K (He.ga K "WordForm") "values_for" (He.ma K (He.ga K "WordForm") "values_for")
  mt_WordForm_value_of : Meth K (He.ga K "WordForm") "value_of" (He.ma K (He.ga K "WordForm") "value_of")
  mk_WordForm : Mk K (He.ga K "WordForm") (He.ma K (He.ga K "WordForm") "__init__")
  cl_ChoiceForm : Cls K (He.ga K "ChoiceForm")
  na_ChoiceForm_width : NoAttr K (He.ga K "ChoiceForm") "width"
  na_ChoiceForm_fill : NoAttr K (He.ga K "ChoiceForm") "fill"
  na_ChoiceForm_side : NoAttr K (He.ga K "ChoiceForm") "side"
  na_ChoiceForm_strict : NoAttr K (He.ga K "ChoiceForm") "strict"
  na_ChoiceForm_names : NoAttr K (He.ga K "ChoiceForm") "names"
  mt_ChoiceForm_values_for : Meth K (He.ga K "ChoiceForm") "values_for" (He.ma K (He.ga K "ChoiceForm") "values_for")
  mt_ChoiceForm_value_of : Meth K (He.ga K "ChoiceForm") "value_of" (He.ma K (He.ga K "ChoiceForm") "value_of")
  mk_ChoiceForm : Mk K (He.ga K "ChoiceForm") (He.ma K (He.ga K "ChoiceForm") "__init__")
  e_NoFigures : PySem.W.excIn K (He.ga K "NoFigures") He.veBase "ValueError.__new__" = true ∧ PySem.W.keepIn K (.ref (He.ga K "NoFigures")) = true ∧ PySem.W.subIn K (.ref (He.ga K "NoFigures")) (.type "BaseException") = some true ∧ PySem.W.typeIn K (.ref (He.ga K "NoFigures")) = some (.type "type")
  e_NoGroups : PySem.W.excIn K (He.ga K "NoGroups") He.veBase "ValueError.__new__" = true ∧ PySem.W.keepIn K (.ref (He.ga K "NoGroups")) = true ∧ PySem.W.subIn K (.ref (He.ga K "NoGroups")) (.type "BaseException") = some true ∧ PySem.W.typeIn K (.ref (He.ga K "NoGroups")) = some (.type "type")
  e_NoBody : PySem.W.excIn K (He.ga K "NoBody") He.veBase "ValueError.__new__" = true ∧ PySem.W.keepIn K (.ref (He.ga K "NoBody")) = true ∧ PySem.W.subIn K (.ref (He.ga K "NoBody")) (.type "BaseException") = some true ∧ PySem.W.typeIn K (.ref (He.ga K "NoBody")) = some (.type "type")
  e_NoText : PySem.W.excIn K (He.ga K "NoText") He.veBase "ValueError.__new__" = true ∧ PySem.W.keepIn K (.ref (He.ga K "NoText")) = true ∧ PySem.W.subIn K (.ref (He.ga K "NoText")) (.type "BaseException") = some true ∧ PySem.W.typeIn K (.ref (He.ga K "NoText")) = some (.type "type")
  x_NoGroups_NoGroups : PySem.W.exmOne K (.ref (He.ga K "NoGroups")) (.ref (He.ga K "NoGroups")) = some true
  x_NoFigures_NoFigures : PySem.W.exmOne K (.ref (He.ga K "NoFigures")) (.ref (He.ga K "NoFigures")) = some true
  x_NoBody_NoBody : PySem.W.exmOne K (.ref (He.ga K "NoBody")) (.ref (He.ga K "NoBody")) = some true
  x_NoText_NoText : PySem.W.exmOne K (.ref (He.ga K "NoText")) (.ref (He.ga K "NoText")) = some true
  x_TwoValues_NoText : PySem.W.exmOne K (.ref (He.ga K "TwoValues")) (.ref (He.ga K "NoText")) = some false
  x_TwoValues_TwoValues : PySem.W.exmOne K (.ref (He.ga K "TwoValues")) (.ref (He.ga K "TwoValues")) = some true
  x_TwoValues : XfC K (He.ga K "TwoValues")
  xn_told : PySem.W.findIn K (.ref (He.ga K "TwoValues")) "told" = some none
  o_TwoValues : OexC K (He.ga K "TwoValues")
  oi_TwoValues : PySem.W.findIn K (.ref (He.ga K "TwoValues")) "__init__" = some (some (.ref (He.ma K (He.ga K "TwoValues") "__init__"))) ∧ PySem.W.typeIn K (.ref (He.ma K (He.ga K "TwoValues") "__init__")) = some (.type "function")
  ci_PadError : ∃ mc, ClX.CRead K (He.ga K "PadError") mc ∧ PySem.W.findCls K (.ref (He.ga K "PadError")) mc "__init__" = some (.val (.builtin "ValueError.__init__"))
  ci_Form : ∃ mc, ClX.CRead K (He.ga K "Form") mc ∧ PySem.W.findCls K (.ref (He.ga K "Form")) mc "__init__" = some (.val (.ref (He.ma K (He.ga K "Form") "__init__")))
  a_ABOVE : ∀ r ∈ aboveT, ∃ p, KDct K w (He.ga K "ABOVE") (S r.1) (.ref p) ∧ ∀ H, SqT K H p [.str (S r.2.1), .str (S r.2.2)]
  a_BELOW : ∀ r ∈ belowT, ∃ p, KDct K w (He.ga K "BELOW") (S r.1) (.ref p) ∧ ∀ H, SqT K H p [.str (S r.2.1), .str (S r.2.2)]
/-! ### a def by its reading -/
section
variable {P : Program} {w : World} {K : PySem.W.Frag} {mg : Str → Option Value} {base : Heap}
theorem fnD {CX : CXT} {N ps : List Str} {k : Nat} {x qual : Str} {st : Stmt} {sp : Sp} {f : Addr} {fd : FuncData} (F : FunD K x qual (defArgs st) (defBody st) (defScope st) [] [] f fd) (S : FnScope N ps (defScope st))
    (len : ∀ vs H Q E, sp vs H Q E → vs.length = ps.length)
    (hbody : ∀ (cdv : Value) (A : Around) (outer : List Env) (s : Shared) (H : Hp) (vs : List V) (Q : VK) (E : XK), Room k (A.deeper (envOfC qual (defScope st) s.heap.objs.size f cdv)) → sp vs H Q E →
      ∃ t, PSs (cxOf CX P w K mg base N qual (defScope st) f cdv A outer s H E) (defBody st) t ∧ t { nx := fun _ H' => Q .non H', rt := Q } (start N vs) H) : FnOk P w K mg base CX (k + 1) f fd ps sp := F.ok S len hbody
end
end K45
/-! small helps -/
namespace F
open PySem PySem.Spec PyProof.Rows L2
theorem decA {p q : Prop} [Decidable p] [Decidable q] (hp : p) : decide (p ∧ q) = decide q := by simp [hp]
theorem decA0 {p q : Prop} [Decidable p] [Decidable q] (hp : ¬ p) : decide (p ∧ q) = false := by simp [hp]
theorem decO1 {p q : Prop} [Decidable p] [Decidable q] (hp : p) : decide (p ∨ q) = true := by simp [hp]
theorem decO0 {p q : Prop} [Decidable p] [Decidable q] (hp : ¬ p) : decide (p ∨ q) = decide q := by simp [hp]
theorem decN {p : Prop} [Decidable p] : decide (¬ p) = !decide p := by simp
theorem decT {p : Prop} [Decidable p] (hp : p) : decide p = true := by simp [hp]
theorem decF {p : Prop} [Decidable p] (hp : ¬ p) : decide p = false := by simp [hp]
/-- a and b, both read at once -/
theorem andP {c d : TT} {σ : L2.St} {H : Hp} {p q : Prop} [Decidable p] [Decidable q] {Q : Bool → Hp → Prop} (k : Q (decide (p ∧ q)) H) (h1 : ∀ Q' : Bool → Hp → Prop, Q' (decide p) H → c σ H Q') (h2 : p → ∀ Q' : Bool → Hp → Prop, Q' (decide q) H → d σ H Q') : tAnd c d σ H Q := by
  refine h1 _ ?_
  by_cases hp : p
  · rw [decT hp]
    refine h2 hp _ ?_
    rw [decA hp] at k
    exact k
  · rw [decF hp]
    rw [decA0 hp] at k
    exact k
theorem orP {c d : TT} {σ : L2.St} {H : Hp} {p q : Prop} [Decidable p] [Decidable q] {Q : Bool → Hp → Prop} (k : Q (decide (p ∨ q)) H) (h1 : ∀ Q' : Bool → Hp → Prop, Q' (decide p) H → c σ H Q') (h2 : ¬ p → ∀ Q' : Bool → Hp → Prop, Q' (decide q) H → d σ H Q') : tOr c d σ H Q := by
  refine h1 _ ?_
  by_cases hp : p
  · rw [decT hp]
    rw [decO1 hp] at k
    exact k
  · rw [decF hp]
    refine h2 hp _ ?_
    rw [decO0 hp] at k
    exact k
theorem notP {c : TT} {σ : L2.St} {H : Hp} {p : Prop} [Decidable p] {Q : Bool → Hp → Prop} (k : Q (decide (¬ p)) H) (h1 : ∀ Q' : Bool → Hp → Prop, Q' (decide p) H → c σ H Q') : tNot c σ H Q := by
  refine h1 _ ?_
  rw [decN] at k
  exact k
theorem l100 {n : Nat} (h : Nat.ble n 100000 = true) : n ≤ 100000 := Nat.le_of_ble_eq_true h
/-- a slot is set, and the slots stay written out -/
def setK : Nat → Option V → L2.St → (L2.St → Prop) → Prop
  | 0, _, [], k => k []
  | _ + 1, _, [], k => k []
  | 0, v, _ :: r, k => k (v :: r)
  | n + 1, v, a :: r, k => setK n v r fun r' => k (a :: r')
theorem setK_set : ∀ (i : Nat) (v : Option V) (σ : L2.St) (k : L2.St → Prop), setK i v σ k → k (σ.set i v)
  | 0, _, [], _, h => h
  | _ + 1, _, [], _, h => h
  | 0, _, _ :: _, _, h => h
  | n + 1, v, a :: r, k, h => setK_set n v r (fun r' => k (a :: r')) h
def tSetK (i : Nat) (te : TE) : TS := fun D σ H => te σ H fun x H1 => setK i (some x) σ fun σ' => D.nx σ' H1
def gK (i : Nat) : TG := fun v σ H Q => setK i (some v) σ fun σ' => Q σ' H
section
variable {X : Cx} {e : Expr} {te : TE} {pos : Pos} {x : Str}
theorem gKof {t : Expr} {i : Nat} (h : PG X t (gName i)) : PG X t (gK i) := ⟨fun pins s σ H v u Q I r q => h.run pins s σ H v u Q I r (setK_set _ _ _ _ q)⟩
theorem sSetK {i : Nat} {pos' : Pos} (hN : X.N.Nodup) (hi : X.N[i]? = some x) (n : Nl X.env.scope x) (he : PE X e te) (hc : noComp e = true) (hf : X.fn x = true ∨ X.env.scope.names.lookup x = some .local) : PS X (.Assign [.Name x pos'] e pos) (tSetK i te) := by
  refine ⟨fun pins s σ H D I h => ?_⟩
  refine wpAny_Assign_Name (thn (he.run pins s σ H _ I h) fun v s1 ⟨y, H1, I1, r1, q1⟩ => ?_) (swaps0 hc)
  exact store_ok I1 hN hi n.loc r1 (fun s2 I2 => ⟨_, H1, I2, setK_set _ _ _ _ q1⟩) hf
theorem gNK {i : Nat} (hN : X.N.Nodup) (hi : X.N[i]? = some x) (n : Nl X.env.scope x) (hf : X.fn x = true ∨ X.env.scope.names.lookup x = some .local) : PG X (.Name x pos) (gK i) := gKof (gN hN hi n hf)
end
/-- a while's next turn, by a word and a measure -/
theorem whP (Pv : L2.St → Hp → Prop) (μ : L2.St → Hp → Nat) {m : Nat} {tb : TS} {D : Ends} {σ : L2.St} {H1 : Hp} (h : tb { D with nx := fun σ' H' => Pv σ' H' ∧ μ σ' H' < m, ct := fun σ' H' => Pv σ' H' ∧ μ σ' H' < m, bk := D.nx } σ H1) :
    ∃ N : L2.St → Hp → Prop, (∀ σ' H', N σ' H' → ∃ m', m' < m ∧ (Pv σ' H' ∧ μ σ' H' = m')) ∧ tb { D with nx := N, ct := N, bk := D.nx } σ H1 := ⟨_, fun _ _ h => ⟨_, h.2, h.1, rfl⟩, h⟩
theorem whS (Pv : L2.St → Hp → Prop) (μ : L2.St → Hp → Nat) {c : TT} {tb : TS} {D : Ends} {σ : L2.St} {H : Hp} (h0 : Pv σ H)
    (hs : ∀ σ H, Pv σ H → c σ H fun b H1 => if b = true then ∃ N : L2.St → Hp → Prop, (∀ σ' H', N σ' H' → ∃ m', m' < μ σ H ∧ (Pv σ' H' ∧ μ σ' H' = m')) ∧ tb { D with nx := N, ct := N, bk := D.nx } σ H1 else D.nx σ H1) : tWhile c tb D σ H :=
  ⟨fun m σ H => Pv σ H ∧ μ σ H = m, ⟨_, h0, rfl⟩, fun m σ H ⟨a, b⟩ => by subst b; exact hs σ H a⟩
/-- a sign of the figures -/
def dig (d : Nat) : Nat := K45.figs16.getD d 0
theorem dig_at {d : Nat} (h : d < 16) : atI K45.figs16 (d : Nat) = some (dig d) := by
  have h2 : d < K45.figs16.length := h
  refine atI_nat ?_
  unfold dig
  rw [List.getD_eq_getElem?_getD, List.getElem?_eq_getElem h2]
  rfl
/-- the figures of a number -/
def figs (b n : Nat) : List Nat := if _h : n < b ∨ b ≤ 1 then [dig (n % b)] else figs b (n / b) ++ [dig (n % b)]
termination_by n
decreasing_by exact Nat.div_lt_self (by omega) (by omega)
theorem figs_lt {b n : Nat} (h : n < b) : figs b n = [dig n] := by
  rw [figs, dif_pos (.inl h), Nat.mod_eq_of_lt h]
theorem figs_ge {b n : Nat} (hb : 2 ≤ b) (h : b ≤ n) : figs b n = figs b (n / b) ++ [dig (n % b)] := by
  rw [figs, dif_neg (by omega)]
theorem figs_len {b : Nat} (hb : 2 ≤ b) : ∀ {k n : Nat}, 1 ≤ k → n < b ^ k → (figs b n).length ≤ k
  | 0, _, h, _ => by omega
  | k + 1, n, _, h => by
    by_cases c : n < b
    · rw [figs_lt c]
      simp
    · rw [figs_ge hb (by omega), List.length_append]
      have h2 : n / b < b ^ k := Nat.div_lt_of_lt_mul (by rw [Nat.mul_comm, ← Nat.pow_succ]; exact h)
      have h3 : 1 ≤ k := by
        cases k with
        | zero =>
          rw [Nat.zero_add, Nat.pow_one] at h
          omega
        | succ k => omega
      have := figs_len hb h3 h2
      simp
      omega
end F
/-! a text's slice with a step; a list's method without arguments; a class's __init__ called by the class -/
namespace F
open PySem PySem.Spec PyProof.Rows L2
section
variable {X : Cx} {e a b o : Expr} {te ta tb to : TE} {pos p2 : Pos}
/-- x[lo::step], a text: some signs of it, one at least -/
def tStep (te tl ts : TE) : TE := fun σ H Q => te σ H fun x H1 => tl σ H1 fun lo H2 => ts σ H2 fun st H3 => ∃ (l : List Nat) (i j : Int), x = .str (S l) ∧ lo = .int i ∧ st = .int j ∧ 0 ≤ i ∧ i < (l.length : Nat) ∧ 0 < j ∧ l.length ≤ 100000 ∧
  ∀ l' : List Nat, l' ≠ [] → l'.length ≤ l.length → (∀ c ∈ l', c ∈ l) → Q (.str (S l')) H3
theorem step_in {n : Nat} {i j : Int} (h0 : 0 ≤ i) (h1 : i < (n : Nat)) (hj : 0 < j) : i.toNat ∈ Builtin.Str.strSliceIndices (some i) none j n := by
  unfold Builtin.Str.strSliceIndices sliceRange
  simp only [if_pos (show j > 0 from hj)]
  rw [if_neg (show ¬ i < 0 by omega)]
  have e : max 0 (min i (n : Int)) = i := by omega
  rw [e, if_pos h1]
  refine List.mem_map.mpr ⟨0, ?_, ?_⟩
  · rw [List.mem_range]
    have h2 : 1 ≤ ((n : Int) - i + j - 1) / j := (Int.le_ediv_iff_mul_le hj).mpr (by omega)
    omega
  · simp
theorem step_len {n : Nat} {i j : Int} (h0 : 0 ≤ i) (h1 : i < (n : Nat)) (hj : 0 < j) : (Builtin.Str.strSliceIndices (some i) none j n).length ≤ n := by
  unfold Builtin.Str.strSliceIndices
  simp only [if_pos (show j > 0 from hj)]
  rw [if_neg (show ¬ i < 0 by omega)]
  have e : max 0 (min i (n : Int)) = i := by omega
  rw [e]
  exact PySem.sliceRange_length_le i (n : Int) j n (fun _ => ⟨h0, Int.le_refl _⟩) (fun z => absurd hj z)
theorem fStep (he : PE X e te) (ha : PE X a ta) (hb : PE X b tb) : PE X (.Subscript e (.Slice (some a) none (some b) p2) pos) (tStep te ta tb) := by
  refine ⟨fun pins s σ H Q I h => ?_⟩
  refine Subscript_ (thn (he.run pins s σ H _ I h) fun v s1 ⟨x, H1, I1, r1, q1⟩ => ?_)
  refine wpAny_Slice ?_
  rw [evalPart_some]
  refine thn (ha.run pins s1 σ H1 _ I1 q1) fun vl s2 ⟨lo, H2, I2, r2, q2⟩ => ?_
  rw [evalPart_none]
  refine wpAny_pure ?_
  rw [evalPart_some]
  refine thn (hb.run pins s2 σ H2 _ I2 q2) fun vs s3 ⟨st, H3, I3, r3, q3⟩ => ?_
  obtain ⟨l, i, j, rfl, rfl, rfl, h0, h1, hj, hl, q⟩ := q3
  obtain ⟨t, rfl⟩ := r1
  obtain ⟨t2, rfl⟩ := r2
  obtain ⟨t3, rfl⟩ := r3
  have I4 : Inv X pins σ H3 { s3 with heap := s3.heap.push { cls := .type "slice", data := .fields #[.int i t2, .none, .int j t3] } } := I3.kept (t' := s3.toks) fun b ob q => Heap.get?_push_of_some _ q
  refine tail_any (ops := [.str (S l) t, .ref s3.heap.objs.size]) (T := "str") (typeIs_str _ _ _) PySem.F.slot_str_getitem.lookup ?_ (by with_unfolding_all rfl)
  refine wpAny_getItem_str_slice (l := some (i, t2)) (u := none) (st := some (j, t3)) ⟨_, Heap.get?_push_size _ rfl, rfl, rfl⟩ (by show (j == 0) = false; simp; omega) ?_
  have hz : ((slicePicked (S l) (some (i, t2)) none (some (j, t3))).filterMap ((S l).cps[·]?)) ≠ [] := by
    have hm : i.toNat ∈ slicePicked (S l) (some (i, t2)) none (some (j, t3)) := by
      show i.toNat ∈ Builtin.Str.strSliceIndices (some i) none j (S l).length
      rw [S_len]
      exact step_in h0 h1 hj
    intro z
    have hk : i.toNat < l.length := by omega
    have : l[i.toNat] ∈ ((slicePicked (S l) (some (i, t2)) none (some (j, t3))).filterMap ((S l).cps[·]?)) := by
      refine List.mem_filterMap.mpr ⟨i.toNat, hm, ?_⟩
      show (S l).cps[i.toNat]? = some l[i.toNat]
      rw [← Array.getElem?_toList, S_tl, List.getElem?_eq_getElem hk]
    rw [z] at this
    cases this
  have hln : ((slicePicked (S l) (some (i, t2)) none (some (j, t3))).filterMap ((S l).cps[·]?)).length ≤ l.length := by
    refine Nat.le_trans (List.length_filterMap_le _ _) ?_
    show (Builtin.Str.strSliceIndices (some i) none j (S l).length).length ≤ l.length
    rw [S_len]
    exact step_len h0 h1 hj
  have hmm : ∀ c ∈ ((slicePicked (S l) (some (i, t2)) none (some (j, t3))).filterMap ((S l).cps[·]?)), c ∈ l := fun c hc => by
    obtain ⟨k, _, hk⟩ := List.mem_filterMap.mp hc
    rw [← Array.getElem?_toList] at hk
    exact List.mem_of_getElem? (l := l) hk
  unfold sliceMade
  split
  · exact ⟨.str (S l), H3, I4, ⟨t, rfl⟩, q l (by intro z; subst z; simp at h1; omega) (Nat.le_refl _) (fun _ h => h)⟩
  · refine ⟨?_, .str _, H3, I4.tok _, ⟨_, rfl⟩, q _ hz hln hmm⟩
    show (((slicePicked (S l) (some (i, t2)) none (some (j, t3))).filterMap ((S l).cps[·]?)).toArray).size ≤ sizeLine
    rw [List.size_toArray]
    exact szL (by omega)
/-- e.name(), e a list -/
def tLm0 (r : V → List V → Hp → VK → Prop) (to : TE) : TE := fun σ H Q => to σ H fun x H1 => match x with
  | .ref p => (∃ ys, H1 p = some (.lst ys)) ∧ r x [] H1 Q
  | _ => False
theorem fLm0 {id : String} {name : Str} {apos cpos : Pos} {r : V → List V → Hp → VK → Prop} (slot : Slot "list" name id) (hty : typeOf (.builtin id) = pure (.type "method_descriptor")) (hm : MtR X id r) (ho : PE X o to)
    (hb : noSup o = true) (hline : (apos.endLine == cpos.line) = true) : PE X (.Call (.Attribute o name apos) [] [] cpos) (tLm0 r to) := by
  refine ⟨fun pins s σ H Q I h => ?_⟩
  refine wpAny_Call_method0_late (base_of hb) hline (thn (ho.run pins s σ H _ I h) fun v s1 ⟨x, H1, I1, r1, q1⟩ => ?_)
  cases x with
  | ref p =>
    obtain ⟨⟨ys, hy⟩, q1⟩ := q1
    obtain ⟨g1, g2⟩ := tyV_is (T := "list") I1 r1 (.inl ⟨rfl, ys, SqL.of hy⟩)
    exact ⟨"list", id, PySem.F.plainAttrs_list, slot, hty, g1, g2, Calls.callWith_builtin rfl (PySem.evalArgs_none (hm pins s1 σ H1 (.ref p) [] v [] Q I1 r1 .nil q1))⟩
  | _ => exact q1.elim
end
/-! ### C.__init__(self, ..) of an own class -/
section
variable {X : Cx} {CX : CXT} {k : Nat} {x : Str} {sp : Sp} {E : XK} {e : Expr} {es : List Expr} {t : TA} {p p2 pos : Pos} {C f : Addr} {mc : Value}
theorem getmethcval {X : Cx} {pins : List (Addr × Obj)} {σ : L2.St} {H : Hp} {s : Shared} {A : Around} {E : Value → Shared → Prop} {C : Addr} {mc u : Value} {m : Str} {pl : Sem Bool} {Q : Value × List Value → Shared → Prop} (I : Inv X pins σ H s) (r : ClX.CRead X.K C mc)
    (k : PySem.W.findCls X.K (.ref C) mc m = some (.val u)) (hh : PySem.W.handedIn u = true) (h : ∀ s', Inv X pins σ H s' → Q (u, []) s') : wpAny (model X.prog X.w) A (getMethod (.ref C) m pl) Q E s :=
  PySem.W.method_cls I.kIn r.ga (PySem.W.cls_value I.kIn r.rd k hh (h _ (I.tok _)))
theorem fInit {fd : FuncData} {ps : List Str} {pl : Sem Bool} (hg : X.mg x = some (.ref C)) (n : Ng X.env.scope x) (r : ClX.CRead X.K C mc) (hf : PySem.W.findCls X.K (.ref C) mc "__init__" = some (.val (.ref f))) (hk : PySem.W.keepIn X.K (.ref f) = true)
    (F : FnOk X.prog X.w X.K X.mg X.base CX k f fd ps sp) (hb : Binds X.K fd ps []) (hr : Room k X.A) (hx : Passes CX X E) (ha : PA X (e :: es) t) (hp : plainL (e :: es) = true)
    (ht : eval (.Call (.Attribute (.Name x p) "__init__" p2) (e :: es) [] pos) X.env = (do
      let ov ← eval (.Name x p) X.env
      standAt p2.atName
      let (f, first) ← holding [ov] (getMethod ov "__init__" pl)
      callWith pos f first (backTo pos (starEach (e :: es) X.env)) (backToKw pos (keywordEach [] X.env)))) :
    PE X (.Call (.Attribute (.Name x p) "__init__" p2) (e :: es) [] pos) (tCall sp [] E t) := by
  have z : plain1 e = true ∧ plainL es = true := Bool.and_eq_true_iff.mp hp
  refine ⟨fun pins s σ H Q I h => ?_⟩
  refine PySem.W.methodCall_KW (pl := pl) (ld_glob I n.gl hg ?_ n.db) ht
  refine getmethcval I r hf rfl fun s1 I1 => ?_
  refine PySem.W.callWith_K (first := []) (h₀ := X.base) I.ok.mod.kin hk (thn (ha.run pos pins s1 σ H _ I1 h) fun us s2 ⟨vs, H2, I2, r, q2⟩ => ⟨I2.kIn, ?_⟩) (star1 z.1) (plain_any z.2)
  exact run_fn F hr hb .nil hx I2 r q2
/-- C.__init__(self, ..) where that is ValueError's -/
theorem fInitV {pl : Sem Bool} (hg : X.mg x = some (.ref C)) (n : Ng X.env.scope x) (r : ClX.CRead X.K C mc) (hf : PySem.W.findCls X.K (.ref C) mc "__init__" = some (.val (.builtin "ValueError.__init__"))) (ha : PA X (e :: es) t) (hp : plainL (e :: es) = true)
    (ht : eval (.Call (.Attribute (.Name x p) "__init__" p2) (e :: es) [] pos) X.env = (do
      let ov ← eval (.Name x p) X.env
      standAt p2.atName
      let (f, first) ← holding [ov] (getMethod ov "__init__" pl)
      callWith pos f first (backTo pos (starEach (e :: es) X.env)) (backToKw pos (keywordEach [] X.env)))) :
    PE X (.Call (.Attribute (.Name x p) "__init__" p2) (e :: es) [] pos) (tVeI X.K t) := by
  have z : plain1 e = true ∧ plainL es = true := Bool.and_eq_true_iff.mp hp
  refine ⟨fun pins s σ H Q I h => ?_⟩
  refine PySem.W.methodCall_KW (pl := pl) (ld_glob I n.gl hg ?_ n.db) ht
  refine getmethcval I r hf rfl fun s1 I1 => ?_
  have hA := ha.run pos pins s1 σ H _ I1 h
  rw [star1 z.1] at hA ⊢
  refine Calls.callWith_builtin (by show (false || (backTo pos (starEach es X.env)).any (·.1)) = false; rw [plain_any z.2] <;> rfl) (Calls.evalArgs_plain ?_)
  refine thn hA fun us s2 ⟨vs, H2, I2, r2, a, C', ws, e2, hl, T, he, q⟩ => ?_
  subst e2
  cases r2 with
  | cons ra rr =>
    cases ra
    exact oinit_ok T I2 he (by rw [← rr.length]; exact szL (by omega)) fun s3 I3 => ⟨.non, H2, I3, rfl, q⟩
end
end F
/-! raising, trying, making -/
namespace F
open PySem PySem.Spec PyProof.Rows L2
/-- an __init__ keeps sp -/
def In (P : Program) (w : World) (K : PySem.W.Frag) (mg : Str → Option Value) (base : Heap) (k : Nat) (f : Addr) (sp : Sp) : Prop :=
  ∃ (fd : FuncData) (ps : List Str), FnOk P w K mg base CX0 k f fd ps sp ∧ Binds K fd ps []
def tRs (E : XK) (c : Value) : TS := fun _ _ H => E c none H
def tRsO (E : XK) (C : Addr) (sp : Sp) (ta : TA) : TS := fun _ σ H => tMkO C sp [] ta σ H fun cls d H' => E cls d H'
def tTryO (K : PySem.W.Frag) (c : Value) (ts : Addr → Value → Option Addr → TS) (Wout : WX) (tb : WX → TS) : TS := fun D σ H => tb (wOnly K c ts Wout D) D σ H
theorem takes00 {X : Cx} : Takes X (fun _ _ _ _ => False) := L2.takes0
section
variable {X : Cx} {CX : CXT} {k : Nat} {x : Str} {sp : Sp} {e : Expr} {es : List Expr} {t : TA} {p p2 pos : Pos} {C f : Addr}
theorem fMake (M : Mk X.K C f) (I : In X.prog X.w X.K X.mg X.base k f sp) (hr : Room (k + 1) X.A) (n : Ng X.env.scope x) (hm : X.mg x = some (.ref C)) (ha : PA X (e :: es) t) (hp : plainL (e :: es) = true) :
    PE X (.Call (.Name x p) (e :: es) [] pos) (tMake C sp [] E0 t) := by
  obtain ⟨fd, ps, h1, h2⟩ := I
  have z : plain1 e = true ∧ plainL es = true := Bool.and_eq_true_iff.mp hp
  exact pe_make M h1 hr n.gl hm h2 .nil pass0 ha n.db (star1 z.1) (plain_any z.2)
theorem fInit1 {pl : Sem Bool} (hg : X.mg x = some (.ref C)) (n : Ng X.env.scope x) (hc : ∃ mc, ClX.CRead X.K C mc ∧ PySem.W.findCls X.K (.ref C) mc "__init__" = some (.val (.ref f))) (I : In X.prog X.w X.K X.mg X.base k f sp) (hr : Room k X.A)
    (ha : PA X (e :: es) t) (hp : plainL (e :: es) = true) (hk : PySem.W.keepIn X.K (.ref f) = true)
    (ht : eval (.Call (.Attribute (.Name x p) "__init__" p2) (e :: es) [] pos) X.env = (do
      let ov ← eval (.Name x p) X.env
      standAt p2.atName
      let (f, first) ← holding [ov] (getMethod ov "__init__" pl)
      callWith pos f first (backTo pos (starEach (e :: es) X.env)) (backToKw pos (keywordEach [] X.env)))) :
    PE X (.Call (.Attribute (.Name x p) "__init__" p2) (e :: es) [] pos) (tCall sp [] E0 t) := by
  obtain ⟨mc, r, hf⟩ := hc
  obtain ⟨fd, ps, h1, h2⟩ := I
  exact fInit hg n r hf hk h1 h2 hr pass0 ha hp ht
theorem fTwo (T : OexC X.K C) (iC : PySem.W.findIn X.K (.ref C) "__init__" = some (some (.ref f))) (tI : PySem.W.typeIn X.K (.ref f) = some (.type "function")) (I : In X.prog X.w X.K X.mg X.base k f sp) (hr : Room (k + 1) X.A) (n : Ng X.env.scope x)
    (hm : X.mg x = some (.ref C)) (ha : PA X (e :: es) t) (hp : plainL (e :: es) = true) : PMk X (.Call (.Name x p) (e :: es) [] pos) (tMkO C sp [] t) := by
  obtain ⟨fd, ps, h1, h2⟩ := I
  have z : plain1 e = true ∧ plainL es = true := Bool.and_eq_true_iff.mp hp
  exact pmk_oex T iC tI h1 hr h2 .nil pass0 n.gl hm ha n.db (star1 z.1) (plain_any z.2)
end
section
variable {X : Cx} {E : XK} {C f : Addr} {x m : Str} {j k : Nat} {p p2 pos pos' : Pos} {sp : Sp} {e : Expr} {es : List Expr} {t : TA}
/-- what the head tells of an own class over ValueError -/
abbrev ExcT (K : PySem.W.Frag) (C : Addr) : Prop := PySem.W.excIn K C [.type "ValueError", .type "Exception", .type "BaseException", .type "object"] "ValueError.__new__" = true ∧ PySem.W.keepIn K (.ref C) = true ∧ PySem.W.subIn K (.ref C) (.type "BaseException") = some true ∧ PySem.W.typeIn K (.ref C) = some (.type "type")
theorem fRaiseN (hc : X.calm = true) (tk : L2N.Takes X (fun cls d _ H => E cls d H)) (T : ExcT X.K C) (hm : X.mg x = some (.ref C)) (n : Ng X.env.scope x) : PS X (.Raise (some (.Call (.Name x p) [.Constant (.str m) j p2] [] pos)) none pos') (tRs E (.ref C)) :=
  L2N.ps_raise hc tk (L2N.pmk_own PySem.F.excBase_ValueError T.1 hm T.2.1 (raises_own T.2.2.1 T.2.2.2) n.gl n.db)
theorem fRaiseL (hc : X.calm = true) (tk : L2.Takes X (fun cls d _ H => E cls d H)) (T : ExcT X.K C) (hm : X.mg x = some (.ref C)) (n : Ng X.env.scope x) : PS X (.Raise (some (.Call (.Name x p) [.Constant (.str m) j p2] [] pos)) none pos') (tRs E (.ref C)) :=
  L2.ps_raise hc tk (L2.pmk_own PySem.F.excBase_ValueError T.1 hm T.2.1 (raises_own T.2.2.1 T.2.2.2) n.gl n.db)
theorem fRaiseH (hot : L2H.HotC X) (tk : L2.Takes X (fun cls d _ H => E cls d H)) (T : ExcT X.K C) (hm : X.mg x = some (.ref C)) (n : Ng X.env.scope x) : PS X (.Raise (some (.Call (.Name x p) [.Constant (.str m) j p2] [] pos)) none pos') (tRs E (.ref C)) :=
  L2H.ps_raiseH hot tk (L2N.pmk_own PySem.F.excBase_ValueError T.1 hm T.2.1 (raises_own T.2.2.1 T.2.2.2) n.gl n.db)
theorem fRaiseO (hc : X.calm = true) (tk : L2.Takes X (fun cls d _ H => E cls d H)) (T : OexC X.K C) (ti : PySem.W.findIn X.K (.ref C) "__init__" = some (some (.ref f)) ∧ PySem.W.typeIn X.K (.ref f) = some (.type "function")) (I : In X.prog X.w X.K X.mg X.base k f sp) (hr : Room (k + 1) X.A) (n : Ng X.env.scope x)
    (hm : X.mg x = some (.ref C)) (ha : PA X (e :: es) t) (hp : plainL (e :: es) = true) : PS X (.Raise (some (.Call (.Name x p) (e :: es) [] pos)) none pos') (tRsO E C sp t) :=
  L2.ps_raise hc tk (fTwo T ti.1 ti.2 I hr n hm ha hp)
/-- try: .. except C: .., where the suite may raise out -/
theorem fTryX {c : Value} {body suite : List Stmt} {b₀ : Stmt} {np : Pos} {tb : WX → TS} {ts : TS} (hs : X.stack = X.env :: X.outer) (hf : X.env.frame = some X.env.locals) (n : Ng X.env.scope x) (hm : X.mg x = some c) (hpa : ∀ hd : Option Value, PassesOwnAt (model X.prog X.w) (X.A.mark hd) X.A X.env X.xe)
    (tk : L2.Takes X (fun cls d _ H => E cls d H))
    (hb : ∀ (W : WX) (pn : List (Addr × Obj)) (xe : Value → Shared → Prop), L2N.Takes (X.tr pn xe) W → PSs (X.tr pn xe) body (tb W))
    (hsu : ∀ (a : Addr) (oe : Obj) (pn : List (Addr × Obj)), L2.Takes (L2H.suiteX X a ((a, oe) :: pn)) (fun cls d _ H => E cls d H) → L2H.HotC (L2H.suiteX X a ((a, oe) :: pn)) → PSs (L2H.suiteX X a ((a, oe) :: pn)) (b₀ :: suite) ts) :
    PS X (.Try body [.ExceptHandler (some (.Name x np)) none (b₀ :: suite) pos'] [] [] pos) (tTryO X.K c (fun _ _ _ => ts) (fun cls d _ H => E cls d H) tb) :=
  L2H.ps_try_onlyX hs hf ⟨n.gl, n.db, .inl hm⟩ hpa tk (fun W pn xe tk _ _ => hb W pn xe tk) fun a oe _ _ pn _ _ tkS hot => hsu a oe pn tkS hot
theorem fTry0 {c : Value} {body suite : List Stmt} {b₀ : Stmt} {np : Pos} {tb : WX → TS} {ts : TS} (hs : X.stack = X.env :: X.outer) (hf : X.env.frame = some X.env.locals) (n : Ng X.env.scope x) (hm : X.mg x = some c)
    (hb : ∀ (W : WX) (pn : List (Addr × Obj)) (xe : Value → Shared → Prop), L2.Takes (X.tr pn xe) W → PSs (X.tr pn xe) body (tb W))
    (hsu : ∀ (a : Addr) (oe : Obj) (pn : List (Addr × Obj)), PSs (X.suite a ((a, oe) :: pn)) (b₀ :: suite) ts) :
    PS X (.Try body [.ExceptHandler (some (.Name x np)) none (b₀ :: suite) pos'] [] [] pos) (tTryO X.K c (fun _ _ _ => ts) (fun _ _ _ _ => False) tb) :=
  ps_try_only hs hf ⟨n.gl, n.db, .inl hm⟩ takes00 (fun W pn xe tk _ => hb W pn xe tk) fun a oe _ _ pn _ _ => hsu a oe pn
end
section
variable {P : Program} {w : World} {K : PySem.W.Frag} {mg : Str → Option Value} {base : Heap}
/-- all parameters written, though there are defaults -/
theorem bindsD {x qual : Str} {params : Arguments} {body : List Stmt} {scope : Scope} {dvs : List V} {f : Addr} {fd : FuncData} {ps : List Str} (F : FunD K x qual params body scope dvs [] f fd) (hd : dvs ≠ [])
    (h : ∀ (T : Addr) (kV doc pm : Value) (an : Option Addr) (cdv ct : Value) (us its : List Value), us.length = ps.length → its.length = dvs.length →
      ∃ k, bindArgs (PySem.W.fnOf x qual params body scope (.ref T) kV doc pm an cdv ct) ⟨us, []⟩ = seqItems? (.ref T) >>= k ∧ k (some its.toArray) = pure (ps.zip us)) : Binds K fd ps [] := by
  obtain ⟨ds, r, b⟩ := F.binds1 (ps := ps) ps.length dvs.length hd (by omega) fun T kV doc pm an cdv ct us its h1 h2 => by
    obtain ⟨k, e1, e2⟩ := h T kV doc pm an cdv ct us its h1 h2
    refine ⟨k, e1, ?_⟩
    rw [e2, List.drop_eq_nil_of_le (by omega), List.append_nil]
  rw [List.drop_length] at r
  cases r
  exact b
end
/-! ### walks over a text -/
theorem for_str {l : List Nat} {g : TG} {tb : TS} {D : Ends} {σ : L2.St} {H : Hp} (Pv : Nat → L2.St → Hp → Prop) (h0 : Pv 0 σ H)
    (hs : ∀ i c σ H, l[i]? = some c → Pv i σ H → g (.str (S [c])) σ H fun σ2 H2 => tb { D with nx := Pv (i + 1), ct := Pv (i + 1), bk := D.nx } σ2 H2) (hd : ∀ σ H, Pv l.length σ H → D.nx σ H) :
    ∃ W : Nat → Nat → L2.St → Hp → Prop, (∃ m, W 0 m σ H) ∧ ∀ i m σ H, W i m σ H →
      ((Its (S l)).stop i H ∧ D.nx σ H) ∨ ((Its (S l)).go i H ∧ ∃ N : L2.St → Hp → Prop, (∀ σ' H', N σ' H' → ∃ m', m' < m ∧ W (i + 1) m' σ' H') ∧ ∀ x H', (Its (S l)).yld i H x H' → g x σ H' fun σ2 H2 => tb { D with nx := N, ct := N, bk := D.nx } σ2 H2) := by
  have hz : (S l).cps.size = l.length := S_len l
  refine ⟨fun i m σ H => m = l.length - i ∧ i ≤ l.length ∧ Pv i σ H, ⟨l.length, by simp, Nat.zero_le _, h0⟩, ?_⟩
  rintro i m σ H ⟨rfl, hi, p⟩
  by_cases hlt : i < l.length
  · refine .inr ⟨by show i < (S l).cps.size; omega, Pv (i + 1), fun σ' H' p' => ⟨l.length - (i + 1), by omega, rfl, hlt, p'⟩, fun x H' y => ?_⟩
    obtain ⟨e, c, hc, y⟩ := y
    subst e y
    refine hs i c σ _ ?_ p
    rw [← Array.getElem?_toList] at hc
    exact hc
  · have e : i = l.length := by omega
    subst e
    exact .inl ⟨by show (S l).cps.size ≤ _; omega, hd σ H p⟩
theorem lc_str {l : List Nat} {g : TG} {tt : TT} {te : TE} {vs : List Nat} {σ : L2.St} {H1 : Hp} {D : Addr} {Qd : Hp → Prop} (Pv : Nat → Hp → Prop) (h0 : Pv 0 (upd H1 D (.lst [])))
    (hs : ∀ i c H, l[i]? = some c → Pv i H → g (.str (S [c])) (wipe σ vs) H fun σ2 H2 => wipe σ2 vs = wipe σ vs ∧ tt σ2 H2 fun b H3 =>
      if b = true then te σ2 H3 fun y H4 => ∃ acc, H4 D = some (.lst acc) ∧ acc.length < sizeLine ∧ Pv (i + 1) (upd H4 D (.lst (acc ++ [y]))) else Pv (i + 1) H3) (hd : ∀ H, Pv l.length H → Qd H) :
    ∃ W : Nat → Nat → Hp → Prop, (∃ m, W 0 m (upd H1 D (.lst []))) ∧ ∀ i m H, W i m H →
      ((Its (S l)).stop i H ∧ Qd H) ∨ ((Its (S l)).go i H ∧ ∃ Nx : Hp → Prop, (∀ H', Nx H' → ∃ m', m' < m ∧ W (i + 1) m' H') ∧ ∀ x H', (Its (S l)).yld i H x H' → g x (wipe σ vs) H' fun σ2 H2 => wipe σ2 vs = wipe σ vs ∧ tt σ2 H2 fun b H3 =>
        if b = true then te σ2 H3 fun y H4 => ∃ acc, H4 D = some (.lst acc) ∧ acc.length < sizeLine ∧ Nx (upd H4 D (.lst (acc ++ [y]))) else Nx H3) := by
  have hz : (S l).cps.size = l.length := S_len l
  refine ⟨fun i m H => m = l.length - i ∧ i ≤ l.length ∧ Pv i H, ⟨l.length, by simp, Nat.zero_le _, h0⟩, ?_⟩
  rintro i m H ⟨rfl, hi, p⟩
  by_cases hlt : i < l.length
  · refine .inr ⟨by show i < (S l).cps.size; omega, Pv (i + 1), fun H' p' => ⟨l.length - (i + 1), by omega, rfl, hlt, p'⟩, fun x H' y => ?_⟩
    obtain ⟨e, c, hc, y⟩ := y
    subst e y
    refine hs i c _ ?_ p
    rw [← Array.getElem?_toList] at hc
    exact hc
  · have e : i = l.length := by omega
    subst e
    exact .inl ⟨by show (S l).cps.size ≤ _; omega, hd H p⟩
/-! ### results said otherwise -/
theorem subI {i j r : Int} {H : Hp} {Q : VK} (h : i - j = r) (q : Q (.int r) H) : qSub (.int i) (.int j) H Q := by
  subst h
  exact q
theorem addI {i j r : Int} {H : Hp} {Q : VK} (h : i + j = r) (q : Q (.int r) H) : qAdd (.int i) (.int j) H Q := by
  subst h
  exact q
theorem mulI {i j r : Int} {H : Hp} {Q : VK} (c : CMul i j ∨ CMulW i j) (h : i * j = r) (q : Q (.int r) H) : qMul (.int i) (.int j) H Q := by
  subst h
  exact ⟨c, q⟩
end F
set_option maxHeartbeats 0
/-! the head: what the top leaves, by names; the addresses looked at are picked by name -/
namespace K45
open PySem PySem.Spec PyProof.Rows L2 F
def lnm0 : List Str := ["_wall", "PadError", "NoNumber", "NoFigures", "NoGroups", "NoBody", "NoValue", "TooGreat", "TooWide", "NoText", "TwoValues", "FIGURES", "MOST_FIGURES", "figures_of", "number_of", "MOST_SIGNS", "marks_in", "grouped"]
def lnm1 : List Str := ["signs_in", "ungrouped", "is_whole", "power_of", "body_of", "whole_in", "worth_of", "number_in", "ABOVE", "BELOW", "ends_of", "Form", "too_long", "need_room", "only_one", "divisor_of", "fraction", "is_fraction"]
def lnm2 : List Str := ["gridded", "grid_value", "pads_of", "padded", "padded_inside", "stripped", "stripped_inside", "NumberForm", "put_core", "cores_in", "WordForm", "ChoiceForm", "_law_cell_at", "_law_whole", "_law_pick", "_law_signs", "_law_sign", "_law_number_spec"]
def lnm3 : List Str := ["_law_number_form", "_law_power", "_law_divisor", "_law_lowest", "_law_figures", "_law_body", "_law_parts", "_law_filled", "_law_word_spec", "_law_names", "_law_choice_spec", "_law_great", "_law_steps", "_law_word", "_law_spec", "_law_form", "_law_parts_of", "_law_text"]
def lnm4 : List Str := ["_law_value", "_law_is_number", "_law_is_value", "_law_ahead", "_law_single", "_law_near", "_law_is_full", "_law_good", "_law_spoilt"]
def lnm : List Str := lnm0 ++ lnm1 ++ lnm2 ++ lnm3 ++ lnm4
def gnm0 : List Str := ["number_of", "marks_in", "signs_in", "ungrouped", "is_whole", "power_of", "whole_in", "worth_of", "number_in", "ends_of", "too_long", "only_one", "divisor_of", "fraction", "grid_value", "pads_of", "padded", "padded_inside"]
def gnm1 : List Str := ["stripped", "stripped_inside", "cores_in", "_law_cell_at", "_law_whole", "_law_pick", "_law_signs", "_law_sign", "_law_number_spec", "_law_number_form", "_law_power", "_law_divisor", "_law_lowest", "_law_figures", "_law_body", "_law_parts", "_law_filled", "_law_word_spec"]
def gnm2 : List Str := ["_law_names", "_law_choice_spec", "_law_great", "_law_steps", "_law_word", "_law_spec", "_law_form", "_law_parts_of", "_law_text", "_law_value", "_law_is_number", "_law_is_value", "_law_ahead", "_law_single", "_law_near", "_law_is_full", "_law_good", "_law_spoilt"]
def gnm3 : List Str := ["law", "PadError", "NoFigures", "NoGroups", "NoBody", "NoNumber", "NoText", "TwoValues", "Form", "NumberForm", "WordForm", "ChoiceForm", "ABOVE", "BELOW"]
def gnm : List Str := gnm0 ++ gnm1 ++ gnm2 ++ gnm3
def df_P_TwoValues___init__ : He.DefD := ⟨("TwoValues", some "__init__"), "__init__", "TwoValues.__init__", defArgs s_P_TwoValues___init__, defBody s_P_TwoValues___init__, defScope s_P_TwoValues___init__, [], []⟩
def df_P_number_of : He.DefD := ⟨("number_of", none), "number_of", "number_of", defArgs s_P_number_of, defBody s_P_number_of, defScope s_P_number_of, [], []⟩
def df_P_marks_in : He.DefD := ⟨("marks_in", none), "marks_in", "marks_in", defArgs s_P_marks_in, defBody s_P_marks_in, defScope s_P_marks_in, [], []⟩
def df_P_signs_in : He.DefD := ⟨("signs_in", none), "signs_in", "signs_in", defArgs s_P_signs_in, defBody s_P_signs_in, defScope s_P_signs_in, [], []⟩
def df_P_ungrouped : He.DefD := ⟨("ungrouped", none), "ungrouped", "ungrouped", defArgs s_P_ungrouped, defBody s_P_ungrouped, defScope s_P_ungrouped, [], []⟩
def df_P_is_whole : He.DefD := ⟨("is_whole", none), "is_whole", "is_whole", defArgs s_P_is_whole, defBody s_P_is_whole, defScope s_P_is_whole, [], []⟩
def df_P_power_of : He.DefD := ⟨("power_of", none), "power_of", "power_of", defArgs s_P_power_of, defBody s_P_power_of, defScope s_P_power_of, [], []⟩
def df_P_whole_in : He.DefD := ⟨("whole_in", none), "whole_in", "whole_in", defArgs s_P_whole_in, defBody s_P_whole_in, defScope s_P_whole_in, [], []⟩
def df_P_worth_of : He.DefD := ⟨("worth_of", none), "worth_of", "worth_of", defArgs s_P_worth_of, defBody s_P_worth_of, defScope s_P_worth_of, [], []⟩
def df_P_number_in : He.DefD := ⟨("number_in", none), "number_in", "number_in", defArgs s_P_number_in, defBody s_P_number_in, defScope s_P_number_in, [], []⟩
def df_P_ends_of : He.DefD := ⟨("ends_of", none), "ends_of", "ends_of", defArgs s_P_ends_of, defBody s_P_ends_of, defScope s_P_ends_of, [], []⟩
def df_P_Form___init__ : He.DefD := ⟨("Form", some "__init__"), "__init__", "Form.__init__", defArgs s_P_Form___init__, defBody s_P_Form___init__, defScope s_P_Form___init__, [], []⟩
def df_P_too_long : He.DefD := ⟨("too_long", none), "too_long", "too_long", defArgs s_P_too_long, defBody s_P_too_long, defScope s_P_too_long, [], []⟩
def df_P_only_one : He.DefD := ⟨("only_one", none), "only_one", "only_one", defArgs s_P_only_one, defBody s_P_only_one, defScope s_P_only_one, [], []⟩
def df_P_divisor_of : He.DefD := ⟨("divisor_of", none), "divisor_of", "divisor_of", defArgs s_P_divisor_of, defBody s_P_divisor_of, defScope s_P_divisor_of, [], []⟩
def df_P_fraction : He.DefD := ⟨("fraction", none), "fraction", "fraction", defArgs s_P_fraction, defBody s_P_fraction, defScope s_P_fraction, [], []⟩
def df_P_grid_value : He.DefD := ⟨("grid_value", none), "grid_value", "grid_value", defArgs s_P_grid_value, defBody s_P_grid_value, defScope s_P_grid_value, [], []⟩
def df_P_pads_of : He.DefD := ⟨("pads_of", none), "pads_of", "pads_of", defArgs s_P_pads_of, defBody s_P_pads_of, defScope s_P_pads_of, [], []⟩
def df_P_padded : He.DefD := ⟨("padded", none), "padded", "padded", defArgs s_P_padded, defBody s_P_padded, defScope s_P_padded, [], []⟩
def df_P_padded_inside : He.DefD := ⟨("padded_inside", none), "padded_inside", "padded_inside", defArgs s_P_padded_inside, defBody s_P_padded_inside, defScope s_P_padded_inside, [], []⟩
def df_P_stripped : He.DefD := ⟨("stripped", none), "stripped", "stripped", defArgs s_P_stripped, defBody s_P_stripped, defScope s_P_stripped, [], []⟩
def df_P_stripped_inside : He.DefD := ⟨("stripped_inside", none), "stripped_inside", "stripped_inside", defArgs s_P_stripped_inside, defBody s_P_stripped_inside, defScope s_P_stripped_inside, [], []⟩
def df_P_NumberForm___init__ : He.DefD := ⟨("NumberForm", some "__init__"), "__init__", "NumberForm.__init__", defArgs s_P_NumberForm___init__, defBody s_P_NumberForm___init__, defScope s_P_NumberForm___init__, [.int 10, .str (S [109, 105, 110, 117, 115]), .int 0, .str (S [44]), .str (S [46]), .str (S [110, 101, 97, 114]), .int 0, .str (S [32]), .str (S [114, 105, 103, 104, 116]), .bl false], []⟩
def df_P_NumberForm_rests_in : He.DefD := ⟨("NumberForm", some "rests_in"), "rests_in", "NumberForm.rests_in", defArgs s_P_NumberForm_rests_in, defBody s_P_NumberForm_rests_in, defScope s_P_NumberForm_rests_in, [], []⟩
def df_P_NumberForm_steps_in : He.DefD := ⟨("NumberForm", some "steps_in"), "steps_in", "NumberForm.steps_in", defArgs s_P_NumberForm_steps_in, defBody s_P_NumberForm_steps_in, defScope s_P_NumberForm_steps_in, [], []⟩
def df_P_NumberForm_all_steps : He.DefD := ⟨("NumberForm", some "all_steps"), "all_steps", "NumberForm.all_steps", defArgs s_P_NumberForm_all_steps, defBody s_P_NumberForm_all_steps, defScope s_P_NumberForm_all_steps, [], []⟩
def df_P_NumberForm_values_for : He.DefD := ⟨("NumberForm", some "values_for"), "values_for", "NumberForm.values_for", defArgs s_P_NumberForm_values_for, defBody s_P_NumberForm_values_for, defScope s_P_NumberForm_values_for, [], []⟩
def df_P_NumberForm_value_of : He.DefD := ⟨("NumberForm", some "value_of"), "value_of", "NumberForm.value_of", defArgs s_P_NumberForm_value_of, defBody s_P_NumberForm_value_of, defScope s_P_NumberForm_value_of, [], []⟩
def df_P_cores_in : He.DefD := ⟨("cores_in", none), "cores_in", "cores_in", defArgs s_P_cores_in, defBody s_P_cores_in, defScope s_P_cores_in, [], []⟩
def df_P_WordForm___init__ : He.DefD := ⟨("WordForm", some "__init__"), "__init__", "WordForm.__init__", defArgs s_P_WordForm___init__, defBody s_P_WordForm___init__, defScope s_P_WordForm___init__, [.int 0, .str (S [32]), .str (S [108, 101, 102, 116]), .bl false], []⟩
def df_P_WordForm_is_word : He.DefD := ⟨("WordForm", some "is_word"), "is_word", "WordForm.is_word", defArgs s_P_WordForm_is_word, defBody s_P_WordForm_is_word, defScope s_P_WordForm_is_word, [], []⟩
def df_P_WordForm_values_for : He.DefD := ⟨("WordForm", some "values_for"), "values_for", "WordForm.values_for", defArgs s_P_WordForm_values_for, defBody s_P_WordForm_values_for, defScope s_P_WordForm_values_for, [], []⟩
def df_P_WordForm_value_of : He.DefD := ⟨("WordForm", some "value_of"), "value_of", "WordForm.value_of", defArgs s_P_WordForm_value_of, defBody s_P_WordForm_value_of, defScope s_P_WordForm_value_of, [], []⟩
def df_P_ChoiceForm___init__ : He.DefD := ⟨("ChoiceForm", some "__init__"), "__init__", "ChoiceForm.__init__", defArgs s_P_ChoiceForm___init__, defBody s_P_ChoiceForm___init__, defScope s_P_ChoiceForm___init__, [.int 0, .str (S [32]), .str (S [108, 101, 102, 116]), .bl false], []⟩
def df_P_ChoiceForm_values_for : He.DefD := ⟨("ChoiceForm", some "values_for"), "values_for", "ChoiceForm.values_for", defArgs s_P_ChoiceForm_values_for, defBody s_P_ChoiceForm_values_for, defScope s_P_ChoiceForm_values_for, [], []⟩
def df_P_ChoiceForm_value_of : He.DefD := ⟨("ChoiceForm", some "value_of"), "value_of", "ChoiceForm.value_of", defArgs s_P_ChoiceForm_value_of, defBody s_P_ChoiceForm_value_of, defScope s_P_ChoiceForm_value_of, [], []⟩
def df_L_cell_at : He.DefD := ⟨("_law_cell_at", none), "_law_cell_at", "_law_cell_at", defArgs s_L_cell_at, defBody s_L_cell_at, defScope s_L_cell_at, [], []⟩
def df_L_whole : He.DefD := ⟨("_law_whole", none), "_law_whole", "_law_whole", defArgs s_L_whole, defBody s_L_whole, defScope s_L_whole, [], []⟩
def df_L_pick : He.DefD := ⟨("_law_pick", none), "_law_pick", "_law_pick", defArgs s_L_pick, defBody s_L_pick, defScope s_L_pick, [], []⟩
def df_L_signs : He.DefD := ⟨("_law_signs", none), "_law_signs", "_law_signs", defArgs s_L_signs, defBody s_L_signs, defScope s_L_signs, [], []⟩
def df_L_sign : He.DefD := ⟨("_law_sign", none), "_law_sign", "_law_sign", defArgs s_L_sign, defBody s_L_sign, defScope s_L_sign, [], []⟩
def df_L_number_spec : He.DefD := ⟨("_law_number_spec", none), "_law_number_spec", "_law_number_spec", defArgs s_L_number_spec, defBody s_L_number_spec, defScope s_L_number_spec, [], []⟩
def df_L_number_form : He.DefD := ⟨("_law_number_form", none), "_law_number_form", "_law_number_form", defArgs s_L_number_form, defBody s_L_number_form, defScope s_L_number_form, [], []⟩
def df_L_power : He.DefD := ⟨("_law_power", none), "_law_power", "_law_power", defArgs s_L_power, defBody s_L_power, defScope s_L_power, [], []⟩
def df_L_divisor : He.DefD := ⟨("_law_divisor", none), "_law_divisor", "_law_divisor", defArgs s_L_divisor, defBody s_L_divisor, defScope s_L_divisor, [], []⟩
def df_L_lowest : He.DefD := ⟨("_law_lowest", none), "_law_lowest", "_law_lowest", defArgs s_L_lowest, defBody s_L_lowest, defScope s_L_lowest, [], []⟩
def df_L_figures : He.DefD := ⟨("_law_figures", none), "_law_figures", "_law_figures", defArgs s_L_figures, defBody s_L_figures, defScope s_L_figures, [], []⟩
def df_L_body : He.DefD := ⟨("_law_body", none), "_law_body", "_law_body", defArgs s_L_body, defBody s_L_body, defScope s_L_body, [], []⟩
def df_L_parts : He.DefD := ⟨("_law_parts", none), "_law_parts", "_law_parts", defArgs s_L_parts, defBody s_L_parts, defScope s_L_parts, [], []⟩
def df_L_filled : He.DefD := ⟨("_law_filled", none), "_law_filled", "_law_filled", defArgs s_L_filled, defBody s_L_filled, defScope s_L_filled, [], []⟩
def df_L_word_spec : He.DefD := ⟨("_law_word_spec", none), "_law_word_spec", "_law_word_spec", defArgs s_L_word_spec, defBody s_L_word_spec, defScope s_L_word_spec, [], []⟩
def df_L_names : He.DefD := ⟨("_law_names", none), "_law_names", "_law_names", defArgs s_L_names, defBody s_L_names, defScope s_L_names, [], []⟩
def df_L_choice_spec : He.DefD := ⟨("_law_choice_spec", none), "_law_choice_spec", "_law_choice_spec", defArgs s_L_choice_spec, defBody s_L_choice_spec, defScope s_L_choice_spec, [], []⟩
def df_L_great : He.DefD := ⟨("_law_great", none), "_law_great", "_law_great", defArgs s_L_great, defBody s_L_great, defScope s_L_great, [], []⟩
def df_L_steps : He.DefD := ⟨("_law_steps", none), "_law_steps", "_law_steps", defArgs s_L_steps, defBody s_L_steps, defScope s_L_steps, [], []⟩
def df_L_word : He.DefD := ⟨("_law_word", none), "_law_word", "_law_word", defArgs s_L_word, defBody s_L_word, defScope s_L_word, [], []⟩
def df_L_spec : He.DefD := ⟨("_law_spec", none), "_law_spec", "_law_spec", defArgs s_L_spec, defBody s_L_spec, defScope s_L_spec, [], []⟩
def df_L_form : He.DefD := ⟨("_law_form", none), "_law_form", "_law_form", defArgs s_L_form, defBody s_L_form, defScope s_L_form, [], []⟩
def df_L_parts_of : He.DefD := ⟨("_law_parts_of", none), "_law_parts_of", "_law_parts_of", defArgs s_L_parts_of, defBody s_L_parts_of, defScope s_L_parts_of, [], []⟩
def df_L_text : He.DefD := ⟨("_law_text", none), "_law_text", "_law_text", defArgs s_L_text, defBody s_L_text, defScope s_L_text, [], []⟩
def df_L_value : He.DefD := ⟨("_law_value", none), "_law_value", "_law_value", defArgs s_L_value, defBody s_L_value, defScope s_L_value, [], []⟩
def df_L_is_number : He.DefD := ⟨("_law_is_number", none), "_law_is_number", "_law_is_number", defArgs s_L_is_number, defBody s_L_is_number, defScope s_L_is_number, [], []⟩
def df_L_is_value : He.DefD := ⟨("_law_is_value", none), "_law_is_value", "_law_is_value", defArgs s_L_is_value, defBody s_L_is_value, defScope s_L_is_value, [], []⟩
def df_L_ahead : He.DefD := ⟨("_law_ahead", none), "_law_ahead", "_law_ahead", defArgs s_L_ahead, defBody s_L_ahead, defScope s_L_ahead, [], []⟩
def df_L_single : He.DefD := ⟨("_law_single", none), "_law_single", "_law_single", defArgs s_L_single, defBody s_L_single, defScope s_L_single, [], []⟩
def df_L_near : He.DefD := ⟨("_law_near", none), "_law_near", "_law_near", defArgs s_L_near, defBody s_L_near, defScope s_L_near, [], []⟩
def df_L_is_full : He.DefD := ⟨("_law_is_full", none), "_law_is_full", "_law_is_full", defArgs s_L_is_full, defBody s_L_is_full, defScope s_L_is_full, [], []⟩
def df_L_good : He.DefD := ⟨("_law_good", none), "_law_good", "_law_good", defArgs s_L_good, defBody s_L_good, defScope s_L_good, [], []⟩
def df_L_spoilt : He.DefD := ⟨("_law_spoilt", none), "_law_spoilt", "_law_spoilt", defArgs s_L_spoilt, defBody s_L_spoilt, defScope s_L_spoilt, [], []⟩
def df_L_law : He.DefD := ⟨("law", none), "law", "law", defArgs s_L_law, defBody s_L_law, defScope s_L_law, [], []⟩
def fnl0 : List He.DefD := [df_P_TwoValues___init__, df_P_number_of, df_P_marks_in, df_P_signs_in, df_P_ungrouped, df_P_is_whole, df_P_power_of, df_P_whole_in, df_P_worth_of, df_P_number_in, df_P_ends_of, df_P_Form___init__, df_P_too_long, df_P_only_one, df_P_divisor_of, df_P_fraction, df_P_grid_value, df_P_pads_of]
def fnl1 : List He.DefD := [df_P_padded, df_P_padded_inside, df_P_stripped, df_P_stripped_inside, df_P_NumberForm___init__, df_P_NumberForm_rests_in, df_P_NumberForm_steps_in, df_P_NumberForm_all_steps, df_P_NumberForm_values_for, df_P_NumberForm_value_of, df_P_cores_in, df_P_WordForm___init__, df_P_WordForm_is_word, df_P_WordForm_values_for, df_P_WordForm_value_of, df_P_ChoiceForm___init__, df_P_ChoiceForm_values_for, df_P_ChoiceForm_value_of]
def fnl2 : List He.DefD := [df_L_cell_at, df_L_whole, df_L_pick, df_L_signs, df_L_sign, df_L_number_spec, df_L_number_form, df_L_power, df_L_divisor, df_L_lowest, df_L_figures, df_L_body, df_L_parts, df_L_filled, df_L_word_spec, df_L_names, df_L_choice_spec, df_L_great]
def fnl3 : List He.DefD := [df_L_steps, df_L_word, df_L_spec, df_L_form, df_L_parts_of, df_L_text, df_L_value, df_L_is_number, df_L_is_value, df_L_ahead, df_L_single, df_L_near, df_L_is_full, df_L_good, df_L_spoilt, df_L_law]
def fnl : List He.DefD := fnl0 ++ fnl1 ++ fnl2 ++ fnl3
def fal0 : List He.Fa := [.glo "number_of", .glo "marks_in", .glo "signs_in", .glo "ungrouped", .glo "is_whole", .glo "power_of", .glo "whole_in", .glo "worth_of", .glo "number_in", .glo "ends_of", .glo "too_long", .glo "only_one", .glo "divisor_of", .glo "fraction", .glo "grid_value", .glo "pads_of", .glo "padded", .glo "padded_inside"]
def fal1 : List He.Fa := [.glo "stripped", .glo "stripped_inside", .glo "cores_in", .glo "_law_cell_at", .glo "_law_whole", .glo "_law_pick", .glo "_law_signs", .glo "_law_sign", .glo "_law_number_spec", .glo "_law_number_form", .glo "_law_power", .glo "_law_divisor", .glo "_law_lowest", .glo "_law_figures", .glo "_law_body", .glo "_law_parts", .glo "_law_filled", .glo "_law_word_spec"]
def fal2 : List He.Fa := [.glo "_law_names", .glo "_law_choice_spec", .glo "_law_great", .glo "_law_steps", .glo "_law_word", .glo "_law_spec", .glo "_law_form", .glo "_law_parts_of", .glo "_law_text", .glo "_law_value", .glo "_law_is_number", .glo "_law_is_value", .glo "_law_ahead", .glo "_law_single", .glo "_law_near", .glo "_law_is_full", .glo "_law_good", .glo "_law_spoilt"]
def fal3 : List He.Fa := [.glo "law", .glo "PadError", .glo "NoFigures", .glo "NoGroups", .glo "NoBody", .glo "NoNumber", .glo "NoText", .glo "TwoValues", .glo "Form", .glo "NumberForm", .glo "WordForm", .glo "ChoiceForm", .glo "ABOVE", .glo "BELOW", .free "len", .free "abs", .free "max", .free "min"]
def fal4 : List He.Fa := [.free "isinstance", .free "sorted", .free "range", .free "list", .free "zip", .free "str", .free "int", .free "bool", .free "tuple", .free "ValueError", .str "FIGURES" (S figs16), .int "MOST_FIGURES" 240, .int "MOST_SIGNS" 40, .cls "NumberForm", .noat "NumberForm" "width", .noat "NumberForm" "fill", .noat "NumberForm" "side", .noat "NumberForm" "strict"]
def fal5 : List He.Fa := [.noat "NumberForm" "figures", .noat "NumberForm" "places", .noat "NumberForm" "base", .noat "NumberForm" "sign", .noat "NumberForm" "size", .noat "NumberForm" "mark", .noat "NumberForm" "point", .noat "NumberForm" "way", .meth "NumberForm" "rests_in", .meth "NumberForm" "steps_in", .meth "NumberForm" "all_steps", .meth "NumberForm" "values_for", .meth "NumberForm" "value_of", .mkr "NumberForm", .cls "WordForm", .noat "WordForm" "width", .noat "WordForm" "fill", .noat "WordForm" "side"]
def fal6 : List He.Fa := [.noat "WordForm" "strict", .noat "WordForm" "signs", .noat "WordForm" "least", .noat "WordForm" "most", .meth "WordForm" "is_word", .meth "WordForm" "values_for", .meth "WordForm" "value_of", .mkr "WordForm", .cls "ChoiceForm", .noat "ChoiceForm" "width", .noat "ChoiceForm" "fill", .noat "ChoiceForm" "side", .noat "ChoiceForm" "strict", .noat "ChoiceForm" "names", .meth "ChoiceForm" "values_for", .meth "ChoiceForm" "value_of", .mkr "ChoiceForm", .exc "NoFigures"]
def fal7 : List He.Fa := [.exc "NoGroups", .exc "NoBody", .exc "NoText", .exm "NoGroups" "NoGroups" true, .exm "NoFigures" "NoFigures" true, .exm "NoBody" "NoBody" true, .exm "NoText" "NoText" true, .exm "TwoValues" "NoText" false, .exm "TwoValues" "TwoValues" true, .noat "TwoValues" "told"]
def fal : List He.Fa := fal0 ++ fal1 ++ fal2 ++ fal3 ++ fal4 ++ fal5 ++ fal6 ++ fal7
/-! ### what is looked at -/
def refs1 (g : Addr → Option Obj) (a : Addr) : List Addr := match g a with
  | some o => He.refsO o
  | none => []
def nsOf (g : Addr → Option Obj) (a : Addr) : List Addr := match g a with
  | some o => (match o.data with
    | .cls cd => [cd.ns]
    | _ => [])
  | none => []
def gAdr (g : Addr → Option Obj) : List Addr := gnm.flatMap fun x => match PySem.W.nsIn (He.frG g [mainGlobals]) mainGlobals x with
  | some (some (.ref a)) => [a]
  | _ => []
def sel2 (g : Addr → Option Obj) (as : List Addr) : List Addr := as.flatMap fun a => refs1 g a
def sel (g : Addr → Option Obj) : List Addr := mainGlobals :: cStatics :: (gAdr g ++ (sel2 g (gAdr g) ++ (sel2 g ((gAdr g).flatMap (nsOf g)) ++ sel2 g (sel2 g ((gAdr g).flatMap (nsOf g))))))
/-! ### more of K -/
def tupA (K : PySem.W.Frag) (p : Addr) (vs : List V) : Bool := match K.lookup p with
  | some ⟨.type c, _, .seq its _, _⟩ => decide (c = "tuple") && (decide (its.size ≤ sizeLine) && He.relAll vs its.toList)
  | _ => false
theorem tupA_ok {K : PySem.W.Frag} {p : Addr} {vs : List V} (h : tupA K p vs = true) (H : Hp) : SqT K H p vs := by
  unfold tupA at h
  split at h
  · rename_i c d its n sl q
    obtain ⟨h1, h2⟩ := He.ba h
    obtain ⟨h3, h4⟩ := He.ba h2
    exact .inr ⟨_, its, n, q, congrArg Value.type (of_decide_eq_true h1), rfl, of_decide_eq_true h3, He.relAll_ok h4⟩
  · cases h
def tabB (K : PySem.W.Frag) (x : Str) (rows : List (List Nat × List Nat × List Nat)) : Bool := rows.all fun r => match PySem.W.nsIn K (He.ga K x) (S r.1) with
  | some (some (.ref p)) => tupA K p [.str (S r.2.1), .str (S r.2.2)]
  | _ => false
theorem tabB_ok {K : PySem.W.Frag} {w : World} {x : Str} {rows : List (List Nat × List Nat × List Nat)} (h : tabB K x rows = true) (D : ∃ es n, KDict K w (He.ga K x) es n) :
    ∀ r ∈ rows, ∃ p, KDct K w (He.ga K x) (S r.1) (.ref p) ∧ ∀ H, SqT K H p [.str (S r.2.1), .str (S r.2.2)] := by
  intro r hr
  obtain ⟨es, n, D⟩ := D
  have h2 := List.all_eq_true.mp h r hr
  split at h2
  · rename_i p q
    exact ⟨p, ⟨es, n, .ref p, D.at_, D.lit, q, rfl⟩, fun H => tupA_ok h2 H⟩
  · cases h2
def oexB (K : PySem.W.Frag) (C : Addr) : Bool := (match K.lookup C with
  | some ⟨.type t, _, .cls cd, sl⟩ => decide (t = "type") && (match cd.mro, sl.toList with
    | .ref C' :: bm, [_, _, _, _, some (.builtin n), _] => decide (C' = C) && (decide (n = "ValueError.__new__") && (PySem.HandSPX.refsVE bm && (cd.hasDict && !cd.hasDel)))
    | _, _ => false)
  | _ => false) && (He.eqO (PySem.W.findIn K (.ref C) "__setattr__") (some (some (.builtin "object.__setattr__"))) && (decide (PySem.W.subIn K (.ref C) (.type "BaseException") = some true) && (decide (PySem.W.typeIn K (.ref C) = some (.type "type")) && PySem.W.keepIn K (.ref C))))
theorem oexB_ok {K : PySem.W.Frag} {C : Addr} (h : oexB K C = true) : OexC K C := by
  obtain ⟨h1, h2⟩ := He.ba h
  obtain ⟨h3, h4⟩ := He.ba h2
  obtain ⟨h5, h6⟩ := He.ba h4
  obtain ⟨h7, h8⟩ := He.ba h6
  refine ⟨?_, He.eqO_ok h3, of_decide_eq_true h5, of_decide_eq_true h7, h8⟩
  split at h1
  · rename_i t dd cd sl q
    obtain ⟨t1, t2⟩ := He.ba h1
    obtain rfl := of_decide_eq_true t1
    split at t2
    · rename_i C' bm k0 k1 k2 k3 n k5 m1 m2
      obtain ⟨a1, a2⟩ := He.ba t2
      obtain ⟨a3, a4⟩ := He.ba a2
      obtain ⟨a5, a6⟩ := He.ba a4
      obtain ⟨a7, a8⟩ := He.ba a6
      obtain rfl := of_decide_eq_true a1
      obtain rfl := of_decide_eq_true a3
      obtain ⟨nm, bs, mro, ns, qn, hd, sn, sub, ab, col, del⟩ := cd
      have e1 : mro = .ref C' :: bm := m1
      have e2 : hd = true := a7
      have e3 : del = false := by
        have a9 : (!del) = true := a8
        cases del
        · rfl
        · cases a9
      have e4 : sl = #[k0, k1, k2, k3, some (.builtin "ValueError.__new__"), k5] := by
        rw [← Array.toArray_toList (xs := sl), m2]
      subst e1 e2 e3 e4
      exact ⟨_, _, _, _, _, _, _, _, _, _, _, _, _, _, _, q, a5⟩
    · cases t2
  · cases h1
def clsB (K : PySem.W.Frag) (C : Addr) (m : Str) (u : Value) : Bool := PySem.W.readsIn K C (.type "type") && (He.eqO (PySem.W.specialIn K (.ref C) "__getattribute__") (some (some (.builtin "type.__getattribute__"))) && (match PySem.W.findCls K (.ref C) (.type "type") m with
  | some (.val v) => decide (v = u)
  | _ => false))
theorem clsB_ok {K : PySem.W.Frag} {C : Addr} {m : Str} {u : Value} (h : clsB K C m u = true) : ∃ mc, ClX.CRead K C mc ∧ PySem.W.findCls K (.ref C) mc m = some (.val u) := by
  obtain ⟨h1, h2⟩ := He.ba h
  obtain ⟨h3, h4⟩ := He.ba h2
  refine ⟨.type "type", ⟨h1, He.eqO_ok h3⟩, ?_⟩
  split at h4
  · rename_i v q
    rw [q, of_decide_eq_true h4]
  · cases h4
def exB (K : PySem.W.Frag) : Bool := xfB K (He.ga K "TwoValues") && (oexB K (He.ga K "TwoValues") && (He.eqO (PySem.W.findIn K (.ref (He.ga K "TwoValues")) "__init__") (some (some (.ref (He.ma K (He.ga K "TwoValues") "__init__")))) && (decide (PySem.W.typeIn K (.ref (He.ma K (He.ga K "TwoValues") "__init__")) = some (.type "function")) &&
  (clsB K (He.ga K "PadError") "__init__" (.builtin "ValueError.__init__") && (clsB K (He.ga K "Form") "__init__" (.ref (He.ma K (He.ga K "Form") "__init__")) && (tabB K "ABOVE" aboveT && tabB K "BELOW" belowT))))))
/-! ### the Hook -/
def tabK : List Str := [S [109, 105, 110, 117, 115], S [112, 108, 117, 115], S [98, 108, 97, 110, 107], S [98, 114, 97, 99, 107, 101, 116, 115], S [98, 101, 104, 105, 110, 100]]
def tabs : List He.Tab := [((fun K => He.ga K "ABOVE"), tabK), ((fun K => He.ga K "BELOW"), tabK)]
abbrev AlS : Type := He.AlT × Bool
def obsS (K : PySem.W.Frag) : AlS := (He.obsT fal fnl tabs K, exB K)
def valS (w : World) : AlS := (He.valT fnl tabs w, true)
def hkS : PySem.W.Hook where
  α := AlS
  obs := fun s => obsS (He.frG s.heap.get? (sel s.heap.get?))
  val := fun w => valS w
  says := fun w h => ∃ K : PySem.W.Frag, K.In h ∧ obsS K = valS w
  of := fun _ _ e => ⟨_, He.frG_in, e⟩
  keeps := fun _ _ _ ⟨K, hK, c⟩ k => ⟨K, PySem.W.Frag.In.keeps hK k, c⟩
def obS (s : PySem.W.SharedT) : AlS := obsS (He.frG (HandSHeadRun.getT s) (sel (HandSHeadRun.getT s)))
theorem obS_eq (s : PySem.W.SharedT) : obS s = hkS.obs s.abs := by
  have e : HandSHeadRun.getT s = s.abs.heap.get? := funext fun a => HandSHeadRun.getT_eq s a
  unfold obS
  rw [e]
  rfl
abbrev Rw : PySem.W.OpenRow := PySem.W.OpenLaw.row PySem.Challenge.rw_padwright_k45_values_for_a_text

section
variable {w : World} {K : PySem.W.Frag} {h : Heap} {mg : Str → Option Value}
theorem facts (X : K.In h) (G : h.Ns mainGlobals mg) (c : obsS K = valS w) : TX w K mg := by
  have cT : He.SaysT fal fnl tabs w K := congrArg (fun z : AlS => z.1) c
  have cD : He.SaysD fal fnl K := cT.d
  have cE : exB K = true := congrArg (fun z : AlS => z.2) c
  obtain ⟨x1, cE⟩ := He.ba cE
  obtain ⟨x2, cE⟩ := He.ba cE
  obtain ⟨x3, cE⟩ := He.ba cE
  obtain ⟨x4, cE⟩ := He.ba cE
  obtain ⟨x5, cE⟩ := He.ba cE
  obtain ⟨x6, cE⟩ := He.ba cE
  obtain ⟨x7, x8⟩ := He.ba cE
  have gl : ∀ (i : Nat) (x : Str), fal[i]? = some (.glo x) → mg x = some (.ref (He.ga K x)) := fun i x e => He.glo_ok X G (cD.fact i e)
  have fr : ∀ (i : Nat) (x : Str), fal[i]? = some (.free x) → mg x = none := fun i x e => He.free_ok X G (cD.fact i e)
  exact {
    d_P_TwoValues___init__ := cD.def_ 0 (d := df_P_TwoValues___init__) rfl
    d_P_number_of := cD.def_ 1 (d := df_P_number_of) rfl
    d_P_marks_in := cD.def_ 2 (d := df_P_marks_in) rfl
    d_P_signs_in := cD.def_ 3 (d := df_P_signs_in) rfl
    d_P_ungrouped := cD.def_ 4 (d := df_P_ungrouped) rfl
    d_P_is_whole := cD.def_ 5 (d := df_P_is_whole) rfl
    d_P_power_of := cD.def_ 6 (d := df_P_power_of) rfl
    d_P_whole_in := cD.def_ 7 (d := df_P_whole_in) rfl
    d_P_worth_of := cD.def_ 8 (d := df_P_worth_of) rfl
    d_P_number_in := cD.def_ 9 (d := df_P_number_in) rfl
    d_P_ends_of := cD.def_ 10 (d := df_P_ends_of) rfl
    d_P_Form___init__ := cD.def_ 11 (d := df_P_Form___init__) rfl
    d_P_too_long := cD.def_ 12 (d := df_P_too_long) rfl
    d_P_only_one := cD.def_ 13 (d := df_P_only_one) rfl
    d_P_divisor_of := cD.def_ 14 (d := df_P_divisor_of) rfl
    d_P_fraction := cD.def_ 15 (d := df_P_fraction) rfl
    d_P_grid_value := cD.def_ 16 (d := df_P_grid_value) rfl
    d_P_pads_of := cD.def_ 17 (d := df_P_pads_of) rfl
    d_P_padded := cD.def_ 18 (d := df_P_padded) rfl
    d_P_padded_inside := cD.def_ 19 (d := df_P_padded_inside) rfl
    d_P_stripped := cD.def_ 20 (d := df_P_stripped) rfl
    d_P_stripped_inside := cD.def_ 21 (d := df_P_stripped_inside) rfl
    d_P_NumberForm___init__ := cD.def_ 22 (d := df_P_NumberForm___init__) rfl
    d_P_NumberForm_rests_in := cD.def_ 23 (d := df_P_NumberForm_rests_in) rfl
    d_P_NumberForm_steps_in := cD.def_ 24 (d := df_P_NumberForm_steps_in) rfl
    d_P_NumberForm_all_steps := cD.def_ 25 (d := df_P_NumberForm_all_steps) rfl
    d_P_NumberForm_values_for := cD.def_ 26 (d := df_P_NumberForm_values_for) rfl
    d_P_NumberForm_value_of := cD.def_ 27 (d := df_P_NumberForm_value_of) rfl
    d_P_cores_in := cD.def_ 28 (d := df_P_cores_in) rfl
    d_P_WordForm___init__ := cD.def_ 29 (d := df_P_WordForm___init__) rfl
    d_P_WordForm_is_word := cD.def_ 30 (d := df_P_WordForm_is_word) rfl
    d_P_WordForm_values_for := cD.def_ 31 (d := df_P_WordForm_values_for) rfl
    d_P_WordForm_value_of := cD.def_ 32 (d := df_P_WordForm_value_of) rfl
    d_P_ChoiceForm___init__ := cD.def_ 33 (d := df_P_ChoiceForm___init__) rfl
    d_P_ChoiceForm_values_for := cD.def_ 34 (d := df_P_ChoiceForm_values_for) rfl
    d_P_ChoiceForm_value_of := cD.def_ 35 (d := df_P_ChoiceForm_value_of) rfl
    d_L_cell_at := cD.def_ 36 (d := df_L_cell_at) rfl
    d_L_whole := cD.def_ 37 (d := df_L_whole) rfl
    d_L_pick := cD.def_ 38 (d := df_L_pick) rfl
    d_L_signs := cD.def_ 39 (d := df_L_signs) rfl
    d_L_sign := cD.def_ 40 (d := df_L_sign) rfl
    d_L_number_spec := cD.def_ 41 (d := df_L_number_spec) rfl
    d_L_number_form := cD.def_ 42 (d := df_L_number_form) rfl
    d_L_power := cD.def_ 43 (d := df_L_power) rfl
    d_L_divisor := cD.def_ 44 (d := df_L_divisor) rfl
    d_L_lowest := cD.def_ 45 (d := df_L_lowest) rfl
    d_L_figures := cD.def_ 46 (d := df_L_figures) rfl
    d_L_body := cD.def_ 47 (d := df_L_body) rfl
    d_L_parts := cD.def_ 48 (d := df_L_parts) rfl
    d_L_filled := cD.def_ 49 (d := df_L_filled) rfl
    d_L_word_spec := cD.def_ 50 (d := df_L_word_spec) rfl
    d_L_names := cD.def_ 51 (d := df_L_names) rfl
    d_L_choice_spec := cD.def_ 52 (d := df_L_choice_spec) rfl
    d_L_great := cD.def_ 53 (d := df_L_great) rfl
    d_L_steps := cD.def_ 54 (d := df_L_steps) rfl
    d_L_word := cD.def_ 55 (d := df_L_word) rfl
    d_L_spec := cD.def_ 56 (d := df_L_spec) rfl
    d_L_form := cD.def_ 57 (d := df_L_form) rfl
    d_L_parts_of := cD.def_ 58 (d := df_L_parts_of) rfl
    d_L_text := cD.def_ 59 (d := df_L_text) rfl
    d_L_value := cD.def_ 60 (d := df_L_value) rfl
    d_L_is_number := cD.def_ 61 (d := df_L_is_number) rfl
    d_L_is_value := cD.def_ 62 (d := df_L_is_value) rfl
    d_L_ahead := cD.def_ 63 (d := df_L_ahead) rfl
    d_L_single := cD.def_ 64 (d := df_L_single) rfl
    d_L_near := cD.def_ 65 (d := df_L_near) rfl
    d_L_is_full := cD.def_ 66 (d := df_L_is_full) rfl
    d_L_good := cD.def_ 67 (d := df_L_good) rfl
    d_L_spoilt := cD.def_ 68 (d := df_L_spoilt) rfl
    d_L_law := cD.def_ 69 (d := df_L_law) rfl
    g_P_number_of := gl 0 "number_of" rfl
    g_P_marks_in := gl 1 "marks_in" rfl
    g_P_signs_in := gl 2 "signs_in" rfl
    g_P_ungrouped := gl 3 "ungrouped" rfl
    g_P_is_whole := gl 4 "is_whole" rfl
    g_P_power_of := gl 5 "power_of" rfl
    g_P_whole_in := gl 6 "whole_in" rfl
    g_P_worth_of := gl 7 "worth_of" rfl
    g_P_number_in := gl 8 "number_in" rfl
    g_P_ends_of := gl 9 "ends_of" rfl
    g_P_too_long := gl 10 "too_long" rfl
    g_P_only_one := gl 11 "only_one" rfl
    g_P_divisor_of := gl 12 "divisor_of" rfl
    g_P_fraction := gl 13 "fraction" rfl
    g_P_grid_value := gl 14 "grid_value" rfl
    g_P_pads_of := gl 15 "pads_of" rfl
    g_P_padded := gl 16 "padded" rfl
    g_P_padded_inside := gl 17 "padded_inside" rfl
    g_P_stripped := gl 18 "stripped" rfl
    g_P_stripped_inside := gl 19 "stripped_inside" rfl
    g_P_cores_in := gl 20 "cores_in" rfl
    g_L_cell_at := gl 21 "_law_cell_at" rfl
    g_L_whole := gl 22 "_law_whole" rfl
    g_L_pick := gl 23 "_law_pick" rfl
    g_L_signs := gl 24 "_law_signs" rfl
    g_L_sign := gl 25 "_law_sign" rfl
    g_L_number_spec := gl 26 "_law_number_spec" rfl
    g_L_number_form := gl 27 "_law_number_form" rfl
    g_L_power := gl 28 "_law_power" rfl
    g_L_divisor := gl 29 "_law_divisor" rfl
    g_L_lowest := gl 30 "_law_lowest" rfl
    g_L_figures := gl 31 "_law_figures" rfl
    g_L_body := gl 32 "_law_body" rfl
    g_L_parts := gl 33 "_law_parts" rfl
    g_L_filled := gl 34 "_law_filled" rfl
    g_L_word_spec := gl 35 "_law_word_spec" rfl
    g_L_names := gl 36 "_law_names" rfl
    g_L_choice_spec := gl 37 "_law_choice_spec" rfl
    g_L_great := gl 38 "_law_great" rfl
    g_L_steps := gl 39 "_law_steps" rfl
    g_L_word := gl 40 "_law_word" rfl
    g_L_spec := gl 41 "_law_spec" rfl
    g_L_form := gl 42 "_law_form" rfl
    g_L_parts_of := gl 43 "_law_parts_of" rfl
    g_L_text := gl 44 "_law_text" rfl
    g_L_value := gl 45 "_law_value" rfl
    g_L_is_number := gl 46 "_law_is_number" rfl
    g_L_is_value := gl 47 "_law_is_value" rfl
    g_L_ahead := gl 48 "_law_ahead" rfl
    g_L_single := gl 49 "_law_single" rfl
    g_L_near := gl 50 "_law_near" rfl
    g_L_is_full := gl 51 "_law_is_full" rfl
    g_L_good := gl 52 "_law_good" rfl
    g_L_spoilt := gl 53 "_law_spoilt" rfl
    g_L_law := gl 54 "law" rfl
    g_PadError := gl 55 "PadError" rfl
    g_NoFigures := gl 56 "NoFigures" rfl
    g_NoGroups := gl 57 "NoGroups" rfl
    g_NoBody := gl 58 "NoBody" rfl
    g_NoNumber := gl 59 "NoNumber" rfl
    g_NoText := gl 60 "NoText" rfl
    g_TwoValues := gl 61 "TwoValues" rfl
    g_Form := gl 62 "Form" rfl
    g_NumberForm := gl 63 "NumberForm" rfl
    g_WordForm := gl 64 "WordForm" rfl
    g_ChoiceForm := gl 65 "ChoiceForm" rfl
    g_ABOVE := gl 66 "ABOVE" rfl
    g_BELOW := gl 67 "BELOW" rfl
    b_len := fr 68 "len" rfl
    b_abs := fr 69 "abs" rfl
    b_max := fr 70 "max" rfl
    b_min := fr 71 "min" rfl
    b_isinstance := fr 72 "isinstance" rfl
    b_sorted := fr 73 "sorted" rfl
    b_range := fr 74 "range" rfl
    b_list := fr 75 "list" rfl
    b_zip := fr 76 "zip" rfl
    b_str := fr 77 "str" rfl
    b_int := fr 78 "int" rfl
    b_bool := fr 79 "bool" rfl
    b_tuple := fr 80 "tuple" rfl
    b_ValueError := fr 81 "ValueError" rfl
    c_FIGURES := He.str_ok X G (cD.fact 82 (f := .str "FIGURES" (S figs16)) rfl)
    c_MOST_FIGURES := He.int_ok X G (cD.fact 83 (f := .int "MOST_FIGURES" 240) rfl)
    c_MOST_SIGNS := He.int_ok X G (cD.fact 84 (f := .int "MOST_SIGNS" 40) rfl)
    cl_NumberForm := He.cls_ok (cD.fact 85 (f := .cls "NumberForm") rfl)
    na_NumberForm_width := He.noat_ok (cD.fact 86 (f := .noat "NumberForm" "width") rfl)
    na_NumberForm_fill := He.noat_ok (cD.fact 87 (f := .noat "NumberForm" "fill") rfl)
    na_NumberForm_side := He.noat_ok (cD.fact 88 (f := .noat "NumberForm" "side") rfl)
    na_NumberForm_strict := He.noat_ok (cD.fact 89 (f := .noat "NumberForm" "strict") rfl)
    na_NumberForm_figures := He.noat_ok (cD.fact 90 (f := .noat "NumberForm" "figures") rfl)
    na_NumberForm_places := He.noat_ok (cD.fact 91 (f := .noat "NumberForm" "places") rfl)
    na_NumberForm_base := He.noat_ok (cD.fact 92 (f := .noat "NumberForm" "base") rfl)
    na_NumberForm_sign := He.noat_ok (cD.fact 93 (f := .noat "NumberForm" "sign") rfl)
    na_NumberForm_size := He.noat_ok (cD.fact 94 (f := .noat "NumberForm" "size") rfl)
    na_NumberForm_mark := He.noat_ok (cD.fact 95 (f := .noat "NumberForm" "mark") rfl)
    na_NumberForm_point := He.noat_ok (cD.fact 96 (f := .noat "NumberForm" "point") rfl)
    na_NumberForm_way := He.noat_ok (cD.fact 97 (f := .noat "NumberForm" "way") rfl)
    mt_NumberForm_rests_in := He.meth_ok (cD.fact 98 (f := .meth "NumberForm" "rests_in") rfl)
    mt_NumberForm_steps_in := He.meth_ok (cD.fact 99 (f := .meth "NumberForm" "steps_in") rfl)
    mt_NumberForm_all_steps := He.meth_ok (cD.fact 100 (f := .meth "NumberForm" "all_steps") rfl)
    mt_NumberForm_values_for := He.meth_ok (cD.fact 101 (f := .meth "NumberForm" "values_for") rfl)
    mt_NumberForm_value_of := He.meth_ok (cD.fact 102 (f := .meth "NumberForm" "value_of") rfl)
    mk_NumberForm := He.mkr_ok (cD.fact 103 (f := .mkr "NumberForm") rfl)
    cl_WordForm := He.cls_ok (cD.fact 104 (f := .cls "WordForm") rfl)
    na_WordForm_width := He.noat_ok (cD.fact 105 (f := .noat "WordForm" "width") rfl)
    na_WordForm_fill := He.noat_ok (cD.fact 106 (f := .noat "WordForm" "fill") rfl)
    na_WordForm_side := He.noat_ok (cD.fact 107 (f := .noat "WordForm" "side") rfl)
    na_WordForm_strict := He.noat_ok (cD.fact 108 (f := .noat "WordForm" "strict") rfl)
    na_WordForm_signs := He.noat_ok (cD.fact 109 (f := .noat "WordForm" "signs") rfl)
    na_WordForm_least := He.noat_ok (cD.fact 110 (f := .noat "WordForm" "least") rfl)
    na_WordForm_most := He.noat_ok (cD.fact 111 (f := .noat "WordForm" "most") rfl)
    mt_WordForm_is_word := He.meth_ok (cD.fact 112 (f := .meth "WordForm" "is_word") rfl)
    mt_WordForm_values_for := He.meth_ok (cD.fact 113 (f := .meth "WordForm" "values_for") rfl)
    mt_WordForm_value_of := He.meth_ok (cD.fact 114 (f := .meth "WordForm" "value_of") rfl)
    mk_WordForm := He.mkr_ok (cD.fact 115 (f := .mkr "WordForm") rfl)
    cl_ChoiceForm := He.cls_ok (cD.fact 116 (f := .cls "ChoiceForm") rfl)
    na_ChoiceForm_width := He.noat_ok (cD.fact 117 (f := .noat "ChoiceForm" "width") rfl)
    na_ChoiceForm_fill := He.noat_ok (cD.fact 118 (f := .noat "ChoiceForm" "fill") rfl)
    na_ChoiceForm_side := He.noat_ok (cD.fact 119 (f := .noat "ChoiceForm" "side") rfl)
    na_ChoiceForm_strict := He.noat_ok (cD.fact 120 (f := .noat "ChoiceForm" "strict") rfl)
    na_ChoiceForm_names := He.noat_ok (cD.fact 121 (f := .noat "ChoiceForm" "names") rfl)
    mt_ChoiceForm_values_for := He.meth_ok (cD.fact 122 (f := .meth "ChoiceForm" "values_for") rfl)
    mt_ChoiceForm_value_of := He.meth_ok (cD.fact 123 (f := .meth "ChoiceForm" "value_of") rfl)
    mk_ChoiceForm := He.mkr_ok (cD.fact 124 (f := .mkr "ChoiceForm") rfl)
    e_NoFigures := He.exc_ok (cD.fact 125 (f := .exc "NoFigures") rfl)
    e_NoGroups := He.exc_ok (cD.fact 126 (f := .exc "NoGroups") rfl)
    e_NoBody := He.exc_ok (cD.fact 127 (f := .exc "NoBody") rfl)
    e_NoText := He.exc_ok (cD.fact 128 (f := .exc "NoText") rfl)
    x_NoGroups_NoGroups := He.exm_ok (cD.fact 129 (f := .exm "NoGroups" "NoGroups" true) rfl)
    x_NoFigures_NoFigures := He.exm_ok (cD.fact 130 (f := .exm "NoFigures" "NoFigures" true) rfl)
    x_NoBody_NoBody := He.exm_ok (cD.fact 131 (f := .exm "NoBody" "NoBody" true) rfl)
    x_NoText_NoText := He.exm_ok (cD.fact 132 (f := .exm "NoText" "NoText" true) rfl)
    x_TwoValues_NoText := He.exm_ok (cD.fact 133 (f := .exm "TwoValues" "NoText" false) rfl)
    x_TwoValues_TwoValues := He.exm_ok (cD.fact 134 (f := .exm "TwoValues" "TwoValues" true) rfl)
    x_TwoValues := xfB_ok x1
    xn_told := He.noat_ok (cD.fact 135 (f := .noat "TwoValues" "told") rfl)
    o_TwoValues := oexB_ok x2
    oi_TwoValues := ⟨He.eqO_ok x3, of_decide_eq_true x4⟩
    ci_PadError := clsB_ok x5
    ci_Form := clsB_ok x6
    a_ABOVE := tabB_ok x7 (cT.tab 0 (t := ((fun K => He.ga K "ABOVE"), tabK)) rfl)
    a_BELOW := tabB_ok x8 (cT.tab 1 (t := ((fun K => He.ga K "BELOW"), tabK)) rfl) }
end
end K45
set_option maxHeartbeats 0
/-! the head: what the top leaves, by names; the addresses looked at are picked by name -/
namespace K45
open PySem PySem.Spec PyProof.Rows L2 F
theorem runF (w : World) : HandSHeadRun.RunEq Rw (PySem.W.view Rw.prog [95]) hkS obS 7000 lnm (w.withFollow "special-get-raises" false) := by
  intro os
  kernel_rfl

end K45
set_option maxHeartbeats 0
/-! the head: what the top leaves, by names; the addresses looked at are picked by name -/
namespace K45
open PySem PySem.Spec PyProof.Rows L2 F
theorem runT (w : World) : HandSHeadRun.RunEq Rw (PySem.W.view Rw.prog [95]) hkS obS 7000 lnm (w.withFollow "special-get-raises" true) := by
  intro os
  kernel_rfl
theorem runA (w : World) : HandSHeadRun.RunEq Rw (PySem.W.view Rw.prog [95]) hkS obS 7000 lnm w :=
  PySem.W.byRow2 "special-get-raises" (P := fun w => HandSHeadRun.RunEq Rw (PySem.W.view Rw.prog [95]) hkS obS 7000 lnm w) runF runT w

end K45
set_option maxHeartbeats 4000000
/-! grouping; figures' worth -/
namespace K45
open F K45
/-- how many marks stand in so many signs -/
def marksN (n z : Nat) : Nat := if z = 0 then 0 else (n - 1) / z
/-- grouped by z from behind, m between -/
def grp (z m : Nat) : List Nat → List Nat
  | [] => []
  | x :: r => x :: (if 0 < z ∧ r ≠ [] ∧ r.length % z = 0 then m :: grp z m r else grp z m r)
theorem marks_succ {n z : Nat} (hz : 0 < z) (hn : 1 ≤ n) : marksN (n + 1) z = marksN n z + if n % z = 0 then 1 else 0 := by
  unfold marksN
  rw [if_neg (by omega), if_neg (by omega)]
  obtain ⟨k, rfl⟩ : ∃ k, n = k + 1 := ⟨n - 1, by omega⟩
  show (k + 1) / z = k / z + _
  exact Nat.succ_div.trans (by
    by_cases h : z ∣ k + 1
    · rw [if_pos h, if_pos (Nat.mod_eq_zero_of_dvd h)]
    · rw [if_neg h, if_neg (fun e => h (Nat.dvd_of_mod_eq_zero e))])
theorem grp_len (z m : Nat) : ∀ l : List Nat, l ≠ [] → (grp z m l).length = l.length + marksN l.length z
  | [], h => absurd rfl h
  | [x], _ => by
    unfold grp marksN
    simp [grp]
  | x :: y :: r, _ => by
    have ih := grp_len z m (y :: r) (by simp)
    show (x :: (if 0 < z ∧ (y :: r) ≠ [] ∧ (y :: r).length % z = 0 then m :: grp z m (y :: r) else grp z m (y :: r))).length = (y :: r).length + 1 + marksN ((y :: r).length + 1) z
    by_cases hz : 0 < z
    · rw [marks_succ hz (by simp)]
      by_cases h : (y :: r).length % z = 0
      · rw [if_pos ⟨hz, by simp, h⟩, if_pos h, List.length_cons, List.length_cons, ih]
        omega
      · rw [if_neg (fun q => h q.2.2), if_neg h, List.length_cons, ih]
        omega
    · have h0 : z = 0 := by omega
      subst h0
      rw [if_neg (fun q => hz q.1), List.length_cons, ih]
      unfold marksN
      simp
theorem grp_app {z m : Nat} (hz : 0 < z) : ∀ (f g : List Nat), f ≠ [] → g ≠ [] → g.length % z = 0 → grp z m (f ++ g) = grp z m f ++ m :: grp z m g
  | [], _, h, _, _ => absurd rfl h
  | [x], g, _, hg, hl => by
    have e1 : grp z m [x] = [x] := by simp [grp]
    rw [e1]
    show x :: (if 0 < z ∧ g ≠ [] ∧ g.length % z = 0 then m :: grp z m g else grp z m g) = x :: m :: grp z m g
    rw [if_pos ⟨hz, hg, hl⟩]
  | x :: y :: r, g, _, hg, hl => by
    have ih := grp_app (m := m) hz (y :: r) g (by simp) hg hl
    have e : ((y :: r) ++ g).length % z = (y :: r).length % z := by
      rw [List.length_append, Nat.add_mod, hl, Nat.add_zero, Nat.mod_mod]
    show x :: (if 0 < z ∧ (y :: r) ++ g ≠ [] ∧ ((y :: r) ++ g).length % z = 0 then m :: grp z m ((y :: r) ++ g) else grp z m ((y :: r) ++ g)) = x :: (if 0 < z ∧ (y :: r) ≠ [] ∧ (y :: r).length % z = 0 then m :: grp z m (y :: r) else grp z m (y :: r)) ++ m :: grp z m g
    rw [e, ih]
    by_cases h : (y :: r).length % z = 0
    · rw [if_pos ⟨hz, by simp, h⟩, if_pos ⟨hz, by simp, h⟩]
      rfl
    · rw [if_neg (fun q => h q.2.2), if_neg (fun q => h q.2.2)]
      rfl
theorem grp_small {z m : Nat} : ∀ (g : List Nat), (z = 0 ∨ g.length ≤ z) → grp z m g = g
  | [], _ => rfl
  | x :: r, h => by
    show x :: (if 0 < z ∧ r ≠ [] ∧ r.length % z = 0 then m :: grp z m r else grp z m r) = x :: r
    have h2 : z = 0 ∨ r.length ≤ z := by
      rcases h with h | h
      · exact .inl h
      · rw [List.length_cons] at h
        exact .inr (by omega)
    rw [if_neg, grp_small r h2]
    rintro ⟨a, b, c⟩
    have hp : 0 < r.length := List.length_pos_iff.mpr b
    rcases h with h | h
    · omega
    · rw [List.length_cons] at h
      rw [Nat.mod_eq_of_lt (by omega)] at c
      omega
theorem marks_mono {a b z : Nat} (h : a ≤ b) : marksN a z ≤ marksN b z := by
  unfold marksN
  split
  · exact Nat.le_refl _
  · exact Nat.div_le_div_right (by omega)
theorem marks_inj {a b z : Nat} (h : a + marksN a z = b + marksN b z) : a = b := by
  rcases Nat.lt_trichotomy a b with c | c | c
  · have := marks_mono (z := z) (Nat.le_of_lt c)
    omega
  · exact c
  · have := marks_mono (z := z) (Nat.le_of_lt c)
    omega
theorem marks_at {f z k : Nat} (h1 : 1 ≤ f) (h2 : f ≤ z) : marksN (f + z * k) z = k := by
  unfold marksN
  rw [if_neg (by omega), show f + z * k - 1 = (f - 1) + z * k by omega, Nat.add_mul_div_left _ _ (by omega), Nat.div_eq_of_lt (by omega), Nat.zero_add]
theorem grp_inj {z m : Nat} {l l' : List Nat} (h1 : 1 ≤ l.length) (h2 : 1 ≤ l'.length) (e : grp z m l = grp z m l') : l = l' := by
  have n1 := grp_len z m l (List.length_pos_iff.mp h1)
  have n2 := grp_len z m l' (List.length_pos_iff.mp h2)
  rw [e] at n1
  have hl : l.length = l'.length := marks_inj (z := z) (by omega)
  clear n1 n2 h1 h2
  induction l generalizing l' with
  | nil =>
    cases l' with
    | nil => rfl
    | cons y s => simp at hl
  | cons x r ih =>
    cases l' with
    | nil => simp at hl
    | cons y s =>
      have e' : x :: (if 0 < z ∧ r ≠ [] ∧ r.length % z = 0 then m :: grp z m r else grp z m r) = y :: (if 0 < z ∧ s ≠ [] ∧ s.length % z = 0 then m :: grp z m s else grp z m s) := e
      injection e' with e1 e2
      have hl2 : r.length = s.length := by simpa using hl
      have hc : (0 < z ∧ r ≠ [] ∧ r.length % z = 0) ↔ (0 < z ∧ s ≠ [] ∧ s.length % z = 0) := by
        rw [hl2]
        have : r ≠ [] ↔ s ≠ [] := by
          rw [← List.length_pos_iff, ← List.length_pos_iff, hl2]
        rw [this]
      rw [e1]
      congr 1
      by_cases c : 0 < z ∧ r ≠ [] ∧ r.length % z = 0
      · rw [if_pos c, if_pos (hc.mp c)] at e2
        injection e2 with _ e3
        exact ih e3 hl2
      · rw [if_neg c, if_neg (fun q => c (hc.mpr q))] at e2
        exact ih e2 hl2
/-- the figures' worth -/
def valN (b : Nat) (l : List Nat) : Nat := l.foldl (fun n c => n * b + figs16.idxOf c) 0
def isFig (b c : Nat) : Prop := c ∈ figs16.take b
instance {b c : Nat} : Decidable (isFig b c) := by unfold isFig; infer_instance
theorem figs16_nd : figs16.Nodup := by decide
theorem idx_take {b c : Nat} (h : isFig b c) : (figs16.take b).idxOf c = figs16.idxOf c ∧ figs16.idxOf c < b := by
  have e : figs16.idxOf c = (figs16.take b).idxOf c := by
    have h2 : figs16 = figs16.take b ++ figs16.drop b := (List.take_append_drop b figs16).symm
    have h3 : (figs16.take b ++ figs16.drop b).idxOf c = (figs16.take b).idxOf c := by
      rw [List.idxOf_append, if_pos (show c ∈ figs16.take b from h)]
    rw [← h2] at h3
    exact h3
  refine ⟨e.symm, ?_⟩
  rw [e]
  have := List.idxOf_lt_length_of_mem (show c ∈ figs16.take b from h)
  rw [List.length_take] at this
  omega
theorem fnd_fig {b c : Nat} (h : isFig b c) : fnd c (figs16.take b) = (figs16.idxOf c : Nat) := by
  unfold fnd
  rw [if_pos (show c ∈ figs16.take b from h), (idx_take h).1]
theorem fnd_no {b c : Nat} (h : ¬ isFig b c) : fnd c (figs16.take b) = -1 := if_neg h
theorem val_snoc (b : Nat) (l : List Nat) (c : Nat) : valN b (l ++ [c]) = valN b l * b + figs16.idxOf c := by
  unfold valN
  rw [List.foldl_append]
  rfl
theorem val_lt {b : Nat} : ∀ (n : Nat) (l : List Nat), l.length = n → (∀ c ∈ l, isFig b c) → valN b l < b ^ l.length
  | 0, l, hl, _ => by
    obtain rfl := List.length_eq_zero_iff.mp hl
    show 0 < b ^ 0
    rw [Nat.pow_zero]
    decide
  | n + 1, l, hl, h => by
    have hne : l ≠ [] := by
      intro z
      subst z
      simp at hl
    obtain ⟨r, c, rfl⟩ : ∃ r c, l = r ++ [c] := ⟨l.dropLast, l.getLast hne, (List.dropLast_concat_getLast hne).symm⟩
    rw [List.length_append] at hl
    have ih := val_lt n r (by simpa using hl) fun x hx => h x (List.mem_append_left _ hx)
    have hc := (idx_take (h c (by simp))).2
    rw [val_snoc, List.length_append]
    show _ < b ^ (r.length + 1)
    rw [Nat.pow_succ]
    have : (valN b r + 1) * b ≤ b ^ r.length * b := Nat.mul_le_mul_right _ ih
    rw [Nat.add_mul] at this
    omega
end K45
/-! figures and their worth, bodies -/
namespace K45
open F K45
/-- a whole part's figures -/
structure IsW (b : Nat) (l : List Nat) : Prop where
  l1 : 1 ≤ l.length
  l2 : l.length ≤ 40
  fg : ∀ c ∈ l, isFig b c
  ld : l.head? = some 48 → l.length = 1
/-- the body of k steps -/
def IsBody (b z m pt pl : Nat) (t : List Nat) (k : Nat) : Prop :=
  (pl = 0 ∧ ∃ l, IsW b l ∧ grp z m l = t ∧ k = valN b l) ∨
  (0 < pl ∧ ∃ l d, IsW b l ∧ d.length = pl ∧ (∀ c ∈ d, isFig b c) ∧ grp z m l ++ pt :: d = t ∧ k = valN b l * b ^ pl + valN b d)

theorem snocX {l : List Nat} (h : l ≠ []) : ∃ r c, l = r ++ [c] := ⟨l.dropLast, l.getLast h, (List.dropLast_concat_getLast h).symm⟩
theorem idx_dig {d : Nat} (h : d < 16) : figs16.idxOf (dig d) = d := by
  have : ∀ d : Fin 16, figs16.idxOf (dig d.val) = d.val := by decide
  exact this ⟨d, h⟩
theorem dig_fig {b d : Nat} (h : d < b) (hb : b ≤ 16) : isFig b (dig d) := by
  have h2 : d < figs16.length := by show d < 16; omega
  have e : dig d = figs16[d] := by
    unfold dig
    rw [List.getD_eq_getElem?_getD, List.getElem?_eq_getElem h2]
    rfl
  rw [e]
  show figs16[d] ∈ figs16.take b
  rw [List.mem_take_iff_getElem]
  exact ⟨d, by omega, rfl⟩
theorem dig_idx {b c : Nat} (h : isFig b c) : dig (figs16.idxOf c) = c := by
  have hm : c ∈ figs16 := List.mem_of_mem_take h
  have h1 := List.idxOf_lt_length_of_mem hm
  unfold dig
  rw [List.getD_eq_getElem?_getD, List.getElem?_eq_getElem h1, List.getElem_idxOf h1]
  rfl
theorem dig_zero : dig 0 = 48 := rfl
structure Canon (b : Nat) (l : List Nat) : Prop where
  ne : l ≠ []
  fg : ∀ c ∈ l, isFig b c
  ld : l.head? = some 48 → l.length = 1
theorem val_pos {b : Nat} (hb : 2 ≤ b) : ∀ (n : Nat) (l : List Nat), l.length = n → l ≠ [] → (∀ c ∈ l, isFig b c) → l.head? ≠ some 48 → 1 ≤ valN b l
  | 0, l, hl, hne, _, _ => absurd (List.length_eq_zero_iff.mp hl) hne
  | n + 1, l, hl, hne, hf, hh => by
    obtain ⟨r, c, rfl⟩ := snocX hne
    rw [val_snoc]
    by_cases hr : r = []
    · subst hr
      have hc : c ≠ 48 := fun e => hh (by rw [e]; rfl)
      have : figs16.idxOf c ≠ 0 := fun e => hc (by rw [← dig_idx (hf c (by simp)), e, dig_zero])
      omega
    · have hl' : r.length = n := by simpa using hl
      have ih := val_pos hb n r hl' hr (fun x hx => hf x (List.mem_append_left _ hx)) (fun e => hh (by rw [List.head?_append, e]; rfl))
      have : 1 * b ≤ valN b r * b := Nat.mul_le_mul_right _ ih
      omega
theorem canon_eq {b : Nat} (hb : 2 ≤ b) (hb2 : b ≤ 16) : ∀ (n : Nat) (l : List Nat), l.length = n → Canon b l → l = figs b (valN b l)
  | 0, l, hl, h => absurd (List.length_eq_zero_iff.mp hl) h.ne
  | n + 1, l, hl, h => by
    obtain ⟨r, c, rfl⟩ := snocX h.ne
    have hc := idx_take (h.fg c (by simp))
    have hd := dig_idx (h.fg c (by simp))
    rw [val_snoc]
    by_cases hr : r = []
    · subst hr
      have e : valN b [] * b + figs16.idxOf c = figs16.idxOf c := by
        show 0 * b + _ = _
        omega
      rw [e, figs_lt hc.2, hd]
      rfl
    · have hl' : r.length = n := by simpa using hl
      have hf : ∀ x ∈ r, isFig b x := fun x hx => h.fg x (List.mem_append_left _ hx)
      have hp : 0 < r.length := List.length_pos_iff.mpr hr
      have hh : r.head? ≠ some 48 := fun e => by
        have := h.ld (by rw [List.head?_append, e]; rfl)
        rw [List.length_append] at this
        simp at this
        exact hr this
      have h1 := val_pos hb _ r rfl hr hf hh
      have ih := canon_eq hb hb2 n r hl' ⟨hr, hf, fun e => absurd e hh⟩
      have h2 : 1 * b ≤ valN b r * b := Nat.mul_le_mul_right _ h1
      have e1 : (valN b r * b + figs16.idxOf c) / b = valN b r := by
        rw [Nat.mul_comm, Nat.mul_add_div (by omega), Nat.div_eq_of_lt hc.2, Nat.add_zero]
      have e2 : (valN b r * b + figs16.idxOf c) % b = figs16.idxOf c := by
        rw [Nat.mul_comm, Nat.mul_add_mod, Nat.mod_eq_of_lt hc.2]
      rw [figs_ge hb (by omega), e1, e2, hd, ← ih]
theorem figs_val {b : Nat} (hb : 2 ≤ b) (hb2 : b ≤ 16) (n : Nat) : valN b (figs b n) = n ∧ Canon b (figs b n) := by
  induction n using Nat.strongRecOn with
  | _ n ih =>
    by_cases c : n < b
    · rw [figs_lt c]
      refine ⟨?_, by simp, fun x hx => ?_, fun _ => rfl⟩
      · show 0 * b + figs16.idxOf (dig n) = n
        rw [idx_dig (by omega)]
        omega
      · rw [List.mem_singleton.mp hx]
        exact dig_fig c hb2
    · have hm : n % b < b := Nat.mod_lt _ (by omega)
      obtain ⟨i1, i2⟩ := ih (n / b) (Nat.div_lt_self (by omega) (by omega))
      rw [figs_ge hb (by omega), val_snoc, i1, idx_dig (by omega)]
      refine ⟨by rw [Nat.mul_comm]; exact Nat.div_add_mod n b, by simp, fun x hx => ?_, fun e => ?_⟩
      · rcases List.mem_append.mp hx with hx | hx
        · exact i2.fg x hx
        · rw [List.mem_singleton.mp hx]
          exact dig_fig hm hb2
      · obtain ⟨y, s, hy⟩ : ∃ y s, figs b (n / b) = y :: s := by
          cases hq : figs b (n / b) with
          | nil => exact absurd hq i2.ne
          | cons y s => exact ⟨y, s, rfl⟩
        have e' : (figs b (n / b)).head? = some 48 := by
          rw [hy] at e ⊢
          exact e
        have h1 := i2.ld e'
        have hs : s = [] := by
          rw [hy] at h1
          simp at h1
          exact h1
        rw [hy, hs] at e'
        have hy2 : y = 48 := by simpa using e'
        have hv : valN b (figs b (n / b)) = 0 := by
          rw [hy, hs, hy2]
          show 0 * b + figs16.idxOf 48 = 0
          rw [Nat.zero_mul]
          rfl
        rw [i1] at hv
        have := Nat.div_pos (show b ≤ n by omega) (show 0 < b by omega)
        omega
theorem val_inj {b : Nat} : ∀ (n : Nat) (l l' : List Nat), l.length = n → l'.length = n → (∀ c ∈ l, isFig b c) → (∀ c ∈ l', isFig b c) → valN b l = valN b l' → l = l'
  | 0, l, l', h1, h2, _, _, _ => by rw [List.length_eq_zero_iff.mp h1, List.length_eq_zero_iff.mp h2]
  | n + 1, l, l', h1, h2, f1, f2, e => by
    obtain ⟨r, c, rfl⟩ := snocX (l := l) (by intro z; subst z; simp at h1)
    obtain ⟨r', c', rfl⟩ := snocX (l := l') (by intro z; subst z; simp at h2)
    rw [val_snoc, val_snoc] at e
    have hc := idx_take (f1 c (by simp))
    have hc' := idx_take (f2 c' (by simp))
    have em : (valN b r * b + figs16.idxOf c) % b = (valN b r' * b + figs16.idxOf c') % b := congrArg (· % b) e
    have ed : (valN b r * b + figs16.idxOf c) / b = (valN b r' * b + figs16.idxOf c') / b := congrArg (· / b) e
    rw [Nat.mul_comm, Nat.mul_add_mod, Nat.mod_eq_of_lt hc.2, Nat.mul_comm, Nat.mul_add_mod, Nat.mod_eq_of_lt hc'.2] at em
    rw [Nat.mul_comm, Nat.mul_add_div (by omega), Nat.div_eq_of_lt hc.2, Nat.add_zero, Nat.mul_comm, Nat.mul_add_div (by omega), Nat.div_eq_of_lt hc'.2, Nat.add_zero] at ed
    have := val_inj n r r' (by simpa using h1) (by simpa using h2) (fun x hx => f1 x (List.mem_append_left _ hx)) (fun x hx => f2 x (List.mem_append_left _ hx)) ed
    rw [this, ← dig_idx (f1 c (by simp)), ← dig_idx (f2 c' (by simp)), em]
theorem val_zeros (b j : Nat) (r : List Nat) : valN b (List.replicate j 48 ++ r) = valN b r := by
  unfold valN
  rw [List.foldl_append]
  congr 1
  induction j with
  | zero => rfl
  | succ j ih =>
    rw [List.replicate_succ', List.foldl_append, ih]
    show 0 * b + figs16.idxOf 48 = 0
    rw [Nat.zero_mul]
    rfl
/-- so many figures, noughts ahead -/
def fixF (b pl n : Nat) : List Nat := List.replicate (pl - (figs b n).length) 48 ++ figs b n
theorem fixF_ok {b pl n : Nat} (hb : 2 ≤ b) (hb2 : b ≤ 16) (hp : 1 ≤ pl) (h : n < b ^ pl) : (fixF b pl n).length = pl ∧ (∀ c ∈ fixF b pl n, isFig b c) ∧ valN b (fixF b pl n) = n := by
  have hl := figs_len hb hp h
  have hv := figs_val hb hb2 n
  unfold fixF
  refine ⟨?_, fun c hc => ?_, ?_⟩
  · rw [List.length_append, List.length_replicate]
    omega
  · rcases List.mem_append.mp hc with hc | hc
    · rw [(List.mem_replicate.mp hc).2]
      exact dig_fig (d := 0) (by omega) hb2
    · exact hv.2.fg c hc
  · rw [val_zeros]
    exact hv.1
def bodyOf (b z m pt pl k : Nat) : List Nat := if pl = 0 then grp z m (figs b k) else grp z m (figs b (k / b ^ pl)) ++ pt :: fixF b pl (k % b ^ pl)
theorem IsW.canon {b : Nat} {l : List Nat} (w : IsW b l) : Canon b l := ⟨List.length_pos_iff.mp w.l1, w.fg, w.ld⟩
theorem body_of {b z m pt pl k : Nat} {t : List Nat} (hb : 2 ≤ b) (hb2 : b ≤ 16) (h : IsBody b z m pt pl t k) : t = bodyOf b z m pt pl k := by
  rcases h with ⟨h0, l, w, e, hk⟩ | ⟨h0, l, d, w, hd, hf, e, hk⟩
  · unfold bodyOf
    rw [if_pos h0, hk, ← canon_eq hb hb2 _ l rfl w.canon, e]
  · unfold bodyOf
    have hv := val_lt _ d rfl hf
    rw [hd] at hv
    have e1 : k / b ^ pl = valN b l := by
      rw [hk, Nat.mul_comm, Nat.mul_add_div (by omega), Nat.div_eq_of_lt hv, Nat.add_zero]
    have e2 : k % b ^ pl = valN b d := by
      rw [hk, Nat.mul_comm, Nat.mul_add_mod, Nat.mod_eq_of_lt hv]
    rw [if_neg (by omega), e1, e2, ← canon_eq hb hb2 _ l rfl w.canon, ← e]
    obtain ⟨x1, x2, x3⟩ := fixF_ok hb hb2 (show 1 ≤ pl by omega) hv
    have ed := val_inj pl d _ hd x1 hf x2 x3.symm
    rw [← ed]
theorem isB_fun {b z m pt pl k k' : Nat} {t : List Nat} (hb : 2 ≤ b) (hb2 : b ≤ 16) (h : IsBody b z m pt pl t k) (h' : IsBody b z m pt pl t k') : k = k' := by
  rcases h with ⟨h0, l, w, e, hk⟩ | ⟨h0, l, d, w, hd, hf, e, hk⟩
  · rcases h' with ⟨_, l', w', e', hk'⟩ | ⟨h0', _⟩
    · rw [hk, hk', grp_inj w.l1 w'.l1 (e.trans e'.symm)]
    · omega
  · rcases h' with ⟨h0', _⟩ | ⟨_, l', d', w', hd', hf', e', hk'⟩
    · omega
    · have e2 := e.trans e'.symm
      have hl := congrArg List.length e2
      rw [List.length_append, List.length_append, List.length_cons, List.length_cons, hd, hd'] at hl
      have e3 := List.append_inj e2 (by omega)
      have e4 : d = d' := by injection e3.2
      rw [hk, hk', grp_inj w.l1 w'.l1 e3.1, e4]
theorem of_body {b z m pt pl k f : Nat} (hb : 2 ≤ b) (hb2 : b ≤ 16) (hf1 : 1 ≤ f) (hf : f ≤ 40) (h : k < b ^ (f + pl)) : IsBody b z m pt pl (bodyOf b z m pt pl k) k := by
  unfold bodyOf
  have W : ∀ n, n < b ^ f → IsW b (figs b n) := fun n hn => by
    have hv := figs_val hb hb2 n
    exact ⟨List.length_pos_iff.mpr hv.2.ne, Nat.le_trans (figs_len hb hf1 hn) hf, hv.2.fg, hv.2.ld⟩
  by_cases h0 : pl = 0
  · rw [if_pos h0]
    subst h0
    exact .inl ⟨rfl, figs b k, W k h, rfl, (figs_val hb hb2 k).1.symm⟩
  · rw [if_neg h0]
    have hp : 0 < b ^ pl := Nat.pow_pos (by omega)
    have h1 : k / b ^ pl < b ^ f := Nat.div_lt_of_lt_mul (by rw [← Nat.pow_add, Nat.add_comm]; exact h)
    have h2 : k % b ^ pl < b ^ pl := Nat.mod_lt _ hp
    obtain ⟨x1, x2, x3⟩ := fixF_ok hb hb2 (show 1 ≤ pl by omega) h2
    refine .inr ⟨by omega, figs b (k / b ^ pl), _, W _ h1, x1, x2, rfl, ?_⟩
    rw [x3, (figs_val hb hb2 _).1, Nat.mul_comm]
    exact (Nat.div_add_mod k (b ^ pl)).symm
end K45
namespace K45
open PySem PySem.Spec PyProof.Rows L2 F
section
variable {P : Program} {w : World} {K : PySem.W.Frag} {mg : Str → Option Value} {base : Heap}
/-! ### _law_pick -/
def pick (c s m : Int) : Int :=
  if 10 ^ 18 < c ∧ 0 < c / 2 ^ (20 * s).toNat then c / 2 ^ (20 * s).toNat % 1048576 % m
  else
    let o := (c % 1000000007 + 314159265 + 104729 * s) % 998244353
    let o2 := o * o % 998244353
    let t := (o2 + 271828183) * (o2 / 1024 + 48271 + s) % 2147483629
    t / 128 % m
theorem pick_lt (c s : Int) {m : Int} (h : 0 < m) : 0 ≤ pick c s m ∧ pick c s m < m := by
  unfold pick
  split
  · exact ⟨Int.emod_nonneg _ (by omega), Int.emod_lt_of_pos _ h⟩
  · exact ⟨Int.emod_nonneg _ (by omega), Int.emod_lt_of_pos _ h⟩
theorem pick_no {c s m : Int} (a : ¬ (10 ^ 18 < c ∧ 0 < c / 2 ^ (20 * s).toNat)) : pick c s m =
    (((c % 1000000007 + 314159265 + 104729 * s) % 998244353 * ((c % 1000000007 + 314159265 + 104729 * s) % 998244353) % 998244353 + 271828183) *
      ((c % 1000000007 + 314159265 + 104729 * s) % 998244353 * ((c % 1000000007 + 314159265 + 104729 * s) % 998244353) % 998244353 / 1024 + 48271 + s) % 2147483629) / 128 % m := by
  unfold pick
  rw [if_neg a]
def sp_L_pick : Sp := fun vs H Q _ => ∃ c s m : Int, vs = [.int c, .int s, .int m] ∧ 0 ≤ s ∧ s ≤ 100000 ∧ 0 < m ∧ Q (.int (pick c s m)) H
def t_L_pick (P : Program) (w : World) (K : PySem.W.Frag) (mg : Str → Option Value) (base : Heap) : TS := tSeq (tIfS (tAnd (tB1 (tOp (rCmp fun i j => decide (j < i)) (tV 0) (tOp qPow (tC (.int 10)) (tC (.int 18))))) (tB1 (tOp (rCmp fun i j => decide (j < i)) (tOp qShr (tV 0) (tOp qMul (tC (.int 20)) (tV 1))) (tC (.int 0))))) (tRet (tOp qMod (tOp qMod (tOp qShr (tV 0) (tOp qMul (tC (.int 20)) (tV 1))) (tC (.int 1048576))) (tV 2))) (tNext)) (tSeq (tSetK 3 (tOp qMod (tOp qAdd (tOp qAdd (tOp qMod (tV 0) (tC (.int 1000000007))) (tC (.int 314159265))) (tOp qMul (tC (.int 104729)) (tV 1))) (tC (.int 998244353)))) (tSeq (tSetK 3 (tOp qMod (tOp qMul (tV 3) (tV 3)) (tC (.int 998244353)))) (tSeq (tSetK 4 (tOp qMod (tOp qMul (tOp qAdd (tV 3) (tC (.int 271828183))) (tOp qAdd (tOp qAdd (tOp qDiv (tV 3) (tC (.int 1024))) (tC (.int 48271))) (tV 1))) (tC (.int 2147483629)))) (tRet (tOp qMod (tOp qDiv (tV 4) (tC (.int 128))) (tV 2))))))
theorem der_L_pick {P : Program} {w : World} {K : PySem.W.Frag} {mg : Str → Option Value} {base : Heap} (T : TX w K mg) {f : Addr} {cdv : Value} {A : Around} {outer : List Env} {s : Shared} {H : Hp} {E : XK} (hr : Room 0 (A.deeper (envOfC "_law_pick" (defScope s_L_pick) s.heap.objs.size f cdv))) :
    PSs (cxOf CX0 P w K mg base N_L_pick "_law_pick" (defScope s_L_pick) f cdv A outer s H E).nox (defBody s_L_pick) (t_L_pick P w K mg base) :=
  pss_cons (ps_if (PW.pt (pw_and (tCmp1 (oGt) (fV 0 nm_L_pick__law_cell rfl) (pe_op oPow (pe_int) (pe_int)) (nomark _)) (pw_and1 (tCmp1 (oGt) (pe_op oShr (fV 0 nm_L_pick__law_cell rfl) (pe_op oMul (pe_int) (fV 1 nm_L_pick__law_salt rfl))) (pe_int) (nomark _))))) (pss_one (ps_ret (pe_op oMod (pe_op oMod (pe_op oShr (fV 0 nm_L_pick__law_cell rfl) (pe_op oMul (pe_int) (fV 1 nm_L_pick__law_salt rfl))) (pe_int)) (fV 2 nm_L_pick__law_many rfl)))) (pss_nil)) (pss_cons (sSetK (i := 3) sc_L_pick.nd rfl nl_L_pick__law_one (pe_op oMod (pe_op oAdd (pe_op oAdd (pe_op oMod (fV 0 nm_L_pick__law_cell rfl) (pe_int)) (pe_int)) (pe_op oMul (pe_int) (fV 1 nm_L_pick__law_salt rfl))) (pe_int)) rfl (.inl rfl)) (pss_cons (sSetK (i := 3) sc_L_pick.nd rfl nl_L_pick__law_one (pe_op oMod (pe_op oMul (fV 3 nm_L_pick__law_one rfl) (fV 3 nm_L_pick__law_one rfl)) (pe_int)) rfl (.inl rfl)) (pss_cons (sSetK (i := 4) sc_L_pick.nd rfl nl_L_pick__law_two (pe_op oMod (pe_op oMul (pe_op oAdd (fV 3 nm_L_pick__law_one rfl) (pe_int)) (pe_op oAdd (pe_op oAdd (pe_op oDiv (fV 3 nm_L_pick__law_one rfl) (pe_int)) (pe_int)) (fV 1 nm_L_pick__law_salt rfl))) (pe_int)) rfl (.inl rfl)) (pss_one (ps_ret (pe_op oMod (pe_op oDiv (fV 4 nm_L_pick__law_two rfl) (pe_int)) (fV 2 nm_L_pick__law_many rfl)))))))
theorem div128 (x : Int) : CDivW x 128 := ⟨by decide, by decide⟩
theorem div1024 (x : Int) : CDivW x 1024 := ⟨by decide, by decide⟩
theorem rd_L_pick (T : TX w K mg) (vs : List V) (H : Hp) (Q : VK) (E : XK) (h : sp_L_pick vs H Q E) : t_L_pick P w K mg base { nx := fun _ H' => Q .non H', rt := Q } (start N_L_pick vs) H := by
  obtain ⟨c, s, m, rfl, h0, h1, hm, q⟩ := h
  refine ifP (p := 10 ^ 18 < c ∧ 0 < c / 2 ^ (20 * s).toNat) (fun Q' q' => andP q' (fun Q' q' => ⟨⟨by decide, by decide, by decide⟩, q'⟩) fun a Q' q' => ⟨.inl (.inl ⟨by decide, by decide⟩), by omega, q'⟩) (fun a => ?_) (fun a => ?_)
  · refine ⟨.inl (.inl ⟨by decide, by decide⟩), by omega, by decide, hm, ?_⟩
    have e : pick c s m = c / 2 ^ (20 * s).toNat % 1048576 % m := if_pos a
    rw [e] at q
    exact q
  · rw [pick_no a] at q
    have z1 := Int.emod_nonneg (c % 1000000007 + 314159265 + 104729 * s) (show (998244353 : Int) ≠ 0 by decide)
    have z2 := Int.emod_lt_of_pos (c % 1000000007 + 314159265 + 104729 * s) (show (0 : Int) < 998244353 by decide)
    refine ⟨by decide, .inl (.inl ⟨by decide, by decide⟩), by decide, .inl (.inl ⟨by omega, by omega⟩), by decide, div1024 _, .inl (.inl ⟨?_, ?_⟩), by decide, div128 _, hm, q⟩
    · have := Int.emod_nonneg ((c % 1000000007 + 314159265 + 104729 * s) % 998244353 * ((c % 1000000007 + 314159265 + 104729 * s) % 998244353)) (show (998244353 : Int) ≠ 0 by decide)
      omega
    · have := Int.emod_lt_of_pos ((c % 1000000007 + 314159265 + 104729 * s) % 998244353 * ((c % 1000000007 + 314159265 + 104729 * s) % 998244353)) (show (0 : Int) < 998244353 by decide)
      omega
theorem ok_L_pick {P : Program} {w : World} {K : PySem.W.Frag} {mg : Str → Option Value} {base : Heap} (T : TX w K mg) : Fn P w K mg base CX0 1 "_law_pick" (sp_L_pick) := by
  obtain ⟨fd, F⟩ := T.d_L_pick
  refine ⟨_, fd, A_L_pick, T.g_L_pick, F.kp, fnD F sc_L_pick (fun vs H Q E h => ?_) (fun cdv A outer s H vs Q E hr h => ⟨_, PSs.nox (der_L_pick T  hr), rd_L_pick T vs H Q E h⟩), F.bindsN fun _ _ _ _ _ _ us hl => match us, hl with | [_, _, _], _ => rfl⟩
  obtain ⟨_, _, _, rfl, _⟩ := h
  rfl
/-! ### _law_cell_at -/
def sp_L_cell_at (K : PySem.W.Frag) : Sp := fun vs H Q _ => ∃ (a : Addr) (ns : List Int) (k : Nat), vs = [.ref a, .int k] ∧ SqL K H a (ns.map V.int) ∧ ∀ c : Int, Q (.int c) H
def t_L_cell_at (P : Program) (w : World) (K : PySem.W.Frag) (mg : Str → Option Value) (base : Heap) : TS := tSeq (tIfS (tB1 (tOp (rCmp fun i j => decide (i < j)) (tV 1) (tCB (rLen1 K) (tCons (tV 0) (tNil))))) (tRet (tOp (rIx1 K) (tV 0) (tV 1))) (tNext)) (tRet (tC (.int 0)))
theorem der_L_cell_at {P : Program} {w : World} {K : PySem.W.Frag} {mg : Str → Option Value} {base : Heap} (T : TX w K mg) {f : Addr} {cdv : Value} {A : Around} {outer : List Env} {s : Shared} {H : Hp} {E : XK} (hr : Room 0 (A.deeper (envOfC "_law_cell_at" (defScope s_L_cell_at) s.heap.objs.size f cdv))) :
    PSs (cxOf CX0 P w K mg base N_L_cell_at "_law_cell_at" (defScope s_L_cell_at) f cdv A outer s H E).nox (defBody s_L_cell_at) (t_L_cell_at P w K mg base) :=
  pss_cons (ps_if (tCmp1 (oLt) (fV 1 nm_L_cell_at__law_k rfl) (fB cLen ng_L_cell_at_len T.b_len bb_len (aCons (fV 0 nm_L_cell_at__law_script rfl) (pa_nil) rfl) rfl) (nomark _)) (pss_one (ps_ret (fIx (fV 0 nm_L_cell_at__law_script rfl) (fV 1 nm_L_cell_at__law_k rfl) (fun _ _ => rfl)))) (pss_nil)) (pss_one (ps_ret (pe_int)))
theorem rd_L_cell_at (T : TX w K mg) (vs : List V) (H : Hp) (Q : VK) (E : XK) (h : sp_L_cell_at K vs H Q E) : t_L_cell_at P w K mg base { nx := fun _ H' => Q .non H', rt := Q } (start N_L_cell_at vs) H := by
  obtain ⟨a, ns, k, rfl, hs, q⟩ := h
  refine ⟨_, .inl hs, ?_⟩
  refine iteD (fun c => ?_) (fun c => ?_)
  · rw [List.length_map] at c
    have hk : k < ns.length := by omega
    refine ⟨_, .int ns[k], .inl hs, atI_nat (j := k) ?_, q _⟩
    rw [List.getElem?_map, List.getElem?_eq_getElem hk]
    rfl
  · exact q _
theorem ok_L_cell_at {P : Program} {w : World} {K : PySem.W.Frag} {mg : Str → Option Value} {base : Heap} (T : TX w K mg) : Fn P w K mg base CX0 1 "_law_cell_at" (sp_L_cell_at K) := by
  obtain ⟨fd, F⟩ := T.d_L_cell_at
  refine ⟨_, fd, A_L_cell_at, T.g_L_cell_at, F.kp, fnD F sc_L_cell_at (fun vs H Q E h => ?_) (fun cdv A outer s H vs Q E hr h => ⟨_, PSs.nox (der_L_cell_at T  hr), rd_L_cell_at T vs H Q E h⟩), F.bindsN fun _ _ _ _ _ _ us hl => match us, hl with | [_, _], _ => rfl⟩
  obtain ⟨_, _, _, rfl, _⟩ := h
  rfl
/-! ### _law_whole, is_whole -/
def sp_L_whole : Sp := fun vs H Q _ => ∃ i : Int, vs = [.int i] ∧ Q (.bl true) H
def t_L_whole (P : Program) (w : World) (K : PySem.W.Frag) (mg : Str → Option Value) (base : Heap) : TS := tRet (tAndV (tCB (rIsi1) (tCons (tV 0) (tCons (tC (.ty "int")) (tNil)))) (tNotV (tCB (rIsi1) (tCons (tV 0) (tCons (tC (.ty "bool")) (tNil))))))
theorem der_L_whole {P : Program} {w : World} {K : PySem.W.Frag} {mg : Str → Option Value} {base : Heap} (T : TX w K mg) {f : Addr} {cdv : Value} {A : Around} {outer : List Env} {s : Shared} {H : Hp} {E : XK} (hr : Room 0 (A.deeper (envOfC "_law_whole" (defScope s_L_whole) s.heap.objs.size f cdv))) :
    PSs (cxOf CX0 P w K mg base N_L_whole "_law_whole" (defScope s_L_whole) f cdv A outer s H E).nox (defBody s_L_whole) (t_L_whole P w K mg base) :=
  pss_one (ps_ret (pe_and (fB cIsi ng_L_whole_isinstance T.b_isinstance bb_isinstance (aCons (fV 0 nm_L_whole__law_thing rfl) (aCons (fTy ng_L_whole_int T.b_int bb_int) (pa_nil) rfl) rfl) rfl) (pe_one (pe_not (fB cIsi ng_L_whole_isinstance T.b_isinstance bb_isinstance (aCons (fV 0 nm_L_whole__law_thing rfl) (aCons (fTy ng_L_whole_bool T.b_bool bb_bool) (pa_nil) rfl) rfl) rfl)))))
theorem kit_ii : kitB "int" "int" = some true := by decide +kernel
theorem kit_ib : kitB "int" "bool" = some false := by decide +kernel
theorem rd_L_whole (T : TX w K mg) (vs : List V) (H : Hp) (Q : VK) (E : XK) (h : sp_L_whole vs H Q E) : t_L_whole P w K mg base { nx := fun _ H' => Q .non H', rt := Q } (start N_L_whole vs) H := by
  obtain ⟨i, rfl, q⟩ := h
  refine ⟨_, true, .int i, kit_ii, true, rfl, ?_⟩
  exact ⟨_, false, .int i, kit_ib, false, rfl, q⟩
theorem ok_L_whole {P : Program} {w : World} {K : PySem.W.Frag} {mg : Str → Option Value} {base : Heap} (T : TX w K mg) : Fn P w K mg base CX0 1 "_law_whole" (sp_L_whole) := by
  obtain ⟨fd, F⟩ := T.d_L_whole
  refine ⟨_, fd, A_L_whole, T.g_L_whole, F.kp, fnD F sc_L_whole (fun vs H Q E h => ?_) (fun cdv A outer s H vs Q E hr h => ⟨_, PSs.nox (der_L_whole T  hr), rd_L_whole T vs H Q E h⟩), F.bindsN fun _ _ _ _ _ _ us hl => match us, hl with | [_], _ => rfl⟩
  obtain ⟨_, rfl, _⟩ := h
  rfl
def t_P_is_whole (P : Program) (w : World) (K : PySem.W.Frag) (mg : Str → Option Value) (base : Heap) : TS := tRet (tAndV (tCB (rIsi1) (tCons (tV 0) (tCons (tC (.ty "int")) (tNil)))) (tNotV (tCB (rIsi1) (tCons (tV 0) (tCons (tC (.ty "bool")) (tNil))))))
theorem der_P_is_whole {P : Program} {w : World} {K : PySem.W.Frag} {mg : Str → Option Value} {base : Heap} (T : TX w K mg) {f : Addr} {cdv : Value} {A : Around} {outer : List Env} {s : Shared} {H : Hp} {E : XK} (hr : Room 0 (A.deeper (envOfC "is_whole" (defScope s_P_is_whole) s.heap.objs.size f cdv))) :
    PSs (cxOf CX0 P w K mg base N_P_is_whole "is_whole" (defScope s_P_is_whole) f cdv A outer s H E).nox (defBody s_P_is_whole) (t_P_is_whole P w K mg base) :=
  pss_one (ps_ret (pe_and (fB cIsi ng_P_is_whole_isinstance T.b_isinstance bb_isinstance (aCons (fV 0 nm_P_is_whole_thing rfl) (aCons (fTy ng_P_is_whole_int T.b_int bb_int) (pa_nil) rfl) rfl) rfl) (pe_one (pe_not (fB cIsi ng_P_is_whole_isinstance T.b_isinstance bb_isinstance (aCons (fV 0 nm_P_is_whole_thing rfl) (aCons (fTy ng_P_is_whole_bool T.b_bool bb_bool) (pa_nil) rfl) rfl) rfl)))))
theorem rd_P_is_whole (T : TX w K mg) (vs : List V) (H : Hp) (Q : VK) (E : XK) (h : sp_L_whole vs H Q E) : t_P_is_whole P w K mg base { nx := fun _ H' => Q .non H', rt := Q } (start N_P_is_whole vs) H := by
  obtain ⟨i, rfl, q⟩ := h
  refine ⟨_, true, .int i, kit_ii, true, rfl, ?_⟩
  exact ⟨_, false, .int i, kit_ib, false, rfl, q⟩
theorem ok_P_is_whole {P : Program} {w : World} {K : PySem.W.Frag} {mg : Str → Option Value} {base : Heap} (T : TX w K mg) : Fn P w K mg base CX0 1 "is_whole" (sp_L_whole) := by
  obtain ⟨fd, F⟩ := T.d_P_is_whole
  refine ⟨_, fd, A_P_is_whole, T.g_P_is_whole, F.kp, fnD F sc_P_is_whole (fun vs H Q E h => ?_) (fun cdv A outer s H vs Q E hr h => ⟨_, PSs.nox (der_P_is_whole T  hr), rd_P_is_whole T vs H Q E h⟩), F.bindsN fun _ _ _ _ _ _ us hl => match us, hl with | [_], _ => rfl⟩
  obtain ⟨_, rfl, _⟩ := h
  rfl
/-! ### _law_signs, _law_sign -/
def signs94 : List Nat := [32, 33, 34, 35, 36, 38, 39, 40, 41, 42, 43, 44, 45, 46, 47, 48, 49, 50, 51, 52, 53, 54, 55, 56, 57, 58, 59, 60, 61, 62, 63, 64, 65, 66, 67, 68, 69, 70, 71, 72, 73, 74, 75, 76, 77, 78, 79, 80, 81, 82, 83, 84, 85, 86, 87, 88, 89, 90, 91, 92, 93, 94, 95, 96, 97, 98, 99, 100, 101, 102, 103, 104, 105, 106, 107, 108, 109, 110, 111, 112, 113, 114, 115, 116, 117, 118, 119, 120, 121, 122, 123, 124, 125, 126]
theorem atI_mem {α : Type} {l : List α} {i : Int} {z : α} (h : atI l i = some z) : z ∈ l := by
  obtain ⟨j, _, hj, _⟩ := atI_get h
  exact List.mem_of_getElem? hj
theorem signs94_lt : ∀ c ∈ signs94, c < 1000 := by decide
theorem signs94_len : signs94.length = 94 := rfl
def sp_L_signs : Sp := fun vs H Q _ => vs = [] ∧ Q (.str (S signs94)) H
def t_L_signs (P : Program) (w : World) (K : PySem.W.Frag) (mg : Str → Option Value) (base : Heap) : TS := tRet (tC (.str (S [32, 33, 34, 35, 36, 38, 39, 40, 41, 42, 43, 44, 45, 46, 47, 48, 49, 50, 51, 52, 53, 54, 55, 56, 57, 58, 59, 60, 61, 62, 63, 64, 65, 66, 67, 68, 69, 70, 71, 72, 73, 74, 75, 76, 77, 78, 79, 80, 81, 82, 83, 84, 85, 86, 87, 88, 89, 90, 91, 92, 93, 94, 95, 96, 97, 98, 99, 100, 101, 102, 103, 104, 105, 106, 107, 108, 109, 110, 111, 112, 113, 114, 115, 116, 117, 118, 119, 120, 121, 122, 123, 124, 125, 126])))
theorem der_L_signs {P : Program} {w : World} {K : PySem.W.Frag} {mg : Str → Option Value} {base : Heap} (T : TX w K mg) {f : Addr} {cdv : Value} {A : Around} {outer : List Env} {s : Shared} {H : Hp} {E : XK} (hr : Room 0 (A.deeper (envOfC "_law_signs" (defScope s_L_signs) s.heap.objs.size f cdv))) :
    PSs (cxOf CX0 P w K mg base N_L_signs "_law_signs" (defScope s_L_signs) f cdv A outer s H E).nox (defBody s_L_signs) (t_L_signs P w K mg base) :=
  pss_one (ps_ret (fS rfl))
theorem rd_L_signs (T : TX w K mg) (vs : List V) (H : Hp) (Q : VK) (E : XK) (h : sp_L_signs vs H Q E) : t_L_signs P w K mg base { nx := fun _ H' => Q .non H', rt := Q } (start N_L_signs vs) H := by
  obtain ⟨rfl, q⟩ := h
  exact q
theorem ok_L_signs {P : Program} {w : World} {K : PySem.W.Frag} {mg : Str → Option Value} {base : Heap} (T : TX w K mg) : Fn P w K mg base CX0 1 "_law_signs" (sp_L_signs) := by
  obtain ⟨fd, F⟩ := T.d_L_signs
  refine ⟨_, fd, A_L_signs, T.g_L_signs, F.kp, fnD F sc_L_signs (fun vs H Q E h => ?_) (fun cdv A outer s H vs Q E hr h => ⟨_, PSs.nox (der_L_signs T  hr), rd_L_signs T vs H Q E h⟩), F.bindsN fun _ _ _ _ _ _ us hl => match us, hl with | [], _ => rfl⟩
  obtain ⟨rfl, _⟩ := h
  rfl
def sp_L_sign : Sp := fun vs H Q _ => ∃ c s : Int, vs = [.int c, .int s] ∧ 0 ≤ s ∧ s ≤ 1000 ∧ ∀ z : Nat, z < 1000 → Q (.str (S [z])) H
def t_L_sign (P : Program) (w : World) (K : PySem.W.Frag) (mg : Str → Option Value) (base : Heap) : TS := tSeq (tSetK 2 (tC (.str (S [32, 48, 45, 43, 40, 49, 42, 41, 95, 44, 46, 57, 102])))) (tSeq (tIfS (tB1 (tOp (rCmp fun i j => decide (j < i)) (tCall (sp_L_pick) [] E0 (tCons (tV 0) (tCons (tV 1) (tCons (tC (.int 3)) (tNil))))) (tC (.int 0)))) (tRet (tOp (rIx1 K) (tV 2) (tCall (sp_L_pick) [] E0 (tCons (tV 0) (tCons (tOp qAdd (tV 1) (tC (.int 1))) (tCons (tCB (rLen1 K) (tCons (tV 2) (tNil))) (tNil))))))) (tNext)) (tRet (tOp (rIx1 K) (tCall (sp_L_signs) [] E0 tNil) (tCall (sp_L_pick) [] E0 (tCons (tV 0) (tCons (tOp qAdd (tV 1) (tC (.int 2))) (tCons (tC (.int 94)) (tNil))))))))
theorem der_L_sign {P : Program} {w : World} {K : PySem.W.Frag} {mg : Str → Option Value} {base : Heap} (T : TX w K mg) (C_L_pick : Fn P w K mg base CX0 1 "_law_pick" (sp_L_pick)) (C_L_signs : Fn P w K mg base CX0 1 "_law_signs" (sp_L_signs)) {f : Addr} {cdv : Value} {A : Around} {outer : List Env} {s : Shared} {H : Hp} {E : XK} (hr : Room 1 (A.deeper (envOfC "_law_sign" (defScope s_L_sign) s.heap.objs.size f cdv))) :
    PSs (cxOf CX0 P w K mg base N_L_sign "_law_sign" (defScope s_L_sign) f cdv A outer s H E).nox (defBody s_L_sign) (t_L_sign P w K mg base) :=
  pss_cons (sSetK (i := 2) sc_L_sign.nd rfl nl_L_sign__law_some (fS rfl) rfl (.inl rfl)) (pss_cons (ps_if (tCmp1 (oGt) (fCall C_L_pick (hr.mono (by decide)) ng_L_sign__law_pick pass0 (aCons (fV 0 nm_L_sign__law_cell rfl) (aCons (fV 1 nm_L_sign__law_salt rfl) (aCons (pe_int) (pa_nil) rfl) rfl) rfl) rfl) (pe_int) (nomark _)) (pss_one (ps_ret (fIx (fV 2 nm_L_sign__law_some rfl) (fCall C_L_pick (hr.mono (by decide)) ng_L_sign__law_pick pass0 (aCons (fV 0 nm_L_sign__law_cell rfl) (aCons (pe_op oAdd (fV 1 nm_L_sign__law_salt rfl) (pe_int)) (aCons (fB cLen ng_L_sign_len T.b_len bb_len (aCons (fV 2 nm_L_sign__law_some rfl) (pa_nil) rfl) rfl) (pa_nil) rfl) rfl) rfl) rfl) (fun _ _ => rfl)))) (pss_nil)) (pss_one (ps_ret (fIx (fCall0 C_L_signs (hr.mono (by decide)) ng_L_sign__law_signs pass0) (fCall C_L_pick (hr.mono (by decide)) ng_L_sign__law_pick pass0 (aCons (fV 0 nm_L_sign__law_cell rfl) (aCons (pe_op oAdd (fV 1 nm_L_sign__law_salt rfl) (pe_int)) (aCons (pe_int) (pa_nil) rfl) rfl) rfl) rfl) (fun _ _ => rfl)))))
theorem atI_pick {l : List Nat} {c s : Int} (h : 0 < l.length) : ∃ z, atI l (pick c s (l.length : Nat)) = some z := by
  have h1 := pick_lt c s (m := (l.length : Nat)) (by omega)
  obtain ⟨k, hk⟩ : ∃ k : Nat, pick c s (l.length : Nat) = k := ⟨(pick c s (l.length : Nat)).toNat, by omega⟩
  rw [hk] at h1 ⊢
  have h2 : k < l.length := by omega
  exact ⟨l[k], atI_nat (List.getElem?_eq_getElem h2)⟩
theorem rd_L_sign (T : TX w K mg) (vs : List V) (H : Hp) (Q : VK) (E : XK) (h : sp_L_sign vs H Q E) : t_L_sign P w K mg base { nx := fun _ H' => Q .non H', rt := Q } (start N_L_sign vs) H := by
  obtain ⟨c, s, rfl, h0, h1, q⟩ := h
  refine ⟨_, _, _, rfl, h0, by omega, by decide, ?_⟩
  refine iteD (fun a => ?_) (fun a => ?_)
  · refine ⟨_, rfl, by decide, _, _, _, rfl, by omega, by omega, by decide, ?_⟩
    obtain ⟨z, hz⟩ := atI_pick (l := [32, 48, 45, 43, 40, 49, 42, 41, 95, 44, 46, 57, 102]) (c := c) (s := s + 1) (by decide)
    exact ⟨_, z, rfl, by decide, hz, q z ((by decide : ∀ c ∈ [32, 48, 45, 43, 40, 49, 42, 41, 95, 44, 46, 57, 102], c < 1000) z (atI_mem hz))⟩
  · refine ⟨rfl, _, _, _, rfl, by omega, by omega, by decide, ?_⟩
    obtain ⟨z, hz⟩ := atI_pick (l := signs94) (c := c) (s := s + 2) (by decide)
    exact ⟨_, z, rfl, by decide, hz, q z (signs94_lt z (atI_mem hz))⟩
theorem ok_L_sign {P : Program} {w : World} {K : PySem.W.Frag} {mg : Str → Option Value} {base : Heap} (T : TX w K mg) : Fn P w K mg base CX0 2 "_law_sign" (sp_L_sign) := by
  obtain ⟨fd, F⟩ := T.d_L_sign
  refine ⟨_, fd, A_L_sign, T.g_L_sign, F.kp, fnD F sc_L_sign (fun vs H Q E h => ?_) (fun cdv A outer s H vs Q E hr h => ⟨_, PSs.nox (der_L_sign T (ok_L_pick T) (ok_L_signs T) hr), rd_L_sign T vs H Q E h⟩), F.bindsN fun _ _ _ _ _ _ us hl => match us, hl with | [_, _], _ => rfl⟩
  obtain ⟨_, _, rfl, _⟩ := h
  rfl
/-! ### _law_power, power_of -/
def sp_L_power : Sp := fun vs H Q _ => ∃ b n : Nat, vs = [.int b, .int n] ∧ b ≤ 16 ∧ n ≤ 100 ∧ Q (.int ((b ^ n : Nat) : Int)) H
def t_L_power (P : Program) (w : World) (K : PySem.W.Frag) (mg : Str → Option Value) (base : Heap) : TS := tSeq (tSetK 2 (tC (.int 1))) (tSeq (tFor (iRng1 (tCons (tV 1) (tNil))) (gK 3) (tSetK 2 (tOp qMul (tV 2) (tV 0)))) (tRet (tV 2)))
theorem der_L_power {P : Program} {w : World} {K : PySem.W.Frag} {mg : Str → Option Value} {base : Heap} (T : TX w K mg) {f : Addr} {cdv : Value} {A : Around} {outer : List Env} {s : Shared} {H : Hp} {E : XK} (hr : Room 0 (A.deeper (envOfC "_law_power" (defScope s_L_power) s.heap.objs.size f cdv))) :
    PSs (cxOf CX0 P w K mg base N_L_power "_law_power" (defScope s_L_power) f cdv A outer s H E).nox (defBody s_L_power) (t_L_power P w K mg base) :=
  pss_cons (sSetK (i := 2) sc_L_power.nd rfl nl_L_power__law_found (pe_int) rfl (.inl rfl)) (pss_cons (ps_for PassesOwn.never rfl (pi_range1 (ng_L_power_range).gl T.b_range (aCons (fV 1 nm_L_power__law_times rfl) (pa_nil) rfl)) (gNK sc_L_power.nd rfl nl_L_power__law_k (.inl rfl)) (pss_one (sSetK (i := 2) sc_L_power.nd rfl nl_L_power__law_found (pe_op oMul (fV 2 nm_L_power__law_found rfl) (fV 0 nm_L_power__law_base rfl)) rfl (.inl rfl)))) (pss_one (ps_ret (fV 2 nm_L_power__law_found rfl))))
theorem rd_L_power (T : TX w K mg) (vs : List V) (H : Hp) (Q : VK) (E : XK) (h : sp_L_power vs H Q E) : t_L_power P w K mg base { nx := fun _ H' => Q .non H', rt := Q } (start N_L_power vs) H := by
  obtain ⟨b, n, rfl, hb, hn, q⟩ := h
  refine ⟨_, rfl, by omega, by omega, for_range (lo := 0) (n := n) (fun i σ H' => H' = H ∧ ∃ v, σ = [some (.int b), some (.int n), some (.int ((b ^ i : Nat) : Int)), v]) ⟨rfl, _, rfl⟩ ?_ ?_⟩
  · rintro i σ H' hi ⟨rfl, v, rfl⟩
    refine ⟨.inl (.inr ⟨by omega, by omega⟩), rfl, some (.int (0 + (i : Int))), ?_⟩
    rw [Nat.pow_succ, Int.natCast_mul]
  · rintro σ H' ⟨rfl, v, rfl⟩
    exact q
theorem ok_L_power {P : Program} {w : World} {K : PySem.W.Frag} {mg : Str → Option Value} {base : Heap} (T : TX w K mg) : Fn P w K mg base CX0 1 "_law_power" (sp_L_power) := by
  obtain ⟨fd, F⟩ := T.d_L_power
  refine ⟨_, fd, A_L_power, T.g_L_power, F.kp, fnD F sc_L_power (fun vs H Q E h => ?_) (fun cdv A outer s H vs Q E hr h => ⟨_, PSs.nox (der_L_power T  hr), rd_L_power T vs H Q E h⟩), F.bindsN fun _ _ _ _ _ _ us hl => match us, hl with | [_, _], _ => rfl⟩
  obtain ⟨_, _, rfl, _⟩ := h
  rfl
def t_P_power_of (P : Program) (w : World) (K : PySem.W.Frag) (mg : Str → Option Value) (base : Heap) : TS := tSeq (tSetK 2 (tC (.int 1))) (tSeq (tFor (iRng1 (tCons (tV 1) (tNil))) (gK 3) (tSetK 2 (tOp qMul (tV 2) (tV 0)))) (tRet (tV 2)))
theorem der_P_power_of {P : Program} {w : World} {K : PySem.W.Frag} {mg : Str → Option Value} {base : Heap} (T : TX w K mg) {f : Addr} {cdv : Value} {A : Around} {outer : List Env} {s : Shared} {H : Hp} {E : XK} (hr : Room 0 (A.deeper (envOfC "power_of" (defScope s_P_power_of) s.heap.objs.size f cdv))) :
    PSs (cxOf CX0 P w K mg base N_P_power_of "power_of" (defScope s_P_power_of) f cdv A outer s H E).nox (defBody s_P_power_of) (t_P_power_of P w K mg base) :=
  pss_cons (sSetK (i := 2) sc_P_power_of.nd rfl nl_P_power_of_found (pe_int) rfl (.inl rfl)) (pss_cons (ps_for PassesOwn.never rfl (pi_range1 (ng_P_power_of_range).gl T.b_range (aCons (fV 1 nm_P_power_of_times rfl) (pa_nil) rfl)) (gNK sc_P_power_of.nd rfl nl_P_power_of_k (.inl rfl)) (pss_one (sSetK (i := 2) sc_P_power_of.nd rfl nl_P_power_of_found (pe_op oMul (fV 2 nm_P_power_of_found rfl) (fV 0 nm_P_power_of_base rfl)) rfl (.inl rfl)))) (pss_one (ps_ret (fV 2 nm_P_power_of_found rfl))))
theorem rd_P_power_of (T : TX w K mg) (vs : List V) (H : Hp) (Q : VK) (E : XK) (h : sp_L_power vs H Q E) : t_P_power_of P w K mg base { nx := fun _ H' => Q .non H', rt := Q } (start N_P_power_of vs) H := by
  obtain ⟨b, n, rfl, hb, hn, q⟩ := h
  refine ⟨_, rfl, by omega, by omega, for_range (lo := 0) (n := n) (fun i σ H' => H' = H ∧ ∃ v, σ = [some (.int b), some (.int n), some (.int ((b ^ i : Nat) : Int)), v]) ⟨rfl, _, rfl⟩ ?_ ?_⟩
  · rintro i σ H' hi ⟨rfl, v, rfl⟩
    refine ⟨.inl (.inr ⟨by omega, by omega⟩), rfl, some (.int (0 + (i : Int))), ?_⟩
    rw [Nat.pow_succ, Int.natCast_mul]
  · rintro σ H' ⟨rfl, v, rfl⟩
    exact q
theorem ok_P_power_of {P : Program} {w : World} {K : PySem.W.Frag} {mg : Str → Option Value} {base : Heap} (T : TX w K mg) : Fn P w K mg base CX0 1 "power_of" (sp_L_power) := by
  obtain ⟨fd, F⟩ := T.d_P_power_of
  refine ⟨_, fd, A_P_power_of, T.g_P_power_of, F.kp, fnD F sc_P_power_of (fun vs H Q E h => ?_) (fun cdv A outer s H vs Q E hr h => ⟨_, PSs.nox (der_P_power_of T  hr), rd_P_power_of T vs H Q E h⟩), F.bindsN fun _ _ _ _ _ _ us hl => match us, hl with | [_, _], _ => rfl⟩
  obtain ⟨_, _, rfl, _⟩ := h
  rfl
end
end K45
namespace K45
open PySem PySem.Spec PyProof.Rows L2 F
section
variable {P : Program} {w : World} {K : PySem.W.Frag} {mg : Str → Option Value} {base : Heap}
/-! ### divisors -/
theorem gcd_step {a b : Int} : Int.gcd b (a % b) = Int.gcd a b := by
  have e : a % b = a - b * (a / b) := Int.emod_def a b
  rw [e, Int.gcd_sub_mul_left_right, Int.gcd_comm]
def sp_L_divisor : Sp := fun vs H Q _ => ∃ a b : Int, vs = [.int a, .int b] ∧ 0 ≤ b ∧ Q (.int ((Int.gcd a b : Nat) : Int)) H
def t_L_divisor (P : Program) (w : World) (K : PySem.W.Frag) (mg : Str → Option Value) (base : Heap) : TS := tSeq (tWhile (tB1 (tOp (rNe1) (tV 1) (tC (.int 0)))) (tPar 0 1 (tCons (tV 1) (tCons (tOp qMod (tV 0) (tV 1)) (tNil))))) (tRet (tCB (rAbs1) (tCons (tV 0) (tNil))))
theorem der_L_divisor {P : Program} {w : World} {K : PySem.W.Frag} {mg : Str → Option Value} {base : Heap} (T : TX w K mg) {f : Addr} {cdv : Value} {A : Around} {outer : List Env} {s : Shared} {H : Hp} {E : XK} (hr : Room 0 (A.deeper (envOfC "_law_divisor" (defScope s_L_divisor) s.heap.objs.size f cdv))) :
    PSs (cxOf CX0 P w K mg base N_L_divisor "_law_divisor" (defScope s_L_divisor) f cdv A outer s H E).nox (defBody s_L_divisor) (t_L_divisor P w K mg base) :=
  pss_cons (ps_while PassesOwn.never (tCmp1 (oNe) (fV 1 nm_L_divisor__law_other rfl) (pe_int) (nomark _)) (pss_one (ps_par (i := 0) (j := 1) rfl sc_L_divisor.nd rfl rfl (by decide) lo_L_divisor__law_one lo_L_divisor__law_other (aCons (fV 1 nm_L_divisor__law_other rfl) (aCons (pe_op oMod (fV 0 nm_L_divisor__law_one rfl) (fV 1 nm_L_divisor__law_other rfl)) (pa_nil) rfl) rfl) (by rfl)))) (pss_one (ps_ret (fB cAbs ng_L_divisor_abs T.b_abs bb_abs (aCons (fV 0 nm_L_divisor__law_one rfl) (pa_nil) rfl) rfl)))
def mu2 : L2.St → Hp → Nat := fun σ _ => match σ with
  | _ :: some (.int y) :: _ => y.toNat
  | _ => 0
theorem rd_L_divisor (T : TX w K mg) (vs : List V) (H : Hp) (Q : VK) (E : XK) (h : sp_L_divisor vs H Q E) : t_L_divisor P w K mg base { nx := fun _ H' => Q .non H', rt := Q } (start N_L_divisor vs) H := by
  obtain ⟨a, b, rfl, hb, q⟩ := h
  refine whS (fun σ H' => H' = H ∧ ∃ x y : Int, 0 ≤ y ∧ Int.gcd x y = Int.gcd a b ∧ σ = [some (.int x), some (.int y)]) mu2 ⟨rfl, a, b, hb, rfl, rfl⟩ ?_
  rintro σ H' ⟨rfl, x, y, hy, hg, rfl⟩
  by_cases c : y = 0
  · subst c
    have e : (Int.gcd x 0 : Int) = (x.natAbs : Nat) := by rw [Int.gcd_zero_right]
    rw [← hg, e] at q
    exact q
  · refine iteB (fun z => ?_) (fun z => ?_)
    · refine whP _ _ ?_
      refine ⟨by omega, _, _, rfl, ⟨rfl, y, x % y, Int.emod_nonneg _ c, ?_, rfl⟩, ?_⟩
      · rw [gcd_step, hg]
      · show (x % y).toNat < y.toNat
        have := Int.emod_lt_of_pos x (show 0 < y by omega)
        have := Int.emod_nonneg x c
        omega
    · have z' : (!decide (y = 0)) = false := z
      rw [decide_eq_false c] at z'
      cases z'
theorem ok_L_divisor {P : Program} {w : World} {K : PySem.W.Frag} {mg : Str → Option Value} {base : Heap} (T : TX w K mg) : Fn P w K mg base CX0 1 "_law_divisor" (sp_L_divisor) := by
  obtain ⟨fd, F⟩ := T.d_L_divisor
  refine ⟨_, fd, A_L_divisor, T.g_L_divisor, F.kp, fnD F sc_L_divisor (fun vs H Q E h => ?_) (fun cdv A outer s H vs Q E hr h => ⟨_, PSs.nox (der_L_divisor T  hr), rd_L_divisor T vs H Q E h⟩), F.bindsN fun _ _ _ _ _ _ us hl => match us, hl with | [_, _], _ => rfl⟩
  obtain ⟨_, _, rfl, _⟩ := h
  rfl
def sp_P_divisor_of : Sp := fun vs H Q _ => ∃ a b : Int, vs = [.int a, .int b] ∧ Q (.int ((Int.gcd a b : Nat) : Int)) H
def t_P_divisor_of (P : Program) (w : World) (K : PySem.W.Frag) (mg : Str → Option Value) (base : Heap) : TS := tSeq (tSetK 0 (tCB (rAbs1) (tCons (tV 0) (tNil)))) (tSeq (tSetK 1 (tCB (rAbs1) (tCons (tV 1) (tNil)))) (tSeq (tWhile (tB1 (tOp (rCmp fun i j => decide (j < i)) (tV 1) (tC (.int 0)))) (tSeq (tSetK 2 (tOp qMod (tV 0) (tV 1))) (tSeq (tSetK 0 (tV 1)) (tSetK 1 (tV 2))))) (tRet (tV 0))))
theorem der_P_divisor_of {P : Program} {w : World} {K : PySem.W.Frag} {mg : Str → Option Value} {base : Heap} (T : TX w K mg) {f : Addr} {cdv : Value} {A : Around} {outer : List Env} {s : Shared} {H : Hp} {E : XK} (hr : Room 0 (A.deeper (envOfC "divisor_of" (defScope s_P_divisor_of) s.heap.objs.size f cdv))) :
    PSs (cxOf CX0 P w K mg base N_P_divisor_of "divisor_of" (defScope s_P_divisor_of) f cdv A outer s H E).nox (defBody s_P_divisor_of) (t_P_divisor_of P w K mg base) :=
  pss_cons (sSetK (i := 0) sc_P_divisor_of.nd rfl nl_P_divisor_of_one (fB cAbs ng_P_divisor_of_abs T.b_abs bb_abs (aCons (fV 0 nm_P_divisor_of_one rfl) (pa_nil) rfl) rfl) rfl (.inl rfl)) (pss_cons (sSetK (i := 1) sc_P_divisor_of.nd rfl nl_P_divisor_of_other (fB cAbs ng_P_divisor_of_abs T.b_abs bb_abs (aCons (fV 1 nm_P_divisor_of_other rfl) (pa_nil) rfl) rfl) rfl (.inl rfl)) (pss_cons (ps_while PassesOwn.never (tCmp1 (oGt) (fV 1 nm_P_divisor_of_other rfl) (pe_int) (nomark _)) (pss_cons (sSetK (i := 2) sc_P_divisor_of.nd rfl nl_P_divisor_of_rest (pe_op oMod (fV 0 nm_P_divisor_of_one rfl) (fV 1 nm_P_divisor_of_other rfl)) rfl (.inl rfl)) (pss_cons (sSetK (i := 0) sc_P_divisor_of.nd rfl nl_P_divisor_of_one (fV 1 nm_P_divisor_of_other rfl) rfl (.inl rfl)) (pss_one (sSetK (i := 1) sc_P_divisor_of.nd rfl nl_P_divisor_of_other (fV 2 nm_P_divisor_of_rest rfl) rfl (.inl rfl)))))) (pss_one (ps_ret (fV 0 nm_P_divisor_of_one rfl)))))
theorem rd_P_divisor_of (T : TX w K mg) (vs : List V) (H : Hp) (Q : VK) (E : XK) (h : sp_P_divisor_of vs H Q E) : t_P_divisor_of P w K mg base { nx := fun _ H' => Q .non H', rt := Q } (start N_P_divisor_of vs) H := by
  obtain ⟨a, b, rfl, q⟩ := h
  refine whS (fun σ H' => H' = H ∧ ∃ (x y : Int) (v : Option V), 0 ≤ y ∧ 0 ≤ x ∧ Int.gcd x y = Int.gcd a b ∧ σ = [some (.int x), some (.int y), v]) mu2 ⟨rfl, (a.natAbs : Nat), (b.natAbs : Nat), none, by omega, by omega, ?_, rfl⟩ ?_
  · rw [Int.gcd_eq_natAbs_gcd_natAbs, Int.gcd_eq_natAbs_gcd_natAbs, Int.natAbs_natCast, Int.natAbs_natCast]
  rintro σ H' ⟨rfl, x, y, v, hy, hx, hg, rfl⟩
  refine iteD (fun c => ?_) (fun c => ?_)
  · refine whP _ _ ?_
    refine ⟨c, ⟨rfl, y, x % y, _, Int.emod_nonneg _ (by omega), hy, ?_, rfl⟩, ?_⟩
    · rw [gcd_step, hg]
    · show (x % y).toNat < y.toNat
      have := Int.emod_lt_of_pos x c
      have := Int.emod_nonneg x (show y ≠ 0 by omega)
      omega
  · have e0 : y = 0 := by omega
    subst e0
    have e : (Int.gcd x 0 : Int) = x := by rw [Int.gcd_zero_right]; omega
    rw [← hg, e] at q
    exact q
theorem ok_P_divisor_of {P : Program} {w : World} {K : PySem.W.Frag} {mg : Str → Option Value} {base : Heap} (T : TX w K mg) : Fn P w K mg base CX0 1 "divisor_of" (sp_P_divisor_of) := by
  obtain ⟨fd, F⟩ := T.d_P_divisor_of
  refine ⟨_, fd, A_P_divisor_of, T.g_P_divisor_of, F.kp, fnD F sc_P_divisor_of (fun vs H Q E h => ?_) (fun cdv A outer s H vs Q E hr h => ⟨_, PSs.nox (der_P_divisor_of T  hr), rd_P_divisor_of T vs H Q E h⟩), F.bindsN fun _ _ _ _ _ _ us hl => match us, hl with | [_, _], _ => rfl⟩
  obtain ⟨_, _, rfl, _⟩ := h
  rfl
/-! ### _law_lowest, fraction, grid_value -/
def frT (k s : Int) : Int := k / (Int.gcd k s : Nat)
def frB (k s : Int) : Int := s / (Int.gcd k s : Nat)
theorem gcd_small {k s : Int} (h : 0 < s) (hs : s < 2 ^ 200) : CDivW k (Int.gcd k s : Nat) ∧ CDivW s (Int.gcd k s : Nat) := by
  have h1 : 0 < Int.gcd k s := Int.gcd_pos_of_ne_zero_right _ (by omega)
  have h2 : Int.gcd k s ≤ s.natAbs := Int.gcd_le_natAbs_right _ (by omega)
  have h3 : CDivW k (Int.gcd k s : Nat) := wide_div (b := 200) (by omega) (by omega) (by decide) (by decide)
  exact ⟨h3, h3⟩
def sp_L_lowest : Sp := fun vs H Q _ => ∃ a b : Int, vs = [.int a, .int b] ∧ 0 < b ∧ b < 2 ^ 200 ∧ ∀ p H', H p = none → Ex H H' → H' p = some (.tup [.int (frT a b), .int (frB a b)]) → Q (.ref p) H'
def t_L_lowest (P : Program) (w : World) (K : PySem.W.Frag) (mg : Str → Option Value) (base : Heap) : TS := tSeq (tSetK 2 (tCall (sp_L_divisor) [] E0 (tCons (tV 0) (tCons (tV 1) (tNil))))) (tRet (tTup1 (tCons (tOp qDiv (tV 0) (tV 2)) (tCons (tOp qDiv (tV 1) (tV 2)) (tNil)))))
theorem der_L_lowest {P : Program} {w : World} {K : PySem.W.Frag} {mg : Str → Option Value} {base : Heap} (T : TX w K mg) (C_L_divisor : Fn P w K mg base CX0 1 "_law_divisor" (sp_L_divisor)) {f : Addr} {cdv : Value} {A : Around} {outer : List Env} {s : Shared} {H : Hp} {E : XK} (hr : Room 1 (A.deeper (envOfC "_law_lowest" (defScope s_L_lowest) s.heap.objs.size f cdv))) :
    PSs (cxOf CX0 P w K mg base N_L_lowest "_law_lowest" (defScope s_L_lowest) f cdv A outer s H E).nox (defBody s_L_lowest) (t_L_lowest P w K mg base) :=
  pss_cons (sSetK (i := 2) sc_L_lowest.nd rfl nl_L_lowest__law_many (fCall C_L_divisor (hr.mono (by decide)) ng_L_lowest__law_divisor pass0 (aCons (fV 0 nm_L_lowest__law_top rfl) (aCons (fV 1 nm_L_lowest__law_bottom rfl) (pa_nil) rfl) rfl) rfl) rfl (.inl rfl)) (pss_one (ps_ret (fTup (aCons (pe_op oDiv (fV 0 nm_L_lowest__law_top rfl) (fV 2 nm_L_lowest__law_many rfl)) (aCons (pe_op oDiv (fV 1 nm_L_lowest__law_bottom rfl) (fV 2 nm_L_lowest__law_many rfl)) (pa_nil) rfl) rfl))))
theorem rd_L_lowest (T : TX w K mg) (vs : List V) (H : Hp) (Q : VK) (E : XK) (h : sp_L_lowest vs H Q E) : t_L_lowest P w K mg base { nx := fun _ H' => Q .non H', rt := Q } (start N_L_lowest vs) H := by
  obtain ⟨a, b, rfl, h0, h1, q⟩ := h
  refine ⟨a, b, rfl, by omega, ?_⟩
  exact ⟨(gcd_small h0 h1).1, (gcd_small h0 h1).2, l100 rfl, fun p H' hp e h => q p H' hp e h⟩
theorem ok_L_lowest {P : Program} {w : World} {K : PySem.W.Frag} {mg : Str → Option Value} {base : Heap} (T : TX w K mg) : Fn P w K mg base CX0 2 "_law_lowest" (sp_L_lowest) := by
  obtain ⟨fd, F⟩ := T.d_L_lowest
  refine ⟨_, fd, A_L_lowest, T.g_L_lowest, F.kp, fnD F sc_L_lowest (fun vs H Q E h => ?_) (fun cdv A outer s H vs Q E hr h => ⟨_, PSs.nox (der_L_lowest T (ok_L_divisor T) hr), rd_L_lowest T vs H Q E h⟩), F.bindsN fun _ _ _ _ _ _ us hl => match us, hl with | [_, _], _ => rfl⟩
  obtain ⟨_, _, rfl, _⟩ := h
  rfl
def sp_P_fraction : Sp := sp_L_lowest
def t_P_fraction (P : Program) (w : World) (K : PySem.W.Frag) (mg : Str → Option Value) (base : Heap) : TS := tSeq (tIfS (tOr (tNot (tB1 (tCall (sp_L_whole) [] E0 (tCons (tV 0) (tNil))))) (tOr (tNot (tB1 (tCall (sp_L_whole) [] E0 (tCons (tV 1) (tNil))))) (tB1 (tOp (rEq1) (tV 1) (tC (.int 0)))))) (tNever) (tNext)) (tSeq (tSetK 2 (tCall (sp_P_divisor_of) [] E0 (tCons (tV 0) (tCons (tV 1) (tNil))))) (tCut (tIfS (tB1 (tOp (rCmp fun i j => decide (i < j)) (tV 1) (tC (.int 0)))) (tSetK 2 (tUn qNeg (tV 2))) (tNext)) (tRet (tTup1 (tCons (tOp qDiv (tV 0) (tV 2)) (tCons (tOp qDiv (tV 1) (tV 2)) (tNil)))))))
theorem der_P_fraction {P : Program} {w : World} {K : PySem.W.Frag} {mg : Str → Option Value} {base : Heap} (T : TX w K mg) (C_P_is_whole : Fn P w K mg base CX0 1 "is_whole" (sp_L_whole)) (C_P_divisor_of : Fn P w K mg base CX0 1 "divisor_of" (sp_P_divisor_of)) {f : Addr} {cdv : Value} {A : Around} {outer : List Env} {s : Shared} {H : Hp} {E : XK} (hr : Room 1 (A.deeper (envOfC "fraction" (defScope s_P_fraction) s.heap.objs.size f cdv))) :
    PSs (cxOf CX0 P w K mg base N_P_fraction "fraction" (defScope s_P_fraction) f cdv A outer s H E).nox (defBody s_P_fraction) (t_P_fraction P w K mg base) :=
  pss_cons (ps_if (PW.pt (pw_or (pt_not (tVal1 (fCall C_P_is_whole (hr.mono (by decide)) ng_P_fraction_is_whole pass0 (aCons (fV 0 nm_P_fraction_top rfl) (pa_nil) rfl) rfl) (fun _ => rfl))) (pw_or (pt_not (tVal1 (fCall C_P_is_whole (hr.mono (by decide)) ng_P_fraction_is_whole pass0 (aCons (fV 1 nm_P_fraction_bottom rfl) (pa_nil) rfl) rfl) (fun _ => rfl))) (pw_or1 (tCmp1 (oEq) (fV 1 nm_P_fraction_bottom rfl) (pe_int) (nomark _)))))) (pss_one (ps_never)) (pss_nil)) (pss_cons (sSetK (i := 2) sc_P_fraction.nd rfl nl_P_fraction_share (fCall C_P_divisor_of (hr.mono (by decide)) ng_P_fraction_divisor_of pass0 (aCons (fV 0 nm_P_fraction_top rfl) (aCons (fV 1 nm_P_fraction_bottom rfl) (pa_nil) rfl) rfl) rfl) rfl (.inl rfl)) (sCut (ps_if (tCmp1 (oLt) (fV 1 nm_P_fraction_bottom rfl) (pe_int) (nomark _)) (pss_one (sSetK (i := 2) sc_P_fraction.nd rfl nl_P_fraction_share (pe_un oNeg (fV 2 nm_P_fraction_share rfl)) rfl (.inl rfl))) (pss_nil)) (pss_one (ps_ret (fTup (aCons (pe_op oDiv (fV 0 nm_P_fraction_top rfl) (fV 2 nm_P_fraction_share rfl)) (aCons (pe_op oDiv (fV 1 nm_P_fraction_bottom rfl) (fV 2 nm_P_fraction_share rfl)) (pa_nil) rfl) rfl))))))
theorem rd_P_fraction (T : TX w K mg) (vs : List V) (H : Hp) (Q : VK) (E : XK) (h : sp_P_fraction vs H Q E) : t_P_fraction P w K mg base { nx := fun _ H' => Q .non H', rt := Q } (start N_P_fraction vs) H := by
  obtain ⟨a, b, rfl, h0, h1, q⟩ := h
  refine ⟨a, rfl, b, rfl, ?_⟩
  refine iteN (by omega) ?_
  refine ⟨a, b, rfl, ?_⟩
  refine ⟨fun σ' H' => σ' = [some (.int a), some (.int b), some (.int (Int.gcd a b : Nat))] ∧ H' = H, iteN (by omega) ⟨rfl, rfl⟩, ?_⟩
  rintro _ _ ⟨rfl, rfl⟩
  exact ⟨(gcd_small h0 h1).1, (gcd_small h0 h1).2, l100 rfl, q⟩
theorem ok_P_fraction {P : Program} {w : World} {K : PySem.W.Frag} {mg : Str → Option Value} {base : Heap} (T : TX w K mg) : Fn P w K mg base CX0 2 "fraction" (sp_P_fraction) := by
  obtain ⟨fd, F⟩ := T.d_P_fraction
  refine ⟨_, fd, A_P_fraction, T.g_P_fraction, F.kp, fnD F sc_P_fraction (fun vs H Q E h => ?_) (fun cdv A outer s H vs Q E hr h => ⟨_, PSs.nox (der_P_fraction T (ok_P_is_whole T) (ok_P_divisor_of T) hr), rd_P_fraction T vs H Q E h⟩), F.bindsN fun _ _ _ _ _ _ us hl => match us, hl with | [_, _], _ => rfl⟩
  obtain ⟨_, _, rfl, _⟩ := h
  rfl
def sp_P_grid_value : Sp := fun vs H Q _ => ∃ (k : Int) (b n : Nat), vs = [.int k, .int b, .int n] ∧ 2 ≤ b ∧ b ≤ 16 ∧ n ≤ 24 ∧ ∀ p H', H p = none → Ex H H' → H' p = some (.tup [.int (frT k ((b ^ n : Nat) : Int)), .int (frB k ((b ^ n : Nat) : Int))]) → Q (.ref p) H'
def t_P_grid_value (P : Program) (w : World) (K : PySem.W.Frag) (mg : Str → Option Value) (base : Heap) : TS := tRet (tCall (sp_P_fraction) [] E0 (tCons (tV 0) (tCons (tCall (sp_L_power) [] E0 (tCons (tV 1) (tCons (tV 2) (tNil)))) (tNil))))
theorem der_P_grid_value {P : Program} {w : World} {K : PySem.W.Frag} {mg : Str → Option Value} {base : Heap} (T : TX w K mg) (C_P_fraction : Fn P w K mg base CX0 2 "fraction" (sp_P_fraction)) (C_P_power_of : Fn P w K mg base CX0 1 "power_of" (sp_L_power)) {f : Addr} {cdv : Value} {A : Around} {outer : List Env} {s : Shared} {H : Hp} {E : XK} (hr : Room 2 (A.deeper (envOfC "grid_value" (defScope s_P_grid_value) s.heap.objs.size f cdv))) :
    PSs (cxOf CX0 P w K mg base N_P_grid_value "grid_value" (defScope s_P_grid_value) f cdv A outer s H E).nox (defBody s_P_grid_value) (t_P_grid_value P w K mg base) :=
  pss_one (ps_ret (fCall C_P_fraction (hr.mono (by decide)) ng_P_grid_value_fraction pass0 (aCons (fV 0 nm_P_grid_value_k rfl) (aCons (fCall C_P_power_of (hr.mono (by decide)) ng_P_grid_value_power_of pass0 (aCons (fV 1 nm_P_grid_value_base rfl) (aCons (fV 2 nm_P_grid_value_places rfl) (pa_nil) rfl) rfl) rfl) (pa_nil) rfl) rfl) rfl))
theorem pow_bd {b n : Nat} (hb : b ≤ 16) (hn : n ≤ 24) : b ^ n < 2 ^ 200 := by
  have h1 : b ^ n ≤ 16 ^ n := Nat.pow_le_pow_left hb n
  have h2 : 16 ^ n ≤ 16 ^ 24 := Nat.pow_le_pow_right (by decide) hn
  have h3 : 16 ^ 24 < 2 ^ 200 := by decide
  omega
theorem pow_bdI {b n : Nat} (hb : b ≤ 16) (hn : n ≤ 24) : ((b ^ n : Nat) : Int) < 2 ^ 200 := by
  have := pow_bd hb hn
  have h : ((b ^ n : Nat) : Int) < ((2 ^ 200 : Nat) : Int) := by omega
  exact h
theorem rd_P_grid_value (T : TX w K mg) (vs : List V) (H : Hp) (Q : VK) (E : XK) (h : sp_P_grid_value vs H Q E) : t_P_grid_value P w K mg base { nx := fun _ H' => Q .non H', rt := Q } (start N_P_grid_value vs) H := by
  obtain ⟨k, b, n, rfl, h2, hb, hn, q⟩ := h
  refine ⟨b, n, rfl, hb, by omega, k, _, rfl, ?_, pow_bdI hb hn, q⟩
  have : 0 < b ^ n := Nat.pow_pos (by omega)
  omega
theorem ok_P_grid_value {P : Program} {w : World} {K : PySem.W.Frag} {mg : Str → Option Value} {base : Heap} (T : TX w K mg) : Fn P w K mg base CX0 3 "grid_value" (sp_P_grid_value) := by
  obtain ⟨fd, F⟩ := T.d_P_grid_value
  refine ⟨_, fd, A_P_grid_value, T.g_P_grid_value, F.kp, fnD F sc_P_grid_value (fun vs H Q E h => ?_) (fun cdv A outer s H vs Q E hr h => ⟨_, PSs.nox (der_P_grid_value T (ok_P_fraction T) (ok_P_power_of T) hr), rd_P_grid_value T vs H Q E h⟩), F.bindsN fun _ _ _ _ _ _ us hl => match us, hl with | [_, _, _], _ => rfl⟩
  obtain ⟨_, _, _, rfl, _⟩ := h
  rfl
/-! ### _law_figures -/
def sp_L_figures : Sp := fun vs H Q _ => ∃ n b : Nat, vs = [.int n, .int b] ∧ 2 ≤ b ∧ b ≤ 16 ∧ (figs b n).length ≤ 1000 ∧ Q (.str (S (figs b n))) H
def t_L_figures (P : Program) (w : World) (K : PySem.W.Frag) (mg : Str → Option Value) (base : Heap) : TS := tSeq (tSetK 2 (tOp (rIx1 K) (tC (.str (S [48, 49, 50, 51, 52, 53, 54, 55, 56, 57, 97, 98, 99, 100, 101, 102]))) (tOp qMod (tV 0) (tV 1)))) (tSeq (tWhile (tB1 (tOp (rCmp fun i j => decide (j ≤ i)) (tV 0) (tV 1))) (tSeq (tSetK 0 (tOp qDiv (tV 0) (tV 1))) (tSetK 2 (tOp qAdd (tOp (rIx1 K) (tC (.str (S [48, 49, 50, 51, 52, 53, 54, 55, 56, 57, 97, 98, 99, 100, 101, 102]))) (tOp qMod (tV 0) (tV 1))) (tV 2))))) (tRet (tV 2)))
theorem der_L_figures {P : Program} {w : World} {K : PySem.W.Frag} {mg : Str → Option Value} {base : Heap} (T : TX w K mg) {f : Addr} {cdv : Value} {A : Around} {outer : List Env} {s : Shared} {H : Hp} {E : XK} (hr : Room 0 (A.deeper (envOfC "_law_figures" (defScope s_L_figures) s.heap.objs.size f cdv))) :
    PSs (cxOf CX0 P w K mg base N_L_figures "_law_figures" (defScope s_L_figures) f cdv A outer s H E).nox (defBody s_L_figures) (t_L_figures P w K mg base) :=
  pss_cons (sSetK (i := 2) sc_L_figures.nd rfl nl_L_figures__law_found (fIx (fS rfl) (pe_op oMod (fV 0 nm_L_figures__law_number rfl) (fV 1 nm_L_figures__law_base rfl)) (fun _ _ => rfl)) rfl (.inl rfl)) (pss_cons (ps_while PassesOwn.never (tCmp1 (oGe) (fV 0 nm_L_figures__law_number rfl) (fV 1 nm_L_figures__law_base rfl) (nomark _)) (pss_cons (sSetK (i := 0) sc_L_figures.nd rfl nl_L_figures__law_number (pe_op oDiv (fV 0 nm_L_figures__law_number rfl) (fV 1 nm_L_figures__law_base rfl)) rfl (.inl rfl)) (pss_one (sSetK (i := 2) sc_L_figures.nd rfl nl_L_figures__law_found (pe_op oAdd (fIx (fS rfl) (pe_op oMod (fV 0 nm_L_figures__law_number rfl) (fV 1 nm_L_figures__law_base rfl)) (fun _ _ => rfl)) (fV 2 nm_L_figures__law_found rfl)) rfl (.inl rfl))))) (pss_one (ps_ret (fV 2 nm_L_figures__law_found rfl))))
def hdF (b m : Nat) : List Nat := if m < b then [] else figs b (m / b)
theorem hdF_figs {b m : Nat} (hb : 2 ≤ b) : hdF b m ++ [dig (m % b)] = figs b m := by
  unfold hdF
  split
  · rename_i h
    rw [figs_lt h, Nat.mod_eq_of_lt h]
    rfl
  · rename_i h
    exact (figs_ge hb (by omega)).symm
def mu0 : L2.St → Hp → Nat := fun σ _ => match σ with
  | some (.int y) :: _ => y.toNat
  | _ => 0
theorem cdivN {b : Nat} (h2 : 2 ≤ b) (hb : b ≤ 16) (x : Int) : CDivW x (b : Int) := wide_div (b := 10) (by omega) (by omega) (by decide) (by decide)
theorem rd_L_figures (T : TX w K mg) (vs : List V) (H : Hp) (Q : VK) (E : XK) (h : sp_L_figures vs H Q E) : t_L_figures P w K mg base { nx := fun _ H' => Q .non H', rt := Q } (start N_L_figures vs) H := by
  obtain ⟨n, b, rfl, h2, hb, hl, q⟩ := h
  have hd : ∀ m : Nat, atI K45.figs16 ((m : Int) % (b : Int)) = some (dig (m % b)) := fun m => by
    have h1 : m % b < b := Nat.mod_lt _ (by omega)
    rw [← Int.natCast_emod]
    exact dig_at (by omega)
  refine ⟨by omega, _, _, rfl, l100 rfl, hd n, ?_⟩
  refine whS (fun σ H' => H' = H ∧ ∃ (m : Nat) (f : List Nat), hdF b m ++ f = figs b n ∧ σ = [some (.int m), some (.int b), some (.str (S f))]) mu0 ⟨rfl, n, _, hdF_figs h2, rfl⟩ ?_
  rintro σ H' ⟨rfl, m, f, hf, rfl⟩
  refine iteD (fun c => ?_) (fun c => ?_)
  · refine whP _ _ ?_
    refine ⟨cdivN h2 hb _, ?_⟩
    rw [← Int.natCast_ediv]
    refine ⟨by omega, _, _, rfl, l100 rfl, hd (m / b), [dig (m / b % b)], f, rfl, rfl, ?_, ?_⟩
    · have h3 := congrArg List.length hf
      rw [List.length_append] at h3
      simp
      omega
    · refine ⟨⟨rfl, m / b, dig (m / b % b) :: f, ?_, rfl⟩, ?_⟩
      · rw [← hf]
        have e : hdF b m = figs b (m / b) := if_neg (by omega)
        rw [e, ← hdF_figs h2, List.append_assoc]
        rfl
      · show (((m / b : Nat) : Int)).toNat < ((m : Int)).toNat
        have := Nat.div_lt_self (show 0 < m by omega) (show 1 < b by omega)
        omega
  · have e : hdF b m = [] := if_pos (by omega)
    rw [e, List.nil_append] at hf
    rw [← hf] at q
    exact q
theorem ok_L_figures {P : Program} {w : World} {K : PySem.W.Frag} {mg : Str → Option Value} {base : Heap} (T : TX w K mg) : Fn P w K mg base CX0 1 "_law_figures" (sp_L_figures) := by
  obtain ⟨fd, F⟩ := T.d_L_figures
  refine ⟨_, fd, A_L_figures, T.g_L_figures, F.kp, fnD F sc_L_figures (fun vs H Q E h => ?_) (fun cdv A outer s H vs Q E hr h => ⟨_, PSs.nox (der_L_figures T  hr), rd_L_figures T vs H Q E h⟩), F.bindsN fun _ _ _ _ _ _ us hl => match us, hl with | [_, _], _ => rfl⟩
  obtain ⟨_, _, rfl, _⟩ := h
  rfl
end
end K45
namespace K45
open PySem PySem.Spec PyProof.Rows L2 F
section
variable {P : Program} {w : World} {K : PySem.W.Frag} {mg : Str → Option Value} {base : Heap}
/-! ### _law_great, _law_steps -/
def sp_L_great : Sp := fun vs H Q _ => ∃ c a l : Int, vs = [.int c, .int a, .int l] ∧ 0 ≤ a ∧ a ≤ 100 ∧ 0 < l ∧ ∀ r : Int, 0 ≤ r → r < l → Q (.int r) H
def t_L_great (P : Program) (w : World) (K : PySem.W.Frag) (mg : Str → Option Value) (base : Heap) : TS := tSeq (tIfS (tAnd (tB1 (tOp (rCmp fun i j => decide (j < i)) (tV 0) (tOp qPow (tC (.int 10)) (tC (.int 18))))) (tB1 (tOp (rCmp fun i j => decide (j < i)) (tOp qShr (tV 0) (tOp qAdd (tC (.int 6000)) (tOp qMul (tC (.int 400)) (tV 1)))) (tC (.int 0))))) (tRet (tOp qMod (tOp qShr (tV 0) (tOp qAdd (tC (.int 6000)) (tOp qMul (tC (.int 400)) (tV 1)))) (tV 2))) (tNext)) (tSeq (tSetK 3 (tOp qAdd (tOp qAdd (tOp qMod (tV 0) (tOp qPow (tC (.int 10)) (tC (.int 40)))) (tOp qMul (tC (.int 314159265)) (tV 1))) (tC (.int 271828183)))) (tRet (tOp qMod (tOp qMul (tV 3) (tC (.int 618033988749894848204586834365638117720309))) (tV 2))))
theorem der_L_great {P : Program} {w : World} {K : PySem.W.Frag} {mg : Str → Option Value} {base : Heap} (T : TX w K mg) {f : Addr} {cdv : Value} {A : Around} {outer : List Env} {s : Shared} {H : Hp} {E : XK} (hr : Room 0 (A.deeper (envOfC "_law_great" (defScope s_L_great) s.heap.objs.size f cdv))) :
    PSs (cxOf CX0 P w K mg base N_L_great "_law_great" (defScope s_L_great) f cdv A outer s H E).nox (defBody s_L_great) (t_L_great P w K mg base) :=
  pss_cons (ps_if (PW.pt (pw_and (tCmp1 (oGt) (fV 0 nm_L_great__law_cell rfl) (pe_op oPow (pe_int) (pe_int)) (nomark _)) (pw_and1 (tCmp1 (oGt) (pe_op oShr (fV 0 nm_L_great__law_cell rfl) (pe_op oAdd (pe_int) (pe_op oMul (pe_int) (fV 1 nm_L_great__law_at rfl)))) (pe_int) (nomark _))))) (pss_one (ps_ret (pe_op oMod (pe_op oShr (fV 0 nm_L_great__law_cell rfl) (pe_op oAdd (pe_int) (pe_op oMul (pe_int) (fV 1 nm_L_great__law_at rfl)))) (fV 2 nm_L_great__law_limit rfl)))) (pss_nil)) (pss_cons (sSetK (i := 3) sc_L_great.nd rfl nl_L_great__law_one (pe_op oAdd (pe_op oAdd (pe_op oMod (fV 0 nm_L_great__law_cell rfl) (pe_op oPow (pe_int) (pe_int))) (pe_op oMul (pe_int) (fV 1 nm_L_great__law_at rfl))) (pe_int)) rfl (.inl rfl)) (pss_one (ps_ret (pe_op oMod (pe_op oMul (fV 3 nm_L_great__law_one rfl) (pe_int)) (fV 2 nm_L_great__law_limit rfl)))))
theorem rd_L_great (T : TX w K mg) (vs : List V) (H : Hp) (Q : VK) (E : XK) (h : sp_L_great vs H Q E) : t_L_great P w K mg base { nx := fun _ H' => Q .non H', rt := Q } (start N_L_great vs) H := by
  obtain ⟨c, a, l, rfl, h0, h1, hl, q⟩ := h
  have z1 := Int.emod_nonneg c (show (10 ^ 40 : Int) ≠ 0 by decide)
  have z2 := Int.emod_lt_of_pos c (show (0 : Int) < 10 ^ 40 by decide)
  refine ifP (p := 10 ^ 18 < c ∧ 0 < c / 2 ^ (6000 + 400 * a).toNat) (fun Q' q' => andP q' (fun Q' q' => ⟨⟨by decide, by decide, by decide⟩, q'⟩) fun a Q' q' => ⟨.inl (.inl ⟨by decide, by decide⟩), by omega, q'⟩) (fun _ => ?_) (fun _ => ?_)
  · exact ⟨.inl (.inl ⟨by decide, by decide⟩), by omega, hl, q _ (Int.emod_nonneg _ (by omega)) (Int.emod_lt_of_pos _ hl)⟩
  · refine ⟨⟨by decide, by decide, by decide⟩, by decide, .inl (.inl ⟨by decide, by decide⟩), .inr ?_, hl, q _ (Int.emod_nonneg _ (by omega)) (Int.emod_lt_of_pos _ hl)⟩
    refine wide_mul (a := 200) (b := 200) ?_ (by decide) (by decide) (by decide) (by decide)
    show (c % 10 ^ 40 + 314159265 * a + 271828183).natAbs < 2 ^ 200
    omega
theorem ok_L_great {P : Program} {w : World} {K : PySem.W.Frag} {mg : Str → Option Value} {base : Heap} (T : TX w K mg) : Fn P w K mg base CX0 1 "_law_great" (sp_L_great) := by
  obtain ⟨fd, F⟩ := T.d_L_great
  refine ⟨_, fd, A_L_great, T.g_L_great, F.kp, fnD F sc_L_great (fun vs H Q E h => ?_) (fun cdv A outer s H vs Q E hr h => ⟨_, PSs.nox (der_L_great T  hr), rd_L_great T vs H Q E h⟩), F.bindsN fun _ _ _ _ _ _ us hl => match us, hl with | [_, _, _], _ => rfl⟩
  obtain ⟨_, _, _, rfl, _⟩ := h
  rfl
def sp_L_steps : Sp := fun vs H Q _ => ∃ c l : Int, vs = [.int c, .int l] ∧ 2 ≤ l ∧ l < 2 ^ 200 ∧ ∀ (r : Int) H', Ex H H' → (r.natAbs : Int) < l → Q (.int r) H'
def t_L_steps (P : Program) (w : World) (K : PySem.W.Frag) (mg : Str → Option Value) (base : Heap) : TS := tSeq (tSetK 2 (tCall (sp_L_pick) [] E0 (tCons (tV 0) (tCons (tC (.int 80)) (tCons (tC (.int 6)) (tNil)))))) (tSeq (tSetK 3 (tCall (sp_L_great) [] E0 (tCons (tV 0) (tCons (tC (.int 0)) (tCons (tV 1) (tNil)))))) (tCut (tIfS (tB1 (tOp (rEq1) (tV 2) (tC (.int 0)))) (tSetK 3 (tOp (rIx1 K) (tLst1 (tCons (tC (.int 0)) (tCons (tC (.int 1)) (tCons (tOp qSub (tV 1) (tC (.int 1))) (tCons (tOp qDiv (tV 1) (tC (.int 2))) (tNil)))))) (tCall (sp_L_pick) [] E0 (tCons (tV 0) (tCons (tC (.int 81)) (tCons (tC (.int 4)) (tNil))))))) (tNext)) (tCut (tIfS (tB1 (tOp (rEq1) (tV 2) (tC (.int 1)))) (tSetK 3 (tOp qMod (tCall (sp_L_pick) [] E0 (tCons (tV 0) (tCons (tC (.int 82)) (tCons (tC (.int 300)) (tNil))))) (tV 1))) (tNext)) (tCut (tIfS (tB1 (tOp (rEq1) (tV 2) (tC (.int 2)))) (tSetK 3 (tOp qMod (tOp qMod (tV 3) (tC (.int 100000))) (tV 1))) (tNext)) (tRet (tOp qMul (tV 3) (tOp (rIx1 K) (tLst1 (tCons (tC (.int 1)) (tCons (tUn qNeg (tC (.int 1))) (tNil)))) (tCall (sp_L_pick) [] E0 (tCons (tV 0) (tCons (tC (.int 83)) (tCons (tC (.int 2)) (tNil))))))))))))
theorem der_L_steps {P : Program} {w : World} {K : PySem.W.Frag} {mg : Str → Option Value} {base : Heap} (T : TX w K mg) (C_L_pick : Fn P w K mg base CX0 1 "_law_pick" (sp_L_pick)) (C_L_great : Fn P w K mg base CX0 1 "_law_great" (sp_L_great)) {f : Addr} {cdv : Value} {A : Around} {outer : List Env} {s : Shared} {H : Hp} {E : XK} (hr : Room 1 (A.deeper (envOfC "_law_steps" (defScope s_L_steps) s.heap.objs.size f cdv))) :
    PSs (cxOf CX0 P w K mg base N_L_steps "_law_steps" (defScope s_L_steps) f cdv A outer s H E).nox (defBody s_L_steps) (t_L_steps P w K mg base) :=
  pss_cons (sSetK (i := 2) sc_L_steps.nd rfl nl_L_steps__law_way (fCall C_L_pick (hr.mono (by decide)) ng_L_steps__law_pick pass0 (aCons (fV 0 nm_L_steps__law_cell rfl) (aCons (pe_int) (aCons (pe_int) (pa_nil) rfl) rfl) rfl) rfl) rfl (.inl rfl)) (pss_cons (sSetK (i := 3) sc_L_steps.nd rfl nl_L_steps__law_number (fCall C_L_great (hr.mono (by decide)) ng_L_steps__law_great pass0 (aCons (fV 0 nm_L_steps__law_cell rfl) (aCons (pe_int) (aCons (fV 1 nm_L_steps__law_limit rfl) (pa_nil) rfl) rfl) rfl) rfl) rfl (.inl rfl)) (sCut (ps_if (tCmp1 (oEq) (fV 2 nm_L_steps__law_way rfl) (pe_int) (nomark _)) (pss_one (sSetK (i := 3) sc_L_steps.nd rfl nl_L_steps__law_number (fIx (fLst (aCons (pe_int) (aCons (pe_int) (aCons (pe_op oSub (fV 1 nm_L_steps__law_limit rfl) (pe_int)) (aCons (pe_op oDiv (fV 1 nm_L_steps__law_limit rfl) (pe_int)) (pa_nil) rfl) rfl) rfl) rfl)) (fCall C_L_pick (hr.mono (by decide)) ng_L_steps__law_pick pass0 (aCons (fV 0 nm_L_steps__law_cell rfl) (aCons (pe_int) (aCons (pe_int) (pa_nil) rfl) rfl) rfl) rfl) (fun _ _ => rfl)) rfl (.inl rfl))) (pss_nil)) (sCut (ps_if (tCmp1 (oEq) (fV 2 nm_L_steps__law_way rfl) (pe_int) (nomark _)) (pss_one (sSetK (i := 3) sc_L_steps.nd rfl nl_L_steps__law_number (pe_op oMod (fCall C_L_pick (hr.mono (by decide)) ng_L_steps__law_pick pass0 (aCons (fV 0 nm_L_steps__law_cell rfl) (aCons (pe_int) (aCons (pe_int) (pa_nil) rfl) rfl) rfl) rfl) (fV 1 nm_L_steps__law_limit rfl)) rfl (.inl rfl))) (pss_nil)) (sCut (ps_if (tCmp1 (oEq) (fV 2 nm_L_steps__law_way rfl) (pe_int) (nomark _)) (pss_one (sSetK (i := 3) sc_L_steps.nd rfl nl_L_steps__law_number (pe_op oMod (pe_op oMod (fV 3 nm_L_steps__law_number rfl) (pe_int)) (fV 1 nm_L_steps__law_limit rfl)) rfl (.inl rfl))) (pss_nil)) (pss_one (ps_ret (pe_op oMul (fV 3 nm_L_steps__law_number rfl) (fIx (fLst (aCons (pe_int) (aCons (pe_un oNeg (pe_int)) (pa_nil) rfl) rfl)) (fCall C_L_pick (hr.mono (by decide)) ng_L_steps__law_pick pass0 (aCons (fV 0 nm_L_steps__law_cell rfl) (aCons (pe_int) (aCons (pe_int) (pa_nil) rfl) rfl) rfl) rfl) (fun _ _ => rfl)))))))))
theorem atI_pickV {l : List V} {c s : Int} {n : Int} (hn : n = (l.length : Nat)) (h : 0 < l.length) : ∃ z, atI l (pick c s n) = some z ∧ z ∈ l := by
  subst hn
  have h1 := pick_lt c s (m := (l.length : Nat)) (by omega)
  obtain ⟨k, hk⟩ : ∃ k : Nat, pick c s (l.length : Nat) = k := ⟨(pick c s (l.length : Nat)).toNat, by omega⟩
  rw [hk] at h1 ⊢
  have h2 : k < l.length := by omega
  exact ⟨l[k], atI_nat (List.getElem?_eq_getElem h2), List.getElem_mem h2⟩
theorem rd_L_steps (T : TX w K mg) (vs : List V) (H : Hp) (Q : VK) (E : XK) (h : sp_L_steps vs H Q E) : t_L_steps P w K mg base { nx := fun _ H' => Q .non H', rt := Q } (start N_L_steps vs) H := by
  obtain ⟨c, l, rfl, h0, h1, q⟩ := h
  refine ⟨_, _, _, rfl, by decide, by decide, by decide, ?_⟩
  refine ⟨_, _, _, rfl, by decide, by decide, by omega, fun r r0 r1 => ?_⟩
  refine ⟨fun σ' H' => Ex H H' ∧ ∃ r : Int, 0 ≤ r ∧ r < l ∧ σ' = [some (.int c), some (.int l), some (.int (pick c 80 6)), some (.int r)], ?_, ?_⟩
  · refine iteD (fun a => ?_) (fun a => ⟨Ex.refl _, r, r0, r1, rfl⟩)
    refine ⟨⟨by decide, by decide⟩, l100 rfl, fun p H1 hp e1 h => ?_⟩
    refine ⟨_, _, _, rfl, by decide, by decide, by decide, ?_⟩
    obtain ⟨v, hv, hm⟩ := atI_pickV (l := [.int 0, .int 1, .int (l - 1), .int (l / 2)]) (c := c) (s := 81) (n := 4) rfl (by simp)
    refine ⟨_, v, .inl (SqL.of h), hv, ?_⟩
    have hm2 : v = .int 0 ∨ v = .int 1 ∨ v = .int (l - 1) ∨ v = .int (l / 2) := by simpa using hm
    obtain ⟨z, hz, z0, z1⟩ : ∃ z : Int, v = .int z ∧ 0 ≤ z ∧ z < l := by
      rcases hm2 with rfl | rfl | rfl | rfl
      · exact ⟨_, rfl, by omega, by omega⟩
      · exact ⟨_, rfl, by omega, by omega⟩
      · exact ⟨_, rfl, by omega, by omega⟩
      · exact ⟨_, rfl, by omega, by omega⟩
    subst hz
    exact ⟨e1, z, z0, z1, rfl⟩
  rintro _ H1 ⟨e1, r, r0, r1, rfl⟩
  refine ⟨fun σ' H' => Ex H H' ∧ ∃ r : Int, 0 ≤ r ∧ r < l ∧ σ' = [some (.int c), some (.int l), some (.int (pick c 80 6)), some (.int r)], ?_, ?_⟩
  · refine iteD (fun a => ?_) (fun a => ⟨e1, r, r0, r1, rfl⟩)
    refine ⟨_, _, _, rfl, by decide, by decide, by decide, by omega, ⟨e1, _, Int.emod_nonneg _ (by omega), Int.emod_lt_of_pos _ (by omega), rfl⟩⟩
  rintro _ H1 ⟨e1, r, r0, r1, rfl⟩
  refine ⟨fun σ' H' => Ex H H' ∧ ∃ r : Int, 0 ≤ r ∧ r < l ∧ σ' = [some (.int c), some (.int l), some (.int (pick c 80 6)), some (.int r)], ?_, ?_⟩
  · refine iteD (fun a => ?_) (fun a => ⟨e1, r, r0, r1, rfl⟩)
    refine ⟨by decide, by omega, ⟨e1, _, Int.emod_nonneg _ (by omega), Int.emod_lt_of_pos _ (by omega), rfl⟩⟩
  rintro _ H1 ⟨e1, r, r0, r1, rfl⟩
  refine ⟨l100 rfl, fun p H2 hp e2 h => ?_⟩
  refine ⟨_, _, _, rfl, by decide, by decide, by decide, ?_⟩
  obtain ⟨v, hv, hm⟩ := atI_pickV (l := [.int 1, .int (-1)]) (c := c) (s := 83) (n := 2) rfl (by simp)
  refine ⟨_, v, .inl (SqL.of h), hv, ?_⟩
  have hm2 : v = .int 1 ∨ v = .int (-1) := by simpa using hm
  rcases hm2 with rfl | rfl
  · refine ⟨.inl (.inr ⟨by decide, by decide⟩), q _ _ (e1.trans e2) ?_⟩
    omega
  · refine ⟨.inl (.inr ⟨by decide, by decide⟩), q _ _ (e1.trans e2) ?_⟩
    omega
theorem ok_L_steps {P : Program} {w : World} {K : PySem.W.Frag} {mg : Str → Option Value} {base : Heap} (T : TX w K mg) : Fn P w K mg base CX0 2 "_law_steps" (sp_L_steps) := by
  obtain ⟨fd, F⟩ := T.d_L_steps
  refine ⟨_, fd, A_L_steps, T.g_L_steps, F.kp, fnD F sc_L_steps (fun vs H Q E h => ?_) (fun cdv A outer s H vs Q E hr h => ⟨_, PSs.nox (der_L_steps T (ok_L_pick T) (ok_L_great T) hr), rd_L_steps T vs H Q E h⟩), F.bindsN fun _ _ _ _ _ _ us hl => match us, hl with | [_, _], _ => rfl⟩
  obtain ⟨_, _, rfl, _⟩ := h
  rfl
/-! ### _law_word -/
def sp_L_word : Sp := fun vs H Q _ => ∃ (c : Int) (l : List Nat) (n : Nat), vs = [.int c, .str (S l), .int n] ∧ 0 < l.length ∧ l.length ≤ 1000 ∧ n ≤ 100 ∧ ∀ (x : List Nat) H', Ex H H' → x.length = n → (∀ c ∈ x, c ∈ l) → Q (.str (S x)) H'
def t_L_word (P : Program) (w : World) (K : PySem.W.Frag) (mg : Str → Option Value) (base : Heap) : TS := tRet (tM1 (rJoin1 K) (tC (.str (S []))) (tLc (iRng1 (tCons (tV 2) (tNil))) (gName 3) (tYes) (tOp (rIx1 K) (tV 1) (tCall (sp_L_pick) [] E0 (tCons (tV 0) (tCons (tOp qAdd (tC (.int 200)) (tV 3)) (tCons (tCB (rLen1 K) (tCons (tV 1) (tNil))) (tNil)))))) [3]))
theorem der_L_word {P : Program} {w : World} {K : PySem.W.Frag} {mg : Str → Option Value} {base : Heap} (T : TX w K mg) (C_L_pick : Fn P w K mg base CX0 1 "_law_pick" (sp_L_pick)) {f : Addr} {cdv : Value} {A : Around} {outer : List Env} {s : Shared} {H : Hp} {E : XK} (hr : Room 1 (A.deeper (envOfC "_law_word" (defScope s_L_word) s.heap.objs.size f cdv))) :
    PSs (cxOf CX0 P w K mg base N_L_word "_law_word" (defScope s_L_word) f cdv A outer s H E).nox (defBody s_L_word) (t_L_word P w K mg base) :=
  pss_one (ps_ret (fM1 PySem.F.slot_str_join PySem.F.type_str_join mJoin (fS rfl) (pe_lc (own := [("_law_k", 3)]) (g := gName 3) rfl sc_L_word.nd (pi_range1 (ng_L_word_range).gl T.b_range (aCons (fV 2 nm_L_word__law_size rfl) (pa_nil) rfl)) (blkOk_by (N := N_L_word) (sc := defScope s_L_word) (by decide +kernel)) (fun _ _ _ _ _ => gN sc_L_word.nd rfl (nl_of (by kernel_rfl)) (.inr (by kernel_rfl))) (fun _ _ _ _ _ => pts_nil) (fun _ _ _ _ _ => fIx (fV 1 (nm_of (by kernel_rfl)) rfl) (fCall C_L_pick (hr.mono (by decide)) (ng_of (by kernel_rfl)) pass0 (aCons (fV 0 (nm_of (by kernel_rfl)) rfl) (aCons (pe_op oAdd (pe_int) (fV 3 (nm_of (by kernel_rfl)) rfl)) (aCons (fB cLen (ng_of (by kernel_rfl)) T.b_len bb_len (aCons (fV 1 (nm_of (by kernel_rfl)) rfl) (pa_nil) rfl) rfl) (pa_nil) rfl) rfl) rfl) rfl) (fun _ _ => rfl))) rfl rfl rfl))
theorem rd_L_word (T : TX w K mg) (vs : List V) (H : Hp) (Q : VK) (E : XK) (h : sp_L_word vs H Q E) : t_L_word P w K mg base { nx := fun _ H' => Q .non H', rt := Q } (start N_L_word vs) H := by
  obtain ⟨c, l, n, rfl, h0, h1, hn, q⟩ := h
  refine ⟨⟨_, rfl⟩, _, rfl, by omega, by omega, fun D hD => lc_range (lo := 0) (n := n) (fun i H' => Ex H H' ∧ ∃ xs : List Nat, xs.length = i ∧ (∀ c ∈ xs, c ∈ l) ∧ H' D = some (.lst (xs.map fun z => V.str (S [z])))) ⟨Ex.new hD, [], rfl, by simp, upd_same⟩ ?_ ?_⟩
  · rintro i H' hi ⟨e1, xs, hx, hm, hd⟩
    refine ⟨rfl, ?_⟩
    refine ⟨_, rfl, by omega, _, _, _, rfl, by omega, by omega, by omega, ?_⟩
    obtain ⟨z, hz⟩ := atI_pick (l := l) (c := c) (s := 200 + (0 + (i : Int))) h0
    refine ⟨_, z, rfl, by omega, hz, _, hd, ?_, ?_⟩
    · rw [List.length_map]
      exact szT (by omega)
    · refine ⟨Ex.mut e1 hD, xs ++ [z], by simp [hx], ?_, ?_⟩
      · intro y hy
        rcases List.mem_append.mp hy with hy | hy
        · exact hm y hy
        · rw [List.mem_singleton.mp hy]
          exact atI_mem hz
      · rw [upd_same, List.map_append]
        rfl
  · rintro H' ⟨e1, xs, hx, hm, hd⟩
    have e : (xs.map fun z => V.str (S [z])) = ((xs.map fun z => [z]).map fun l => V.str (S l)) := by
      rw [List.map_map]
      rfl
    have ef : (xs.map fun z => [z]).flatten = xs := by
      clear hx hm hd e
      induction xs with
      | nil => rfl
      | cons a r ih => simp [ih]
    refine ⟨D, _, rfl, rfl, SqL.of (by rw [hd, e]), ?_, ?_⟩
    · rw [ef]
      omega
    · rw [ef]
      exact q xs H' e1 hx hm
theorem ok_L_word {P : Program} {w : World} {K : PySem.W.Frag} {mg : Str → Option Value} {base : Heap} (T : TX w K mg) : Fn P w K mg base CX0 2 "_law_word" (sp_L_word) := by
  obtain ⟨fd, F⟩ := T.d_L_word
  refine ⟨_, fd, A_L_word, T.g_L_word, F.kp, fnD F sc_L_word (fun vs H Q E h => ?_) (fun cdv A outer s H vs Q E hr h => ⟨_, PSs.nox (der_L_word T (ok_L_pick T) hr), rd_L_word T vs H Q E h⟩), F.bindsN fun _ _ _ _ _ _ us hl => match us, hl with | [_, _, _], _ => rfl⟩
  obtain ⟨_, _, _, rfl, _⟩ := h
  rfl
end
end K45
namespace K45
open PySem PySem.Spec PyProof.Rows L2 F
/-! ### specs as data -/
structure NS where
  fig : Nat
  pl : Nat
  base : Nat
  sty : List Nat
  size : Nat
  mark : Nat
  point : Nat
  way : List Nat
  width : Nat
  fill : Nat
  side : List Nat
  strict : Bool
abbrev sRight : List Nat := [114, 105, 103, 104, 116]
abbrev sLeft : List Nat := [108, 101, 102, 116]
abbrev sMiddle : List Nat := [109, 105, 100, 100, 108, 101]
abbrev sInside : List Nat := [105, 110, 115, 105, 100, 101]
def sides4 : List (List Nat) := [sRight, sLeft, sMiddle, sInside]
def sides3 : List (List Nat) := [sLeft, sRight, sMiddle]
structure NS.Ok (n : NS) : Prop where
  f1 : 1 ≤ n.fig
  f2 : n.fig ≤ 12
  p : n.pl ≤ 6
  b1 : 2 ≤ n.base
  b2 : n.base ≤ 16
  st : n.sty ∈ styles
  sz : n.size ≤ 9
  wd : n.width ≤ 40
  sd : n.side ∈ sides4
abbrev sNumber : List Nat := [110, 117, 109, 98, 101, 114]
abbrev sWord : List Nat := [119, 111, 114, 100]
abbrev sChoice : List Nat := [99, 104, 111, 105, 99, 101]
def NS.vals (n : NS) : List V := [.str (S sNumber), .int n.fig, .int n.pl, .int n.base, .str (S n.sty), .int n.size, .str (S [n.mark]), .str (S [n.point]), .str (S n.way), .int n.width, .str (S [n.fill]), .str (S n.side), .bl n.strict]
def ways5 : List (List Nat) := [[100, 111, 119, 110], [117, 112], [99, 117, 116], [110, 101, 97, 114], [101, 118, 101, 110]]
structure WS where
  signs : List Nat
  least : Nat
  most : Nat
  width : Nat
  fill : Nat
  side : List Nat
  strict : Bool
structure WS.Ok (n : WS) : Prop where
  s1 : 0 < n.signs.length
  s2 : n.signs.length ≤ 94
  l1 : n.least ≤ n.most
  l2 : n.most ≤ 24
  wd : n.width ≤ 40
  sd : n.side ∈ sides3
  sb : ∀ c ∈ n.signs, c < 1000
  fb : n.fill < 1000
def WS.vals (n : WS) : List V := [.str (S sWord), .str (S n.signs), .int n.least, .int n.most, .int n.width, .str (S [n.fill]), .str (S n.side), .bl n.strict]
structure CS where
  names : List (List Nat)
  width : Nat
  fill : Nat
  side : List Nat
  strict : Bool
structure CS.Ok (n : CS) : Prop where
  n1 : 0 < n.names.length
  n2 : n.names.length ≤ 12
  nd : n.names.Nodup
  l1 : ∀ x ∈ n.names, 0 < x.length ∧ x.length ≤ 12
  wd : n.width ≤ 40
  sd : n.side ∈ sides3
  nb : ∀ x ∈ n.names, ∀ c ∈ x, c < 1000
def CS.vals (n : CS) (a : Addr) : List V := [.str (S sChoice), .ref a, .int n.width, .str (S [n.fill]), .str (S n.side), .bl n.strict]
abbrev sVs (l : List (List Nat)) : List V := l.map fun l => V.str (S l)
theorem at0 {α : Type} {x : α} {r : List α} : atI (x :: r) 0 = some x := atI_nat (j := 0) rfl
theorem at1 {α : Type} {x y : α} {r : List α} : atI (x :: y :: r) 1 = some y := atI_nat (j := 1) rfl
theorem at2 {α : Type} {x y z : α} {r : List α} : atI (x :: y :: z :: r) 2 = some z := atI_nat (j := 2) rfl
theorem minP {a b c : Int} {H : Hp} {Q : VK} (h : min a b = c) (q : Q (.int c) H) : rMin1 [.int a, .int b] H Q := by
  subst h
  exact q
theorem pickN (c s : Int) {m : Int} (h : 0 < m) : ∃ k : Nat, pick c s m = k ∧ (k : Int) < m := by
  have h1 := pick_lt c s h
  exact ⟨(pick c s m).toNat, by omega, by omega⟩
section
variable {P : Program} {w : World} {K : PySem.W.Frag} {mg : Str → Option Value} {base : Heap}
/-! ### _law_number_spec -/
def sp_L_number_spec : Sp := fun vs H Q _ => ∃ c o : Int, vs = [.int c, .int o, .int 0] ∧ ∀ p H' (n : NS), n.Ok → Ex H H' → H' p = some (.tup n.vals) → Q (.ref p) H'
def t_L_number_spec (P : Program) (w : World) (K : PySem.W.Frag) (mg : Str → Option Value) (base : Heap) : TS := tSeq (tSetK 3 (tOp qAdd (tC (.int 1)) (tCall (sp_L_pick) [] E0 (tCons (tV 0) (tCons (tC (.int 1)) (tCons (tOp (rIx1 K) (tLst1 (tCons (tC (.int 12)) (tCons (tC (.int 2)) (tNil)))) (tV 2)) (tNil))))))) (tSeq (tSetK 4 (tCall (sp_L_pick) [] E0 (tCons (tV 0) (tCons (tC (.int 2)) (tCons (tOp (rIx1 K) (tLst1 (tCons (tC (.int 7)) (tCons (tC (.int 2)) (tNil)))) (tV 2)) (tNil)))))) (tSeq (tSetK 5 (tOp (rIx1 K) (tLst1 (tCons (tC (.int 10)) (tCons (tC (.int 2)) (tCons (tOp (rIx1 K) (tLst1 (tCons (tC (.int 16)) (tCons (tC (.int 3)) (tNil)))) (tV 2)) (tCons (tOp (rIx1 K) (tLst1 (tCons (tOp qAdd (tC (.int 2)) (tCall (sp_L_pick) [] E0 (tCons (tV 0) (tCons (tC (.int 3)) (tCons (tC (.int 15)) (tNil)))))) (tCons (tC (.int 10)) (tNil)))) (tV 2)) (tNil)))))) (tCall (sp_L_pick) [] E0 (tCons (tV 0) (tCons (tC (.int 4)) (tCons (tC (.int 4)) (tNil))))))) (tSeq (tSetK 6 (tOp (rIx1 K) (tLst1 (tCons (tC (.str (S [109, 105, 110, 117, 115]))) (tCons (tC (.str (S [112, 108, 117, 115]))) (tCons (tC (.str (S [98, 108, 97, 110, 107]))) (tCons (tC (.str (S [98, 114, 97, 99, 107, 101, 116, 115]))) (tCons (tC (.str (S [98, 101, 104, 105, 110, 100]))) (tNil))))))) (tCall (sp_L_pick) [] E0 (tCons (tV 0) (tCons (tC (.int 5)) (tCons (tC (.int 5)) (tNil))))))) (tSeq (tSetK 7 (tOp (rIx1 K) (tLst1 (tCons (tC (.int 0)) (tCons (tC (.int 3)) (tCons (tOp qAdd (tC (.int 1)) (tCall (sp_L_pick) [] E0 (tCons (tV 0) (tCons (tC (.int 6)) (tCons (tC (.int 9)) (tNil)))))) (tNil))))) (tCall (sp_L_pick) [] E0 (tCons (tV 0) (tCons (tC (.int 7)) (tCons (tC (.int 3)) (tNil))))))) (tSeq (tSetK 8 (tOp (rIx1 K) (tLst1 (tCons (tC (.str (S [100, 111, 119, 110]))) (tCons (tC (.str (S [117, 112]))) (tCons (tC (.str (S [99, 117, 116]))) (tCons (tC (.str (S [110, 101, 97, 114]))) (tCons (tC (.str (S [101, 118, 101, 110]))) (tNil))))))) (tCall (sp_L_pick) [] E0 (tCons (tV 0) (tCons (tC (.int 8)) (tCons (tC (.int 5)) (tNil))))))) (tSeq (tSetK 9 (tTup1 (tCons (tCall (sp_L_sign) [] E0 (tCons (tV 1) (tCons (tC (.int 10)) (tNil)))) (tCons (tCall (sp_L_sign) [] E0 (tCons (tV 1) (tCons (tC (.int 20)) (tNil)))) (tCons (tCall (sp_L_sign) [] E0 (tCons (tV 1) (tCons (tC (.int 30)) (tNil)))) (tNil)))))) (tSeq (tSetK 10 (tLst1 (tCons (tC (.int 0)) (tCons (tOp qAdd (tC (.int 1)) (tCall (sp_L_pick) [] E0 (tCons (tV 1) (tCons (tC (.int 40)) (tCons (tOp (rIx1 K) (tLst1 (tCons (tC (.int 40)) (tCons (tC (.int 5)) (tNil)))) (tV 2)) (tNil)))))) (tCons (tOp qAdd (tC (.int 3)) (tCall (sp_L_pick) [] E0 (tCons (tV 1) (tCons (tC (.int 41)) (tCons (tOp (rIx1 K) (tLst1 (tCons (tC (.int 8)) (tCons (tC (.int 3)) (tNil)))) (tV 2)) (tNil)))))) (tNil)))))) (tSeq (tSetK 11 (tOp (rIx1 K) (tV 10) (tCall (sp_L_pick) [] E0 (tCons (tV 1) (tCons (tC (.int 42)) (tCons (tC (.int 3)) (tNil))))))) (tSeq (tSetK 12 (tOp (rIx1 K) (tLst1 (tCons (tC (.str (S [114, 105, 103, 104, 116]))) (tCons (tC (.str (S [108, 101, 102, 116]))) (tCons (tC (.str (S [109, 105, 100, 100, 108, 101]))) (tCons (tC (.str (S [105, 110, 115, 105, 100, 101]))) (tNil)))))) (tCall (sp_L_pick) [] E0 (tCons (tV 1) (tCons (tC (.int 43)) (tCons (tC (.int 4)) (tNil))))))) (tSeq (tSetK 13 (tOp (rEq1) (tCall (sp_L_pick) [] E0 (tCons (tV 1) (tCons (tC (.int 44)) (tCons (tC (.int 3)) (tNil))))) (tC (.int 0)))) (tRet (tTup1 (tCons (tC (.str (S [110, 117, 109, 98, 101, 114]))) (tCons (tV 3) (tCons (tV 4) (tCons (tV 5) (tCons (tV 6) (tCons (tV 7) (tCons (tOp (rIx1 K) (tV 9) (tC (.int 0))) (tCons (tOp (rIx1 K) (tV 9) (tC (.int 1))) (tCons (tV 8) (tCons (tV 11) (tCons (tOp (rIx1 K) (tV 9) (tC (.int 2))) (tCons (tV 12) (tCons (tV 13) (tNil))))))))))))))))))))))))))
theorem der_L_number_spec {P : Program} {w : World} {K : PySem.W.Frag} {mg : Str → Option Value} {base : Heap} (T : TX w K mg) (C_L_pick : Fn P w K mg base CX0 1 "_law_pick" (sp_L_pick)) (C_L_sign : Fn P w K mg base CX0 2 "_law_sign" (sp_L_sign)) {f : Addr} {cdv : Value} {A : Around} {outer : List Env} {s : Shared} {H : Hp} {E : XK} (hr : Room 2 (A.deeper (envOfC "_law_number_spec" (defScope s_L_number_spec) s.heap.objs.size f cdv))) :
    PSs (cxOf CX0 P w K mg base N_L_number_spec "_law_number_spec" (defScope s_L_number_spec) f cdv A outer s H E).nox (defBody s_L_number_spec) (t_L_number_spec P w K mg base) :=
  pss_cons (sSetK (i := 3) sc_L_number_spec.nd rfl nl_L_number_spec__law_figures_here (pe_op oAdd (pe_int) (fCall C_L_pick (hr.mono (by decide)) ng_L_number_spec__law_pick pass0 (aCons (fV 0 nm_L_number_spec__law_cell rfl) (aCons (pe_int) (aCons (fIx (fLst (aCons (pe_int) (aCons (pe_int) (pa_nil) rfl) rfl)) (fV 2 nm_L_number_spec__law_small rfl) (fun _ _ => rfl)) (pa_nil) rfl) rfl) rfl) rfl)) rfl (.inl rfl)) (pss_cons (sSetK (i := 4) sc_L_number_spec.nd rfl nl_L_number_spec__law_places (fCall C_L_pick (hr.mono (by decide)) ng_L_number_spec__law_pick pass0 (aCons (fV 0 nm_L_number_spec__law_cell rfl) (aCons (pe_int) (aCons (fIx (fLst (aCons (pe_int) (aCons (pe_int) (pa_nil) rfl) rfl)) (fV 2 nm_L_number_spec__law_small rfl) (fun _ _ => rfl)) (pa_nil) rfl) rfl) rfl) rfl) rfl (.inl rfl)) (pss_cons (sSetK (i := 5) sc_L_number_spec.nd rfl nl_L_number_spec__law_base (fIx (fLst (aCons (pe_int) (aCons (pe_int) (aCons (fIx (fLst (aCons (pe_int) (aCons (pe_int) (pa_nil) rfl) rfl)) (fV 2 nm_L_number_spec__law_small rfl) (fun _ _ => rfl)) (aCons (fIx (fLst (aCons (pe_op oAdd (pe_int) (fCall C_L_pick (hr.mono (by decide)) ng_L_number_spec__law_pick pass0 (aCons (fV 0 nm_L_number_spec__law_cell rfl) (aCons (pe_int) (aCons (pe_int) (pa_nil) rfl) rfl) rfl) rfl)) (aCons (pe_int) (pa_nil) rfl) rfl)) (fV 2 nm_L_number_spec__law_small rfl) (fun _ _ => rfl)) (pa_nil) rfl) rfl) rfl) rfl)) (fCall C_L_pick (hr.mono (by decide)) ng_L_number_spec__law_pick pass0 (aCons (fV 0 nm_L_number_spec__law_cell rfl) (aCons (pe_int) (aCons (pe_int) (pa_nil) rfl) rfl) rfl) rfl) (fun _ _ => rfl)) rfl (.inl rfl)) (pss_cons (sSetK (i := 6) sc_L_number_spec.nd rfl nl_L_number_spec__law_sign_here (fIx (fLst (aCons (fS rfl) (aCons (fS rfl) (aCons (fS rfl) (aCons (fS rfl) (aCons (fS rfl) (pa_nil) rfl) rfl) rfl) rfl) rfl)) (fCall C_L_pick (hr.mono (by decide)) ng_L_number_spec__law_pick pass0 (aCons (fV 0 nm_L_number_spec__law_cell rfl) (aCons (pe_int) (aCons (pe_int) (pa_nil) rfl) rfl) rfl) rfl) (fun _ _ => rfl)) rfl (.inl rfl)) (pss_cons (sSetK (i := 7) sc_L_number_spec.nd rfl nl_L_number_spec__law_size (fIx (fLst (aCons (pe_int) (aCons (pe_int) (aCons (pe_op oAdd (pe_int) (fCall C_L_pick (hr.mono (by decide)) ng_L_number_spec__law_pick pass0 (aCons (fV 0 nm_L_number_spec__law_cell rfl) (aCons (pe_int) (aCons (pe_int) (pa_nil) rfl) rfl) rfl) rfl)) (pa_nil) rfl) rfl) rfl)) (fCall C_L_pick (hr.mono (by decide)) ng_L_number_spec__law_pick pass0 (aCons (fV 0 nm_L_number_spec__law_cell rfl) (aCons (pe_int) (aCons (pe_int) (pa_nil) rfl) rfl) rfl) rfl) (fun _ _ => rfl)) rfl (.inl rfl)) (pss_cons (sSetK (i := 8) sc_L_number_spec.nd rfl nl_L_number_spec__law_way (fIx (fLst (aCons (fS rfl) (aCons (fS rfl) (aCons (fS rfl) (aCons (fS rfl) (aCons (fS rfl) (pa_nil) rfl) rfl) rfl) rfl) rfl)) (fCall C_L_pick (hr.mono (by decide)) ng_L_number_spec__law_pick pass0 (aCons (fV 0 nm_L_number_spec__law_cell rfl) (aCons (pe_int) (aCons (pe_int) (pa_nil) rfl) rfl) rfl) rfl) (fun _ _ => rfl)) rfl (.inl rfl)) (pss_cons (sSetK (i := 9) sc_L_number_spec.nd rfl nl_L_number_spec__law_signs_here (fTup (aCons (fCall C_L_sign (hr.mono (by decide)) ng_L_number_spec__law_sign pass0 (aCons (fV 1 nm_L_number_spec__law_other rfl) (aCons (pe_int) (pa_nil) rfl) rfl) rfl) (aCons (fCall C_L_sign (hr.mono (by decide)) ng_L_number_spec__law_sign pass0 (aCons (fV 1 nm_L_number_spec__law_other rfl) (aCons (pe_int) (pa_nil) rfl) rfl) rfl) (aCons (fCall C_L_sign (hr.mono (by decide)) ng_L_number_spec__law_sign pass0 (aCons (fV 1 nm_L_number_spec__law_other rfl) (aCons (pe_int) (pa_nil) rfl) rfl) rfl) (pa_nil) rfl) rfl) rfl)) rfl (.inl rfl)) (pss_cons (sSetK (i := 10) sc_L_number_spec.nd rfl nl_L_number_spec__law_widths (fLst (aCons (pe_int) (aCons (pe_op oAdd (pe_int) (fCall C_L_pick (hr.mono (by decide)) ng_L_number_spec__law_pick pass0 (aCons (fV 1 nm_L_number_spec__law_other rfl) (aCons (pe_int) (aCons (fIx (fLst (aCons (pe_int) (aCons (pe_int) (pa_nil) rfl) rfl)) (fV 2 nm_L_number_spec__law_small rfl) (fun _ _ => rfl)) (pa_nil) rfl) rfl) rfl) rfl)) (aCons (pe_op oAdd (pe_int) (fCall C_L_pick (hr.mono (by decide)) ng_L_number_spec__law_pick pass0 (aCons (fV 1 nm_L_number_spec__law_other rfl) (aCons (pe_int) (aCons (fIx (fLst (aCons (pe_int) (aCons (pe_int) (pa_nil) rfl) rfl)) (fV 2 nm_L_number_spec__law_small rfl) (fun _ _ => rfl)) (pa_nil) rfl) rfl) rfl) rfl)) (pa_nil) rfl) rfl) rfl)) rfl (.inl rfl)) (pss_cons (sSetK (i := 11) sc_L_number_spec.nd rfl nl_L_number_spec__law_width (fIx (fV 10 nm_L_number_spec__law_widths rfl) (fCall C_L_pick (hr.mono (by decide)) ng_L_number_spec__law_pick pass0 (aCons (fV 1 nm_L_number_spec__law_other rfl) (aCons (pe_int) (aCons (pe_int) (pa_nil) rfl) rfl) rfl) rfl) (fun _ _ => rfl)) rfl (.inl rfl)) (pss_cons (sSetK (i := 12) sc_L_number_spec.nd rfl nl_L_number_spec__law_side (fIx (fLst (aCons (fS rfl) (aCons (fS rfl) (aCons (fS rfl) (aCons (fS rfl) (pa_nil) rfl) rfl) rfl) rfl)) (fCall C_L_pick (hr.mono (by decide)) ng_L_number_spec__law_pick pass0 (aCons (fV 1 nm_L_number_spec__law_other rfl) (aCons (pe_int) (aCons (pe_int) (pa_nil) rfl) rfl) rfl) rfl) (fun _ _ => rfl)) rfl (.inl rfl)) (pss_cons (sSetK (i := 13) sc_L_number_spec.nd rfl nl_L_number_spec__law_strict (pe_cmpR (oEq) (fCall C_L_pick (hr.mono (by decide)) ng_L_number_spec__law_pick pass0 (aCons (fV 1 nm_L_number_spec__law_other rfl) (aCons (pe_int) (aCons (pe_int) (pa_nil) rfl) rfl) rfl) rfl) (pe_int) (nomark _)) rfl (.inl rfl)) (pss_one (ps_ret (fTup (aCons (fS rfl) (aCons (fV 3 nm_L_number_spec__law_figures_here rfl) (aCons (fV 4 nm_L_number_spec__law_places rfl) (aCons (fV 5 nm_L_number_spec__law_base rfl) (aCons (fV 6 nm_L_number_spec__law_sign_here rfl) (aCons (fV 7 nm_L_number_spec__law_size rfl) (aCons (fIx (fV 9 nm_L_number_spec__law_signs_here rfl) (pe_int) (fun _ _ => rfl)) (aCons (fIx (fV 9 nm_L_number_spec__law_signs_here rfl) (pe_int) (fun _ _ => rfl)) (aCons (fV 8 nm_L_number_spec__law_way rfl) (aCons (fV 11 nm_L_number_spec__law_width rfl) (aCons (fIx (fV 9 nm_L_number_spec__law_signs_here rfl) (pe_int) (fun _ _ => rfl)) (aCons (fV 12 nm_L_number_spec__law_side rfl) (aCons (fV 13 nm_L_number_spec__law_strict rfl) (pa_nil) rfl) rfl) rfl) rfl) rfl) rfl) rfl) rfl) rfl) rfl) rfl) rfl) rfl))))))))))))))
theorem rd_L_number_spec (T : TX w K mg) (vs : List V) (H : Hp) (Q : VK) (E : XK) (h : sp_L_number_spec vs H Q E) : t_L_number_spec P w K mg base { nx := fun _ H' => Q .non H', rt := Q } (start N_L_number_spec vs) H := by
  obtain ⟨c, o, rfl, q⟩ := h
  show t_L_number_spec P w K mg base _ [some (.int c), some (.int o), some (.int 0), none, none, none, none, none, none, none, none, none, none, none] H
  refine ⟨l100 rfl, fun p1 H1 _ e1 h1 => ⟨_, _, .inl (SqL.of h1), at0, _, _, _, rfl, by decide, by decide, by decide, ?_⟩⟩
  refine ⟨l100 rfl, fun p2 H2 _ e2 h2 => ⟨_, _, .inl (SqL.of h2), at0, _, _, _, rfl, by decide, by decide, by decide, ?_⟩⟩
  obtain ⟨kf, hf, hf2⟩ := pickN c 1 (m := 12) (by decide)
  obtain ⟨kp, hp, hp2⟩ := pickN c 2 (m := 7) (by decide)
  rw [hf, hp]
  refine ⟨l100 rfl, fun p3 H3 _ e3 h3 => ⟨_, _, .inl (SqL.of h3), at0, ?_⟩⟩
  refine ⟨_, _, _, rfl, by decide, by decide, by decide, ?_⟩
  obtain ⟨kb, hb, hb2⟩ := pickN c 3 (m := 15) (by decide)
  rw [hb]
  refine ⟨l100 rfl, fun p4 H4 _ e4 h4 => ⟨_, _, .inl (SqL.of h4), at0, ?_⟩⟩
  refine ⟨l100 rfl, fun p5 H5 _ e5 h5 => ?_⟩
  refine ⟨_, _, _, rfl, by decide, by decide, by decide, ?_⟩
  obtain ⟨vb, gb, mb⟩ := atI_pickV (l := [V.int 10, .int 2, .int 16, .int (2 + kb)]) (c := c) (s := 4) (n := 4) rfl (by simp)
  refine ⟨_, vb, .inl (SqL.of h5), gb, ?_⟩
  obtain ⟨b, rfl, b1, b2⟩ : ∃ b : Nat, vb = .int b ∧ 2 ≤ b ∧ b ≤ 16 := by
    have m2 : vb = V.int 10 ∨ vb = .int 2 ∨ vb = .int 16 ∨ vb = .int (2 + kb) := by simpa using mb
    rcases m2 with rfl | rfl | rfl | rfl
    · exact ⟨10, rfl, by decide, by decide⟩
    · exact ⟨2, rfl, by decide, by decide⟩
    · exact ⟨16, rfl, by decide, by decide⟩
    · exact ⟨2 + kb, rfl, by omega, by omega⟩
  refine ⟨l100 rfl, fun p6 H6 _ e6 h6 => ?_⟩
  refine ⟨_, _, _, rfl, by decide, by decide, by decide, ?_⟩
  replace h6 : H6 p6 = some (.lst (sVs styles)) := h6
  obtain ⟨vq, gs, ms⟩ := atI_pickV (l := sVs styles) (c := c) (s := 5) (n := 5) rfl (by decide)
  refine ⟨_, vq, .inl (SqL.of h6), gs, ?_⟩
  obtain ⟨sty, hst, rfl⟩ := List.mem_map.mp ms
  refine ⟨_, _, _, rfl, by decide, by decide, by decide, ?_⟩
  obtain ⟨kz, hz, hz2⟩ := pickN c 6 (m := 9) (by decide)
  rw [hz]
  refine ⟨l100 rfl, fun p7 H7 _ e7 h7 => ?_⟩
  refine ⟨_, _, _, rfl, by decide, by decide, by decide, ?_⟩
  obtain ⟨vz, gz, mz⟩ := atI_pickV (l := [V.int 0, .int 3, .int (1 + kz)]) (c := c) (s := 7) (n := 3) rfl (by simp)
  refine ⟨_, vz, .inl (SqL.of h7), gz, ?_⟩
  obtain ⟨sz, rfl, z1⟩ : ∃ b : Nat, vz = .int b ∧ b ≤ 9 := by
    have m2 : vz = V.int 0 ∨ vz = .int 3 ∨ vz = .int (1 + kz) := by simpa using mz
    rcases m2 with rfl | rfl | rfl
    · exact ⟨0, rfl, by decide⟩
    · exact ⟨3, rfl, by decide⟩
    · exact ⟨1 + kz, rfl, by omega⟩
  refine ⟨l100 rfl, fun p8 H8 _ e8 h8 => ?_⟩
  refine ⟨_, _, _, rfl, by decide, by decide, by decide, ?_⟩
  replace h8 : H8 p8 = some (.lst (sVs ways5)) := h8
  obtain ⟨vw, gw, mw⟩ := atI_pickV (l := sVs ways5) (c := c) (s := 8) (n := 5) rfl (by decide)
  refine ⟨_, vw, .inl (SqL.of h8), gw, ?_⟩
  obtain ⟨way, _, rfl⟩ := List.mem_map.mp mw
  refine ⟨_, _, rfl, by decide, by decide, fun s1 _ => ?_⟩
  refine ⟨_, _, rfl, by decide, by decide, fun s2 _ => ?_⟩
  refine ⟨_, _, rfl, by decide, by decide, fun s3 _ => ?_⟩
  refine ⟨l100 rfl, fun p9 H9 _ e9 h9 => ?_⟩
  refine ⟨l100 rfl, fun p10 H10 _ e10 h10 => ⟨_, _, .inl (SqL.of h10), at0, _, _, _, rfl, by decide, by decide, by decide, ?_⟩⟩
  refine ⟨l100 rfl, fun p11 H11 _ e11 h11 => ⟨_, _, .inl (SqL.of h11), at0, _, _, _, rfl, by decide, by decide, by decide, ?_⟩⟩
  obtain ⟨k40, h40, q40⟩ := pickN o 40 (m := 40) (by decide)
  obtain ⟨k41, h41, q41⟩ := pickN o 41 (m := 8) (by decide)
  rw [h40, h41]
  refine ⟨l100 rfl, fun p12 H12 _ e12 h12 => ?_⟩
  refine ⟨_, _, _, rfl, by decide, by decide, by decide, ?_⟩
  obtain ⟨vd, gd, md⟩ := atI_pickV (l := [V.int 0, .int (1 + k40), .int (3 + k41)]) (c := o) (s := 42) (n := 3) rfl (by simp)
  refine ⟨_, vd, .inl (SqL.of h12), gd, ?_⟩
  obtain ⟨wd, rfl, d1⟩ : ∃ b : Nat, vd = .int b ∧ b ≤ 40 := by
    have m2 : vd = V.int 0 ∨ vd = .int (1 + k40) ∨ vd = .int (3 + k41) := by simpa using md
    rcases m2 with rfl | rfl | rfl
    · exact ⟨0, rfl, by decide⟩
    · exact ⟨1 + k40, rfl, by omega⟩
    · exact ⟨3 + k41, rfl, by omega⟩
  refine ⟨l100 rfl, fun p13 H13 _ e13 h13 => ?_⟩
  refine ⟨_, _, _, rfl, by decide, by decide, by decide, ?_⟩
  replace h13 : H13 p13 = some (.lst (sVs sides4)) := h13
  obtain ⟨vi, gi, mi⟩ := atI_pickV (l := sVs sides4) (c := o) (s := 43) (n := 4) rfl (by decide)
  refine ⟨_, vi, .inl (SqL.of h13), gi, ?_⟩
  obtain ⟨side, hsd, rfl⟩ := List.mem_map.mp mi
  refine ⟨_, _, _, rfl, by decide, by decide, by decide, ?_⟩
  have e913 : Ex H9 H13 := e10.trans (e11.trans (e12.trans e13))
  have t9 := SqT.of (K := K) (e913 _ _ h9)
  refine ⟨_, _, .inr t9, at0, ?_⟩
  refine ⟨_, _, .inr t9, at1, ?_⟩
  refine ⟨_, _, .inr t9, at2, ?_⟩
  refine ⟨l100 rfl, fun p14 H14 _ e14 h14 => ?_⟩
  refine q p14 H14 ⟨1 + kf, kp, b, sty, sz, s1, s2, way, wd, s3, side, decide (pick o 44 3 = 0)⟩ ⟨?_, ?_, ?_, b1, b2, hst, z1, d1, hsd⟩ ?_ h14
  · show 1 ≤ 1 + kf
    omega
  · show 1 + kf ≤ 12
    omega
  · show kp ≤ 6
    omega
  · exact e1.trans (e2.trans (e3.trans (e4.trans (e5.trans (e6.trans (e7.trans (e8.trans (e9.trans (e913.trans e14)))))))))
theorem ok_L_number_spec {P : Program} {w : World} {K : PySem.W.Frag} {mg : Str → Option Value} {base : Heap} (T : TX w K mg) : Fn P w K mg base CX0 3 "_law_number_spec" (sp_L_number_spec) := by
  obtain ⟨fd, F⟩ := T.d_L_number_spec
  refine ⟨_, fd, A_L_number_spec, T.g_L_number_spec, F.kp, fnD F sc_L_number_spec (fun vs H Q E h => ?_) (fun cdv A outer s H vs Q E hr h => ⟨_, PSs.nox (der_L_number_spec T (ok_L_pick T) (ok_L_sign T) hr), rd_L_number_spec T vs H Q E h⟩), F.bindsN fun _ _ _ _ _ _ us hl => match us, hl with | [_, _, _], _ => rfl⟩
  obtain ⟨_, _, rfl, _⟩ := h
  rfl
/-! ### _law_word_spec -/
def sp_L_word_spec : Sp := fun vs H Q _ => ∃ c o : Int, vs = [.int c, .int o, .int 0] ∧ ∀ p H' (n : WS), n.Ok → Ex H H' → H' p = some (.tup n.vals) → Q (.ref p) H'
def t_L_word_spec (P : Program) (w : World) (K : PySem.W.Frag) (mg : Str → Option Value) (base : Heap) : TS := tSeq (tSetK 3 (tCall (sp_L_pick) [] E0 (tCons (tV 0) (tCons (tC (.int 51)) (tCons (tC (.int 94)) (tNil)))))) (tSeq (tSetK 4 (tOp qAdd (tC (.int 1)) (tCall (sp_L_pick) [] E0 (tCons (tV 0) (tCons (tC (.int 52)) (tCons (tC (.int 9)) (tNil))))))) (tSeq (tSetK 5 (tSl (rSlS1) (tStep (tCall (sp_L_signs) [] E0 tNil) (tV 3) (tV 4)) tNoPart (tPart1 (tOp qAdd (tC (.int 1)) (tCall (sp_L_pick) [] E0 (tCons (tV 0) (tCons (tC (.int 53)) (tCons (tOp (rIx1 K) (tLst1 (tCons (tC (.int 94)) (tCons (tC (.int 3)) (tNil)))) (tV 2)) (tNil))))))))) (tSeq (tSetK 6 (tCall (sp_L_pick) [] E0 (tCons (tV 1) (tCons (tC (.int 54)) (tCons (tOp (rIx1 K) (tLst1 (tCons (tC (.int 25)) (tCons (tC (.int 3)) (tNil)))) (tV 2)) (tNil)))))) (tSeq (tSetK 7 (tCB (rMin1) (tCons (tC (.int 24)) (tCons (tOp qAdd (tV 6) (tCall (sp_L_pick) [] E0 (tCons (tV 1) (tCons (tC (.int 55)) (tCons (tOp (rIx1 K) (tLst1 (tCons (tC (.int 25)) (tCons (tC (.int 3)) (tNil)))) (tV 2)) (tNil)))))) (tNil))))) (tSeq (tSetK 8 (tOp (rIx1 K) (tLst1 (tCons (tOp (rIx1 K) (tV 5) (tC (.int 0))) (tCons (tCall (sp_L_sign) [] E0 (tCons (tV 1) (tCons (tC (.int 56)) (tNil)))) (tCons (tOp (rIx1 K) (tV 5) (tUn qNeg (tC (.int 1)))) (tNil))))) (tCall (sp_L_pick) [] E0 (tCons (tV 1) (tCons (tC (.int 59)) (tCons (tC (.int 3)) (tNil))))))) (tSeq (tSetK 9 (tOp (rIx1 K) (tLst1 (tCons (tC (.int 0)) (tCons (tOp qAdd (tC (.int 1)) (tCall (sp_L_pick) [] E0 (tCons (tV 1) (tCons (tC (.int 60)) (tCons (tOp (rIx1 K) (tLst1 (tCons (tC (.int 40)) (tCons (tC (.int 5)) (tNil)))) (tV 2)) (tNil)))))) (tCons (tV 7) (tNil))))) (tCall (sp_L_pick) [] E0 (tCons (tV 1) (tCons (tC (.int 61)) (tCons (tC (.int 3)) (tNil))))))) (tSeq (tSetK 10 (tOp (rIx1 K) (tLst1 (tCons (tC (.str (S [108, 101, 102, 116]))) (tCons (tC (.str (S [114, 105, 103, 104, 116]))) (tCons (tC (.str (S [109, 105, 100, 100, 108, 101]))) (tNil))))) (tCall (sp_L_pick) [] E0 (tCons (tV 1) (tCons (tC (.int 62)) (tCons (tC (.int 3)) (tNil))))))) (tRet (tTup1 (tCons (tC (.str (S [119, 111, 114, 100]))) (tCons (tV 5) (tCons (tV 6) (tCons (tV 7) (tCons (tV 9) (tCons (tV 8) (tCons (tV 10) (tCons (tOp (rEq1) (tCall (sp_L_pick) [] E0 (tCons (tV 1) (tCons (tC (.int 63)) (tCons (tC (.int 3)) (tNil))))) (tC (.int 0))) (tNil))))))))))))))))))
theorem der_L_word_spec {P : Program} {w : World} {K : PySem.W.Frag} {mg : Str → Option Value} {base : Heap} (T : TX w K mg) (C_L_pick : Fn P w K mg base CX0 1 "_law_pick" (sp_L_pick)) (C_L_signs : Fn P w K mg base CX0 1 "_law_signs" (sp_L_signs)) (C_L_sign : Fn P w K mg base CX0 2 "_law_sign" (sp_L_sign)) {f : Addr} {cdv : Value} {A : Around} {outer : List Env} {s : Shared} {H : Hp} {E : XK} (hr : Room 2 (A.deeper (envOfC "_law_word_spec" (defScope s_L_word_spec) s.heap.objs.size f cdv))) :
    PSs (cxOf CX0 P w K mg base N_L_word_spec "_law_word_spec" (defScope s_L_word_spec) f cdv A outer s H E).nox (defBody s_L_word_spec) (t_L_word_spec P w K mg base) :=
  pss_cons (sSetK (i := 3) sc_L_word_spec.nd rfl nl_L_word_spec__law_start (fCall C_L_pick (hr.mono (by decide)) ng_L_word_spec__law_pick pass0 (aCons (fV 0 nm_L_word_spec__law_cell rfl) (aCons (pe_int) (aCons (pe_int) (pa_nil) rfl) rfl) rfl) rfl) rfl (.inl rfl)) (pss_cons (sSetK (i := 4) sc_L_word_spec.nd rfl nl_L_word_spec__law_step (pe_op oAdd (pe_int) (fCall C_L_pick (hr.mono (by decide)) ng_L_word_spec__law_pick pass0 (aCons (fV 0 nm_L_word_spec__law_cell rfl) (aCons (pe_int) (aCons (pe_int) (pa_nil) rfl) rfl) rfl) rfl)) rfl (.inl rfl)) (pss_cons (sSetK (i := 5) sc_L_word_spec.nd rfl nl_L_word_spec__law_signs_here (pe_slice slS1 (fStep (fCall0 C_L_signs (hr.mono (by decide)) ng_L_word_spec__law_signs pass0) (fV 3 nm_L_word_spec__law_start rfl) (fV 4 nm_L_word_spec__law_step rfl)) po_none (oSome (pe_op oAdd (pe_int) (fCall C_L_pick (hr.mono (by decide)) ng_L_word_spec__law_pick pass0 (aCons (fV 0 nm_L_word_spec__law_cell rfl) (aCons (pe_int) (aCons (fIx (fLst (aCons (pe_int) (aCons (pe_int) (pa_nil) rfl) rfl)) (fV 2 nm_L_word_spec__law_small rfl) (fun _ _ => rfl)) (pa_nil) rfl) rfl) rfl) rfl)))) rfl (.inl rfl)) (pss_cons (sSetK (i := 6) sc_L_word_spec.nd rfl nl_L_word_spec__law_least (fCall C_L_pick (hr.mono (by decide)) ng_L_word_spec__law_pick pass0 (aCons (fV 1 nm_L_word_spec__law_other rfl) (aCons (pe_int) (aCons (fIx (fLst (aCons (pe_int) (aCons (pe_int) (pa_nil) rfl) rfl)) (fV 2 nm_L_word_spec__law_small rfl) (fun _ _ => rfl)) (pa_nil) rfl) rfl) rfl) rfl) rfl (.inl rfl)) (pss_cons (sSetK (i := 7) sc_L_word_spec.nd rfl nl_L_word_spec__law_most (fB (cMin rfl) ng_L_word_spec_min T.b_min bb_min (aCons (pe_int) (aCons (pe_op oAdd (fV 6 nm_L_word_spec__law_least rfl) (fCall C_L_pick (hr.mono (by decide)) ng_L_word_spec__law_pick pass0 (aCons (fV 1 nm_L_word_spec__law_other rfl) (aCons (pe_int) (aCons (fIx (fLst (aCons (pe_int) (aCons (pe_int) (pa_nil) rfl) rfl)) (fV 2 nm_L_word_spec__law_small rfl) (fun _ _ => rfl)) (pa_nil) rfl) rfl) rfl) rfl)) (pa_nil) rfl) rfl) rfl) rfl (.inl rfl)) (pss_cons (sSetK (i := 8) sc_L_word_spec.nd rfl nl_L_word_spec__law_fill (fIx (fLst (aCons (fIx (fV 5 nm_L_word_spec__law_signs_here rfl) (pe_int) (fun _ _ => rfl)) (aCons (fCall C_L_sign (hr.mono (by decide)) ng_L_word_spec__law_sign pass0 (aCons (fV 1 nm_L_word_spec__law_other rfl) (aCons (pe_int) (pa_nil) rfl) rfl) rfl) (aCons (fIx (fV 5 nm_L_word_spec__law_signs_here rfl) (pe_un oNeg (pe_int)) (fun _ _ => rfl)) (pa_nil) rfl) rfl) rfl)) (fCall C_L_pick (hr.mono (by decide)) ng_L_word_spec__law_pick pass0 (aCons (fV 1 nm_L_word_spec__law_other rfl) (aCons (pe_int) (aCons (pe_int) (pa_nil) rfl) rfl) rfl) rfl) (fun _ _ => rfl)) rfl (.inl rfl)) (pss_cons (sSetK (i := 9) sc_L_word_spec.nd rfl nl_L_word_spec__law_width (fIx (fLst (aCons (pe_int) (aCons (pe_op oAdd (pe_int) (fCall C_L_pick (hr.mono (by decide)) ng_L_word_spec__law_pick pass0 (aCons (fV 1 nm_L_word_spec__law_other rfl) (aCons (pe_int) (aCons (fIx (fLst (aCons (pe_int) (aCons (pe_int) (pa_nil) rfl) rfl)) (fV 2 nm_L_word_spec__law_small rfl) (fun _ _ => rfl)) (pa_nil) rfl) rfl) rfl) rfl)) (aCons (fV 7 nm_L_word_spec__law_most rfl) (pa_nil) rfl) rfl) rfl)) (fCall C_L_pick (hr.mono (by decide)) ng_L_word_spec__law_pick pass0 (aCons (fV 1 nm_L_word_spec__law_other rfl) (aCons (pe_int) (aCons (pe_int) (pa_nil) rfl) rfl) rfl) rfl) (fun _ _ => rfl)) rfl (.inl rfl)) (pss_cons (sSetK (i := 10) sc_L_word_spec.nd rfl nl_L_word_spec__law_side (fIx (fLst (aCons (fS rfl) (aCons (fS rfl) (aCons (fS rfl) (pa_nil) rfl) rfl) rfl)) (fCall C_L_pick (hr.mono (by decide)) ng_L_word_spec__law_pick pass0 (aCons (fV 1 nm_L_word_spec__law_other rfl) (aCons (pe_int) (aCons (pe_int) (pa_nil) rfl) rfl) rfl) rfl) (fun _ _ => rfl)) rfl (.inl rfl)) (pss_one (ps_ret (fTup (aCons (fS rfl) (aCons (fV 5 nm_L_word_spec__law_signs_here rfl) (aCons (fV 6 nm_L_word_spec__law_least rfl) (aCons (fV 7 nm_L_word_spec__law_most rfl) (aCons (fV 9 nm_L_word_spec__law_width rfl) (aCons (fV 8 nm_L_word_spec__law_fill rfl) (aCons (fV 10 nm_L_word_spec__law_side rfl) (aCons (pe_cmpR (oEq) (fCall C_L_pick (hr.mono (by decide)) ng_L_word_spec__law_pick pass0 (aCons (fV 1 nm_L_word_spec__law_other rfl) (aCons (pe_int) (aCons (pe_int) (pa_nil) rfl) rfl) rfl) rfl) (pe_int) (nomark _)) (pa_nil) rfl) rfl) rfl) rfl) rfl) rfl) rfl) rfl)))))))))))
theorem atI_last {l : List Nat} (h : l ≠ []) : atI l (-1) = some (l.getLast h) := by
  have h1 : 0 < l.length := List.length_pos_iff.mpr h
  show (ixN l.length (-1)).bind (fun j => l[j]?) = _
  have e : ixN l.length (-1) = some (l.length - 1) := by
    unfold ixN
    split
    · omega
    · split
      · rw [show ((-1 : Int) + (l.length : Nat)).toNat = l.length - 1 by omega]
      · omega
  rw [e]
  show l[l.length - 1]? = _
  rw [List.getLast_eq_getElem, List.getElem?_eq_getElem (by omega)]
theorem rd_L_word_spec (T : TX w K mg) (vs : List V) (H : Hp) (Q : VK) (E : XK) (h : sp_L_word_spec vs H Q E) : t_L_word_spec P w K mg base { nx := fun _ H' => Q .non H', rt := Q } (start N_L_word_spec vs) H := by
  obtain ⟨c, o, rfl, q⟩ := h
  refine ⟨_, _, _, rfl, by decide, by decide, by decide, ?_⟩
  refine ⟨_, _, _, rfl, by decide, by decide, by decide, ?_⟩
  obtain ⟨k1, g1, m1⟩ := pickN c 51 (m := 94) (by decide)
  obtain ⟨k2, g2, m2⟩ := pickN c 52 (m := 9) (by decide)
  rw [g1, g2]
  refine ⟨rfl, signs94, _, _, rfl, rfl, rfl, by omega, ?_, by omega, l100 rfl, fun l hl hl2 hl3 => ?_⟩
  · rw [signs94_len]
    exact m1
  refine ⟨l100 rfl, fun p1 H1 _ e1 h1 => ⟨_, _, .inl (SqL.of h1), at0, _, _, _, rfl, by decide, by decide, by decide, ?_⟩⟩
  obtain ⟨k3, g3, m3⟩ := pickN c 53 (m := 94) (by decide)
  rw [g3]
  have hl94 : l.length ≤ 94 := by rw [signs94_len] at hl2; exact hl2
  refine ⟨l, rfl, l100 (Nat.ble_eq_true_of_le (by omega)), ?_⟩
  rw [cutN_to (by omega)]
  have e3 : ((1 : Int) + (k3 : Int)).toNat = 1 + k3 := by omega
  rw [e3]
  have hpos : 0 < l.length := List.length_pos_iff.mpr hl
  have s1 : 0 < (l.take (1 + k3)).length := by rw [List.length_take]; omega
  have s2 : (l.take (1 + k3)).length ≤ 94 := by rw [List.length_take]; omega
  have s3 : ∀ c ∈ l.take (1 + k3), c < 1000 := fun c hc => signs94_lt c (hl3 c (List.mem_of_mem_take hc))
  generalize l.take (1 + k3) = sg at s1 s2 s3
  refine ⟨l100 rfl, fun p2 H2 _ e2 h2 => ⟨_, _, .inl (SqL.of h2), at0, _, _, _, rfl, by decide, by decide, by decide, ?_⟩⟩
  refine ⟨l100 rfl, fun p3 H3 _ e3 h3 => ⟨_, _, .inl (SqL.of h3), at0, _, _, _, rfl, by decide, by decide, by decide, ?_⟩⟩
  obtain ⟨k4, g4, m4⟩ := pickN o 54 (m := 25) (by decide)
  obtain ⟨k5, g5, m5⟩ := pickN o 55 (m := 25) (by decide)
  rw [g4, g5]
  obtain ⟨mo, hmo, mo1, mo2⟩ : ∃ mo : Nat, min (24 : Int) (k4 + k5) = mo ∧ k4 ≤ mo ∧ mo ≤ 24 := ⟨min 24 (k4 + k5), by omega, by omega, by omega⟩
  obtain ⟨a0, ha0⟩ : ∃ a, atI sg 0 = some a := ⟨sg[0], atI_nat (j := 0) (List.getElem?_eq_getElem s1)⟩
  refine ⟨sg, a0, rfl, l100 (Nat.ble_eq_true_of_le (by omega)), ha0, ?_⟩
  refine ⟨_, _, rfl, by decide, by decide, fun fs hfs => ?_⟩
  refine ⟨sg, _, rfl, l100 (Nat.ble_eq_true_of_le (by omega)), atI_last (by intro z; subst z; simp at s1), ?_⟩
  refine ⟨l100 rfl, fun p4 H4 _ e4 h4 => ?_⟩
  refine ⟨_, _, _, rfl, by decide, by decide, by decide, ?_⟩
  obtain ⟨vf, gf, mf⟩ := atI_pickV (l := ([a0, fs, sg.getLast (by intro z; subst z; simp at s1)].map fun z => V.str (S [z]))) (c := o) (s := 59) (n := 3) rfl (by simp)
  refine ⟨_, vf, .inl (SqL.of h4), gf, ?_⟩
  obtain ⟨fill, hfill, rfl⟩ := List.mem_map.mp mf
  have hfb : fill < 1000 := by
    have h9 : fill = a0 ∨ fill = fs ∨ fill = sg.getLast (by intro z; subst z; simp at s1) := by simpa using hfill
    rcases h9 with e | e | e
    · rw [e]; exact s3 _ (atI_mem ha0)
    · rw [e]; exact hfs
    · rw [e]; exact s3 _ (List.getLast_mem _)
  refine ⟨l100 rfl, fun p5 H5 _ e5 h5 => ⟨_, _, .inl (SqL.of h5), at0, _, _, _, rfl, by decide, by decide, by decide, ?_⟩⟩
  obtain ⟨k6, g6, m6⟩ := pickN o 60 (m := 40) (by decide)
  rw [g6]
  refine ⟨l100 rfl, fun p6 H6 _ e6 h6 => ?_⟩
  refine ⟨_, _, _, rfl, by decide, by decide, by decide, ?_⟩
  obtain ⟨vd, gd, md⟩ := atI_pickV (l := [V.int 0, .int (1 + k6), .int (min 24 ((k4 : Int) + (k5 : Int)))]) (c := o) (s := 61) (n := 3) rfl (by simp)
  refine ⟨_, vd, .inl (SqL.of h6), gd, ?_⟩
  obtain ⟨wd, rfl, d1⟩ : ∃ b : Nat, vd = .int b ∧ b ≤ 40 := by
    have m2 : vd = V.int 0 ∨ vd = .int (1 + k6) ∨ vd = .int (min 24 ((k4 : Int) + (k5 : Int))) := by simpa using md
    rcases m2 with rfl | rfl | rfl
    · exact ⟨0, rfl, by decide⟩
    · exact ⟨1 + k6, rfl, by omega⟩
    · exact ⟨mo, by rw [hmo], by omega⟩
  refine ⟨l100 rfl, fun p7 H7 _ e7 h7 => ?_⟩
  refine ⟨_, _, _, rfl, by decide, by decide, by decide, ?_⟩
  replace h7 : H7 p7 = some (.lst (sVs sides3)) := h7
  obtain ⟨vi, gi, mi⟩ := atI_pickV (l := sVs sides3) (c := o) (s := 62) (n := 3) rfl (by decide)
  refine ⟨_, vi, .inl (SqL.of h7), gi, ?_⟩
  obtain ⟨side, hsd, rfl⟩ := List.mem_map.mp mi
  refine ⟨_, _, _, rfl, by decide, by decide, by decide, ?_⟩
  refine ⟨l100 rfl, fun p8 H8 _ e8 h8 => ?_⟩
  rw [hmo] at h8
  refine q p8 H8 ⟨sg, k4, mo, wd, fill, side, decide (pick o 63 3 = 0)⟩ ⟨s1, s2, mo1, mo2, d1, hsd, s3, hfb⟩ ?_ h8
  exact e1.trans (e2.trans (e3.trans (e4.trans (e5.trans (e6.trans (e7.trans e8))))))
theorem ok_L_word_spec {P : Program} {w : World} {K : PySem.W.Frag} {mg : Str → Option Value} {base : Heap} (T : TX w K mg) : Fn P w K mg base CX0 3 "_law_word_spec" (sp_L_word_spec) := by
  obtain ⟨fd, F⟩ := T.d_L_word_spec
  refine ⟨_, fd, A_L_word_spec, T.g_L_word_spec, F.kp, fnD F sc_L_word_spec (fun vs H Q E h => ?_) (fun cdv A outer s H vs Q E hr h => ⟨_, PSs.nox (der_L_word_spec T (ok_L_pick T) (ok_L_signs T) (ok_L_sign T) hr), rd_L_word_spec T vs H Q E h⟩), F.bindsN fun _ _ _ _ _ _ us hl => match us, hl with | [_, _, _], _ => rfl⟩
  obtain ⟨_, _, rfl, _⟩ := h
  rfl
end
end K45
namespace K45
open PySem PySem.Spec PyProof.Rows L2 F
/-! ### slices of lists -/
theorem cutV_to {l : List V} {i : Int} (h : 0 ≤ i) : cutV l none (some i) = l.take i.toNat := by
  unfold cutV HT.sIx
  simp only [List.drop_zero, Nat.sub_zero]
  rw [if_neg (by omega)]
  rw [List.take_eq_take_iff]
  omega
theorem cutV_from {l : List V} {i : Int} (h : 0 ≤ i) : cutV l (some i) none = l.drop i.toNat := by
  unfold cutV HT.sIx
  simp only
  rw [if_neg (by omega)]
  rw [List.take_of_length_le (by rw [List.length_drop]; omega)]
  by_cases h2 : i.toNat ≤ l.length
  · rw [Nat.min_eq_left h2]
  · rw [Nat.min_eq_right (by omega), List.drop_length, List.drop_eq_nil_of_le (by omega)]
/-! ### names -/
def sg93 : List Nat := signs94.drop 1
theorem sg93_len : sg93.length = 93 := rfl
theorem sg93_nd : sg93.Nodup := by decide +kernel
def sgAt (p st k : Nat) : Nat := sg93.getD ((p + k * st) % 93) 0
theorem sgAt_at (p st k : Nat) : sg93[(p + k * st) % 93]? = some (sgAt p st k) := by
  have h : (p + k * st) % 93 < sg93.length := Nat.mod_lt _ (by decide)
  unfold sgAt
  rw [List.getD_eq_getElem?_getD, List.getElem?_eq_getElem h]
  rfl
theorem sgAt_inj {p st j k : Nat} (hs : st = 1 ∨ st = 2 ∨ st = 4 ∨ st = 5 ∨ st = 7 ∨ st = 8) (hj : j < 12) (hk : k < 12) (h : sgAt p st j = sgAt p st k) : j = k := by
  have e : (p + j * st) % 93 = (p + k * st) % 93 := by
    have x := sgAt_at p st j
    have y := sgAt_at p st k
    rw [h, ← y] at x
    have m1 : (p + j * st) % 93 < sg93.length := Nat.mod_lt _ (by decide)
    have m2 : (p + k * st) % 93 < sg93.length := Nat.mod_lt _ (by decide)
    exact (List.getElem?_inj m1 sg93_nd).mp x
  rcases hs with rfl | rfl | rfl | rfl | rfl | rfl <;> omega
def nameK (nb : List Nat) (way a sz p st k : Nat) : List Nat :=
  if way = 0 then nb.take (k + 1) else if way = 1 then nb.take (min a (sz - 1)) ++ [sgAt p st k] ++ (nb.drop (min a (sz - 1) + 1)).take (sz - (min a (sz - 1) + 1)) else nb.take k ++ [48]
theorem nameK_len {nb : List Nat} {way a sz p st k : Nat} (hn : nb.length = 12) (ha : a < 12) (hz : 1 ≤ sz) (hz2 : sz ≤ 12) (hk : k < 12) : 0 < (nameK nb way a sz p st k).length ∧ (nameK nb way a sz p st k).length ≤ 12 := by
  unfold nameK
  split
  · rw [List.length_take]
    omega
  · split
    · rw [List.length_append, List.length_append, List.length_take, List.length_take, List.length_drop]
      simp
      omega
    · rw [List.length_append, List.length_take]
      simp
      omega
theorem nameK_inj {nb : List Nat} {way a sz p st j k : Nat} (hs : st = 1 ∨ st = 2 ∨ st = 4 ∨ st = 5 ∨ st = 7 ∨ st = 8) (hn : nb.length = 12) (ha : a < 12) (hz : 1 ≤ sz) (hz2 : sz ≤ 12) (hj : j < 12) (hk : k < 12) (h : nameK nb way a sz p st j = nameK nb way a sz p st k) : j = k := by
  unfold nameK at h
  split at h
  · have := congrArg List.length h
    rw [List.length_take, List.length_take] at this
    omega
  · split at h
    · rw [List.append_assoc, List.append_assoc] at h
      have h2 := List.append_cancel_left h
      have h3 : sgAt p st j = sgAt p st k := by
        injection h2
      exact sgAt_inj hs hj hk h3
    · have := congrArg List.length h
      rw [List.length_append, List.length_take, List.length_append, List.length_take] at this
      simp at this
      omega
theorem nameK_lt {nb : List Nat} {way a sz p st k : Nat} (hn : ∀ c ∈ nb, c < 1000) : ∀ c ∈ nameK nb way a sz p st k, c < 1000 := by
  intro c hc
  have hs : sgAt p st k < 1000 := signs94_lt _ (List.mem_of_mem_drop (List.mem_of_getElem? (sgAt_at p st k)))
  unfold nameK at hc
  split at hc
  · exact hn c (List.mem_of_mem_take hc)
  · split at hc
    · rcases List.mem_append.mp hc with hc | hc
      · rcases List.mem_append.mp hc with hc | hc
        · exact hn c (List.mem_of_mem_take hc)
        · rw [List.mem_singleton.mp hc]
          exact hs
      · exact hn c (List.mem_of_mem_drop (List.mem_of_mem_take hc))
    · rcases List.mem_append.mp hc with hc | hc
      · exact hn c (List.mem_of_mem_take hc)
      · rw [List.mem_singleton.mp hc]
        decide
section
variable {P : Program} {w : World} {K : PySem.W.Frag} {mg : Str → Option Value} {base : Heap}
def sp_L_names : Sp := fun vs H Q _ => ∃ (c : Int) (n : Nat), vs = [.int c, .int n] ∧ 0 < n ∧ n ≤ 12 ∧ ∀ (p : Addr) (H' : Hp) (ls : List (List Nat)), ls.length = n → ls.Nodup → (∀ x ∈ ls, 0 < x.length ∧ x.length ≤ 12) → (∀ x ∈ ls, ∀ c ∈ x, c < 1000) → Ex H H' → H' p = some (.lst (sVs ls)) → Q (.ref p) H'
def t_L_names (P : Program) (w : World) (K : PySem.W.Frag) (mg : Str → Option Value) (base : Heap) : TS := tSeq (tSetK 2 (tSl (rSlS1) (tCall (sp_L_signs) [] E0 tNil) (tPart1 (tC (.int 1))) tNoPart)) (tSeq (tSetK 4 (tM1 (rJoin1 K) (tC (.str (S []))) (tLc (iRng1 (tCons (tC (.int 12)) (tNil))) (gName 3) (tYes) (tOp (rIx1 K) (tV 2) (tCall (sp_L_pick) [] E0 (tCons (tV 0) (tCons (tOp qAdd (tC (.int 70)) (tV 3)) (tCons (tC (.int 93)) (tNil)))))) [3]))) (tSeq (tSetK 5 (tCall (sp_L_pick) [] E0 (tCons (tV 0) (tCons (tC (.int 83)) (tCons (tC (.int 3)) (tNil)))))) (tSeq (tSetK 6 (tCall (sp_L_pick) [] E0 (tCons (tV 0) (tCons (tC (.int 84)) (tCons (tC (.int 12)) (tNil)))))) (tSeq (tSetK 7 (tOp qAdd (tC (.int 1)) (tCall (sp_L_pick) [] E0 (tCons (tV 0) (tCons (tC (.int 85)) (tCons (tC (.int 12)) (tNil))))))) (tSeq (tSetK 8 (tOp (rIx1 K) (tLst1 (tCons (tC (.int 1)) (tCons (tC (.int 2)) (tCons (tC (.int 4)) (tCons (tC (.int 5)) (tCons (tC (.int 7)) (tCons (tC (.int 8)) (tNil)))))))) (tCall (sp_L_pick) [] E0 (tCons (tV 0) (tCons (tC (.int 86)) (tCons (tC (.int 6)) (tNil))))))) (tSeq (tSetK 9 (tLst1 (tNil))) (tSeq (tFor (iRng1 (tCons (tV 1) (tNil))) (gK 3) (tSeq (tSetK 10 (tOp (rIx1 K) (tV 2) (tOp qMod (tOp qAdd (tCall (sp_L_pick) [] E0 (tCons (tV 0) (tCons (tC (.int 87)) (tCons (tC (.int 93)) (tNil))))) (tOp qMul (tV 3) (tV 8))) (tC (.int 93))))) (tIfS (tB1 (tOp (rEq1) (tV 5) (tC (.int 0)))) (tDrop (tLm (rApp1) (tV 9) (tCons (tSl (rSlS1) (tV 4) tNoPart (tPart1 (tOp qAdd (tV 3) (tC (.int 1))))) (tNil)))) (tIfS (tB1 (tOp (rEq1) (tV 5) (tC (.int 1)))) (tDrop (tLm (rApp1) (tV 9) (tCons (tOp qAdd (tOp qAdd (tSl (rSlS1) (tV 4) tNoPart (tPart1 (tCB (rMin1) (tCons (tV 6) (tCons (tOp qSub (tV 7) (tC (.int 1))) (tNil)))))) (tV 10)) (tSl (rSlS1) (tV 4) (tPart1 (tOp qAdd (tCB (rMin1) (tCons (tV 6) (tCons (tOp qSub (tV 7) (tC (.int 1))) (tNil)))) (tC (.int 1)))) (tPart1 (tV 7)))) (tNil)))) (tDrop (tLm (rApp1) (tV 9) (tCons (tOp qAdd (tSl (rSlS1) (tV 4) tNoPart (tPart1 (tV 3))) (tC (.str (S [48])))) (tNil)))))))) (tSeq (tSetK 11 (tCall (sp_L_pick) [] E0 (tCons (tV 0) (tCons (tC (.int 88)) (tCons (tV 1) (tNil)))))) (tRet (tOp qAdd (tSl (rSlL1 K) (tV 9) (tPart1 (tV 11)) tNoPart) (tSl (rSlL1 K) (tV 9) tNoPart (tPart1 (tV 11)))))))))))))
theorem der_L_names {P : Program} {w : World} {K : PySem.W.Frag} {mg : Str → Option Value} {base : Heap} (T : TX w K mg) (C_L_signs : Fn P w K mg base CX0 1 "_law_signs" (sp_L_signs)) (C_L_pick : Fn P w K mg base CX0 1 "_law_pick" (sp_L_pick)) {f : Addr} {cdv : Value} {A : Around} {outer : List Env} {s : Shared} {H : Hp} {E : XK} (hr : Room 2 (A.deeper (envOfC "_law_names" (defScope s_L_names) s.heap.objs.size f cdv))) :
    PSs (cxOf CX0 P w K mg base N_L_names "_law_names" (defScope s_L_names) f cdv A outer s H E).nox (defBody s_L_names) (t_L_names P w K mg base) :=
  pss_cons (sSetK (i := 2) sc_L_names.nd rfl nl_L_names__law_signs_here (pe_slice slS1 (fCall0 C_L_signs (hr.mono (by decide)) ng_L_names__law_signs pass0) (oSome (pe_int)) po_none) rfl (.inl rfl)) (pss_cons (sSetK (i := 4) sc_L_names.nd rfl nl_L_names__law_base (fM1 PySem.F.slot_str_join PySem.F.type_str_join mJoin (fS rfl) (pe_lc (own := [("_law_k", 3)]) (g := gName 3) rfl sc_L_names.nd (pi_range1 (ng_L_names_range).gl T.b_range (aCons (pe_int) (pa_nil) rfl)) (blkOk_by (N := N_L_names) (sc := defScope s_L_names) (by decide +kernel)) (fun _ _ _ _ _ => gN sc_L_names.nd rfl (nl_of (by kernel_rfl)) (.inr (by kernel_rfl))) (fun _ _ _ _ _ => pts_nil) (fun _ _ _ _ _ => fIx (fV 2 (nm_of (by kernel_rfl)) rfl) (fCall C_L_pick (hr.mono (by decide)) (ng_of (by kernel_rfl)) pass0 (aCons (fV 0 (nm_of (by kernel_rfl)) rfl) (aCons (pe_op oAdd (pe_int) (fV 3 (nm_of (by kernel_rfl)) rfl)) (aCons (pe_int) (pa_nil) rfl) rfl) rfl) rfl) (fun _ _ => rfl))) rfl rfl rfl) rfl (.inl rfl)) (pss_cons (sSetK (i := 5) sc_L_names.nd rfl nl_L_names__law_way (fCall C_L_pick (hr.mono (by decide)) ng_L_names__law_pick pass0 (aCons (fV 0 nm_L_names__law_cell rfl) (aCons (pe_int) (aCons (pe_int) (pa_nil) rfl) rfl) rfl) rfl) rfl (.inl rfl)) (pss_cons (sSetK (i := 6) sc_L_names.nd rfl nl_L_names__law_at (fCall C_L_pick (hr.mono (by decide)) ng_L_names__law_pick pass0 (aCons (fV 0 nm_L_names__law_cell rfl) (aCons (pe_int) (aCons (pe_int) (pa_nil) rfl) rfl) rfl) rfl) rfl (.inl rfl)) (pss_cons (sSetK (i := 7) sc_L_names.nd rfl nl_L_names__law_size (pe_op oAdd (pe_int) (fCall C_L_pick (hr.mono (by decide)) ng_L_names__law_pick pass0 (aCons (fV 0 nm_L_names__law_cell rfl) (aCons (pe_int) (aCons (pe_int) (pa_nil) rfl) rfl) rfl) rfl)) rfl (.inl rfl)) (pss_cons (sSetK (i := 8) sc_L_names.nd rfl nl_L_names__law_step (fIx (fLst (aCons (pe_int) (aCons (pe_int) (aCons (pe_int) (aCons (pe_int) (aCons (pe_int) (aCons (pe_int) (pa_nil) rfl) rfl) rfl) rfl) rfl) rfl)) (fCall C_L_pick (hr.mono (by decide)) ng_L_names__law_pick pass0 (aCons (fV 0 nm_L_names__law_cell rfl) (aCons (pe_int) (aCons (pe_int) (pa_nil) rfl) rfl) rfl) rfl) (fun _ _ => rfl)) rfl (.inl rfl)) (pss_cons (sSetK (i := 9) sc_L_names.nd rfl nl_L_names__law_found (fLst (pa_nil)) rfl (.inl rfl)) (pss_cons (ps_for PassesOwn.never rfl (pi_range1 (ng_L_names_range).gl T.b_range (aCons (fV 1 nm_L_names__law_many rfl) (pa_nil) rfl)) (gNK sc_L_names.nd rfl nl_L_names__law_k (.inl rfl)) (pss_cons (sSetK (i := 10) sc_L_names.nd rfl nl_L_names__law_sign_here (fIx (fV 2 nm_L_names__law_signs_here rfl) (pe_op oMod (pe_op oAdd (fCall C_L_pick (hr.mono (by decide)) ng_L_names__law_pick pass0 (aCons (fV 0 nm_L_names__law_cell rfl) (aCons (pe_int) (aCons (pe_int) (pa_nil) rfl) rfl) rfl) rfl) (pe_op oMul (fV 3 nm_L_names__law_k rfl) (fV 8 nm_L_names__law_step rfl))) (pe_int)) (fun _ _ => rfl)) rfl (.inl rfl)) (pss_one (ps_if (tCmp1 (oEq) (fV 5 nm_L_names__law_way rfl) (pe_int) (nomark _)) (pss_one (sExpr (fLm PySem.F.slot_list_append PySem.F.type_list_append mApp (fV 9 nm_L_names__law_found rfl) (aCons (pe_slice slS1 (fV 4 nm_L_names__law_base rfl) po_none (oSome (pe_op oAdd (fV 3 nm_L_names__law_k rfl) (pe_int)))) (pa_nil) rfl) rfl rfl (by decide) rfl) rfl)) (pss_one (ps_if (tCmp1 (oEq) (fV 5 nm_L_names__law_way rfl) (pe_int) (nomark _)) (pss_one (sExpr (fLm PySem.F.slot_list_append PySem.F.type_list_append mApp (fV 9 nm_L_names__law_found rfl) (aCons (pe_op oAdd (pe_op oAdd (pe_slice slS1 (fV 4 nm_L_names__law_base rfl) po_none (oSome (fB (cMin rfl) ng_L_names_min T.b_min bb_min (aCons (fV 6 nm_L_names__law_at rfl) (aCons (pe_op oSub (fV 7 nm_L_names__law_size rfl) (pe_int)) (pa_nil) rfl) rfl) rfl))) (fV 10 nm_L_names__law_sign_here rfl)) (pe_slice slS1 (fV 4 nm_L_names__law_base rfl) (oSome (pe_op oAdd (fB (cMin rfl) ng_L_names_min T.b_min bb_min (aCons (fV 6 nm_L_names__law_at rfl) (aCons (pe_op oSub (fV 7 nm_L_names__law_size rfl) (pe_int)) (pa_nil) rfl) rfl) rfl) (pe_int))) (oSome (fV 7 nm_L_names__law_size rfl)))) (pa_nil) rfl) rfl rfl (by decide) rfl) rfl)) (pss_one (sExpr (fLm PySem.F.slot_list_append PySem.F.type_list_append mApp (fV 9 nm_L_names__law_found rfl) (aCons (pe_op oAdd (pe_slice slS1 (fV 4 nm_L_names__law_base rfl) po_none (oSome (fV 3 nm_L_names__law_k rfl))) (fS rfl)) (pa_nil) rfl) rfl rfl (by decide) rfl) rfl)))))))) (pss_cons (sSetK (i := 11) sc_L_names.nd rfl nl_L_names__law_turn (fCall C_L_pick (hr.mono (by decide)) ng_L_names__law_pick pass0 (aCons (fV 0 nm_L_names__law_cell rfl) (aCons (pe_int) (aCons (fV 1 nm_L_names__law_many rfl) (pa_nil) rfl) rfl) rfl) rfl) rfl (.inl rfl)) (pss_one (ps_ret (pe_op oAdd (pe_slice slL1 (fV 9 nm_L_names__law_found rfl) (oSome (fV 11 nm_L_names__law_turn rfl)) po_none) (pe_slice slL1 (fV 9 nm_L_names__law_found rfl) po_none (oSome (fV 11 nm_L_names__law_turn rfl))))))))))))))
theorem rd_L_names (T : TX w K mg) (vs : List V) (H : Hp) (Q : VK) (E : XK) (h : sp_L_names vs H Q E) : t_L_names P w K mg base { nx := fun _ H' => Q .non H', rt := Q } (start N_L_names vs) H := by
  obtain ⟨c, n, rfl, h0, h1, q⟩ := h
  show t_L_names P w K mg base _ [some (.int c), some (.int n), none, none, none, none, none, none, none, none, none, none] H
  refine ⟨rfl, signs94, rfl, l100 rfl, ?_⟩
  have ec : cutN signs94 (some 1) none = sg93 := cutN_from (by decide)
  rw [ec]
  refine ⟨⟨_, rfl⟩, _, rfl, by omega, by omega, fun D hD => lc_range (lo := 0) (n := 12) (fun i H' => Ex H H' ∧ ∃ xs : List Nat, xs.length = i ∧ (∀ c ∈ xs, c < 1000) ∧ H' D = some (.lst (xs.map fun z => V.str (S [z])))) ⟨Ex.new hD, [], rfl, (fun c hc => by simp at hc), upd_same⟩ ?_ ?_⟩
  · rintro i H' hi ⟨e1, xs, hx, hlx, hd⟩
    refine ⟨rfl, ?_⟩
    refine ⟨_, _, _, rfl, by omega, by omega, by omega, ?_⟩
    obtain ⟨z, hz⟩ := atI_pick (l := sg93) (c := c) (s := 70 + (0 + (i : Int))) (by decide)
    refine ⟨_, z, rfl, l100 rfl, hz, _, hd, ?_, ?_⟩
    · rw [List.length_map]
      exact szT (by omega)
    · refine ⟨Ex.mut e1 hD, xs ++ [z], by simp [hx], fun c hc => (List.mem_append.mp hc).elim (hlx c) fun h => by rw [List.mem_singleton.mp h]; exact signs94_lt _ (List.mem_of_mem_drop (atI_mem hz)), ?_⟩
      rw [upd_same, List.map_append]
      rfl
  rintro H1 ⟨e1, nb, hx, hnb, hd⟩
  have e : (nb.map fun z => V.str (S [z])) = ((nb.map fun z => [z]).map fun l => V.str (S l)) := by
    rw [List.map_map]
    rfl
  have ef : (nb.map fun z => [z]).flatten = nb := by
    clear hx hd e hnb
    induction nb with
    | nil => rfl
    | cons a r ih => simp [ih]
  refine ⟨D, _, rfl, rfl, SqL.of (by rw [hd, e]), ?_, ?_⟩
  · rw [ef]
    omega
  rw [ef]
  clear e ef hd
  have hx0 := hx
  obtain ⟨way, gw, _⟩ := pickN c 83 (m := 3) (by decide)
  obtain ⟨a, ga, ha⟩ := pickN c 84 (m := 12) (by decide)
  obtain ⟨z0, gz, hz⟩ := pickN c 85 (m := 12) (by decide)
  obtain ⟨p, gp, _⟩ := pickN c 87 (m := 93) (by decide)
  refine ⟨_, _, _, rfl, by decide, by decide, by decide, ?_⟩
  refine ⟨_, _, _, rfl, by decide, by decide, by decide, ?_⟩
  refine ⟨_, _, _, rfl, by decide, by decide, by decide, ?_⟩
  rw [gw, ga, gz]
  refine ⟨l100 rfl, fun p2 H2 _ e2 h2 => ?_⟩
  refine ⟨_, _, _, rfl, by decide, by decide, by decide, ?_⟩
  obtain ⟨vt, gt, mt⟩ := atI_pickV (l := [V.int 1, .int 2, .int 4, .int 5, .int 7, .int 8]) (c := c) (s := 86) (n := 6) rfl (by simp)
  refine ⟨_, vt, .inl (SqL.of h2), gt, ?_⟩
  obtain ⟨st, rfl, hst⟩ : ∃ st : Nat, vt = .int st ∧ (st = 1 ∨ st = 2 ∨ st = 4 ∨ st = 5 ∨ st = 7 ∨ st = 8) := by
    have m2 : vt = V.int 1 ∨ vt = .int 2 ∨ vt = .int 4 ∨ vt = .int 5 ∨ vt = .int 7 ∨ vt = .int 8 := by simpa using mt
    rcases m2 with rfl | rfl | rfl | rfl | rfl | rfl
    · exact ⟨1, rfl, by simp⟩
    · exact ⟨2, rfl, by simp⟩
    · exact ⟨4, rfl, by simp⟩
    · exact ⟨5, rfl, by simp⟩
    · exact ⟨7, rfl, by simp⟩
    · exact ⟨8, rfl, by simp⟩
  refine ⟨l100 rfl, fun D3 H3 hD3 e3 h3 => ?_⟩
  refine ⟨_, rfl, by omega, by omega, for_range (lo := 0) (n := n) (fun i σ H' => Ex H1 H' ∧ H' D3 = some (.lst (sVs ((List.range i).map (nameK nb way a (1 + z0) p st)))) ∧ ∃ u v, σ = [some (.int c), some (.int n), some (.str (S sg93)), u, some (.str (S nb)), some (.int way), some (.int a), some (.int (1 + z0)), some (.int st), some (.ref D3), v, none]) ⟨e2.trans e3, h3, _, _, rfl⟩ ?_ ?_⟩
  · rintro i σ H' hi ⟨e4, h4, u, v, rfl⟩
    refine ⟨_, _, _, rfl, by decide, by decide, by decide, .inl (.inl ⟨by omega, by omega⟩), by decide, ?_⟩
    rw [gp]
    have ei : ((p : Int) + (0 + (i : Int)) * (st : Int)) % 93 = ((p + i * st) % 93 : Nat) := by
      rw [Int.zero_add]
      omega
    rw [ei]
    refine ⟨_, sgAt p st i, rfl, l100 rfl, atI_nat (sgAt_at p st i), ?_⟩
    have l12 : nb.length ≤ 100000 := by omega
    have ll : (sVs ((List.range i).map (nameK nb way a (1 + z0) p st))).length < 100000 := by
      rw [List.length_map, List.length_map, List.length_range]
      omega
    have fin : ∀ (H5 : Hp) (x : List Nat), Ex H1 H5 → x = nameK nb way a (1 + z0) p st i → Ex H1 (upd H' D3 (.lst (sVs ((List.range i).map (nameK nb way a (1 + z0) p st)) ++ [.str (S x)]))) ∧ (upd H' D3 (.lst (sVs ((List.range i).map (nameK nb way a (1 + z0) p st)) ++ [.str (S x)]))) D3 = some (.lst (sVs ((List.range (i + 1)).map (nameK nb way a (1 + z0) p st)))) := by
      intro H5 x e5 hx
      have hD1 : H1 D3 = none := Ex.free e2 hD3
      refine ⟨Ex.mut e4 hD1, ?_⟩
      rw [upd_same, List.range_succ, List.map_append, hx]
      show _ = some (HO.lst ((((List.range i).map (nameK nb way a (1 + z0) p st)) ++ [nameK nb way a (1 + z0) p st i]).map fun l => V.str (S l)))
      rw [List.map_append]
      rfl
    refine iteD (fun cw => ?_) (fun cw => ?_)
    · refine ⟨⟨_, h4⟩, nb, rfl, l12, _, h4, ll, ?_⟩
      have := fin H' (cutN nb none (some (0 + (i : Int) + 1))) e4 (by rw [cutN_to (by omega)]; unfold nameK; rw [if_pos (by omega), show (0 + (i : Int) + 1).toNat = i + 1 by omega])
      exact ⟨this.1, this.2, _, _, rfl⟩
    refine iteD (fun cw2 => ?_) (fun cw2 => ?_)
    · have em : min (a : Int) (1 + (z0 : Int) - 1) = ((min a (1 + z0 - 1) : Nat) : Int) := by omega
      have hx : cutN nb none (some (min (a : Int) (1 + (z0 : Int) - 1))) ++ [sgAt p st i] ++ cutN nb (some (min (a : Int) (1 + (z0 : Int) - 1) + 1)) (some (1 + (z0 : Int))) = nameK nb way a (1 + z0) p st i := by
        unfold nameK
        rw [if_neg (by omega), if_pos (by omega), em, cutN_to (by omega), cutN_fromto (by omega) (by omega)]
        have y1 : (((min a (1 + z0 - 1) : Nat) : Int)).toNat = min a (1 + z0 - 1) := by omega
        have y2 : (((min a (1 + z0 - 1) : Nat) : Int) + 1).toNat = min a (1 + z0 - 1) + 1 := by omega
        have y3 : (1 + (z0 : Int)).toNat = 1 + z0 := by omega
        rw [y1, y2, y3]
      have hl := (nameK_len (nb := nb) (way := way) (a := a) (sz := 1 + z0) (p := p) (st := st) (k := i) hx0 (by omega) (by omega) (by omega) (by omega)).2
      rw [← hx, List.length_append] at hl
      have hl2 : (cutN nb none (some (min (a : Int) (1 + (z0 : Int) - 1)))).length + 1 ≤ 12 := by
        rw [List.length_append] at hl
        simp at hl
        omega
      refine ⟨⟨_, h4⟩, nb, rfl, l12, ?_⟩
      refine ⟨_, _, rfl, rfl, Nat.le_trans hl2 (by omega), nb, rfl, l12, ?_⟩
      refine ⟨_, _, rfl, rfl, Nat.le_trans hl (by omega), _, h4, ll, ?_⟩
      have := fin H' _ e4 hx
      exact ⟨this.1, this.2, _, _, rfl⟩
    · refine ⟨⟨_, h4⟩, nb, rfl, l12, ?_⟩
      have hx : cutN nb none (some (0 + (i : Int))) ++ [48] = nameK nb way a (1 + z0) p st i := by
        unfold nameK
        rw [if_neg (by omega), if_neg (by omega), cutN_to (by omega), show (0 + (i : Int)).toNat = i by omega]
      have hl := (nameK_len (nb := nb) (way := way) (a := a) (sz := 1 + z0) (p := p) (st := st) (k := i) hx0 (by omega) (by omega) (by omega) (by omega)).2
      rw [← hx, List.length_append] at hl
      refine ⟨_, _, rfl, rfl, Nat.le_trans hl (by omega), _, h4, ll, ?_⟩
      have := fin H' _ e4 hx
      exact ⟨this.1, this.2, _, _, rfl⟩
  rintro σ H4 ⟨e4, h4, u, v, rfl⟩
  obtain ⟨t, gt2, ht⟩ := pickN c 88 (m := n) (by omega)
  refine ⟨_, _, _, rfl, by decide, by decide, by omega, ?_⟩
  rw [gt2]
  generalize hL : (List.range n).map (nameK nb way a (1 + z0) p st) = L at h4
  refine ⟨_, SqL.of h4, fun p5 H5 _ e5 h5 => ?_⟩
  refine ⟨_, SqL.of (e5 _ _ h4), fun p6 H6 _ e6 h6 => ?_⟩
  rw [cutV_from (by omega), show ((t : Int)).toNat = t by omega] at h5
  rw [cutV_to (by omega), show ((t : Int)).toNat = t by omega] at h6
  have hn : L.length = n := by rw [← hL]; simp
  refine ⟨_, _, e6 _ _ h5, h6, ?_, fun p7 H7 _ e7 h7 => ?_⟩
  · rw [List.length_drop, List.length_take, List.length_map]
    omega
  rw [← List.map_drop, ← List.map_take, ← List.map_append] at h7
  have pm : (L.drop t ++ L.take t).Perm L := List.perm_append_comm.trans (by rw [List.take_append_drop])
  have mem : ∀ x ∈ L, ∃ k, k < n ∧ x = nameK nb way a (1 + z0) p st k := by
    intro x hx
    rw [← hL] at hx
    obtain ⟨k, hk, rfl⟩ := List.mem_map.mp hx
    exact ⟨k, List.mem_range.mp hk, rfl⟩
  refine q p7 H7 _ (by rw [pm.length_eq]; exact hn) (pm.nodup_iff.mpr ?_) (fun x hx2 => ?_) ?_ (e1.trans (e4.trans (e5.trans (e6.trans e7)))) h7
  · rw [← hL]
    refine List.pairwise_map.mpr (List.Pairwise.imp_of_mem (fun {j k} hj hk hne h => hne ?_) List.nodup_range)
    exact nameK_inj hst hx (by omega) (by omega) (by omega) (by have := List.mem_range.mp hj; omega) (by have := List.mem_range.mp hk; omega) h
  · obtain ⟨k, hk, rfl⟩ := mem x (pm.mem_iff.mp hx2)
    exact nameK_len hx (by omega) (by omega) (by omega) (by omega)
  · exact fun x hx2 => by
      obtain ⟨k, hk, rfl⟩ := mem x (pm.mem_iff.mp hx2)
      exact nameK_lt hnb
theorem ok_L_names {P : Program} {w : World} {K : PySem.W.Frag} {mg : Str → Option Value} {base : Heap} (T : TX w K mg) : Fn P w K mg base CX0 3 "_law_names" (sp_L_names) := by
  obtain ⟨fd, F⟩ := T.d_L_names
  refine ⟨_, fd, A_L_names, T.g_L_names, F.kp, fnD F sc_L_names (fun vs H Q E h => ?_) (fun cdv A outer s H vs Q E hr h => ⟨_, PSs.nox (der_L_names T (ok_L_signs T) (ok_L_pick T) hr), rd_L_names T vs H Q E h⟩), F.bindsN fun _ _ _ _ _ _ us hl => match us, hl with | [_, _], _ => rfl⟩
  obtain ⟨_, _, rfl, _⟩ := h
  rfl
end
end K45
namespace K45
open PySem PySem.Spec PyProof.Rows L2 F
/-! ### the specs as such -/
inductive Spec where
  | num (n : NS)
  | word (n : WS)
  | choice (n : CS)
def Spec.Ok : Spec → Prop
  | .num n => n.Ok
  | .word n => n.Ok
  | .choice n => n.Ok
/-- the spec lies at a -/
def SpecAt (H : Hp) (a : Addr) : Spec → Prop
  | .num n => H a = some (.tup n.vals)
  | .word n => H a = some (.tup n.vals)
  | .choice n => ∃ na, H na = some (.lst (sVs n.names)) ∧ H a = some (.tup (n.vals na))
theorem Ex.specAt {H H' : Hp} {a : Addr} {s : Spec} (e : Ex H H') (h : SpecAt H a s) : SpecAt H' a s := by
  cases s with
  | num n => exact e _ _ h
  | word n => exact e _ _ h
  | choice n =>
    obtain ⟨na, h1, h2⟩ := h
    exact ⟨na, e _ _ h1, e _ _ h2⟩
def Spec.width : Spec → Nat
  | .num n => n.width
  | .word n => n.width
  | .choice n => n.width
def Spec.fill : Spec → Nat
  | .num n => n.fill
  | .word n => n.fill
  | .choice n => n.fill
def Spec.side : Spec → List Nat
  | .num n => n.side
  | .word n => n.side
  | .choice n => n.side
def Spec.strict : Spec → Bool
  | .num n => n.strict
  | .word n => n.strict
  | .choice n => n.strict
def Spec.kind : Spec → List Nat
  | .num _ => sNumber
  | .word _ => sWord
  | .choice _ => sChoice
theorem ixNeg {α : Type} {l : List α} {j k : Nat} {i : Int} (hi : i = -(k : Int)) (hk : 0 < k) (hl : j + k = l.length) {v : α} (h : l[j]? = some v) : atI l i = some v := by
  subst hi
  show (ixN l.length (-(k : Int))).bind (fun j => l[j]?) = _
  have e : ixN l.length (-(k : Int)) = some j := by
    unfold ixN
    split
    · omega
    · split
      · rw [show (-(k : Int) + (l.length : Nat)).toNat = j by omega]
      · omega
  rw [e]
  exact h
/-- what all specs have -/
theorem SpecAt.com {H : Hp} {a : Addr} {s : Spec} (h : SpecAt H a s) : ∃ xs : List V, H a = some (.tup xs) ∧ atI xs 0 = some (.str (S s.kind)) ∧ atI xs (-4) = some (.int (s.width : Nat)) ∧ atI xs (-3) = some (.str (S [s.fill])) ∧ atI xs (-2) = some (.str (S s.side)) ∧ atI xs (-1) = some (.bl s.strict) := by
  cases s with
  | num n => exact ⟨_, h, at0, ixNeg (j := 9) (k := 4) rfl (by decide) rfl rfl, ixNeg (j := 10) (k := 3) rfl (by decide) rfl rfl, ixNeg (j := 11) (k := 2) rfl (by decide) rfl rfl, ixNeg (j := 12) (k := 1) rfl (by decide) rfl rfl⟩
  | word n => exact ⟨_, h, at0, ixNeg (j := 4) (k := 4) rfl (by decide) rfl rfl, ixNeg (j := 5) (k := 3) rfl (by decide) rfl rfl, ixNeg (j := 6) (k := 2) rfl (by decide) rfl rfl, ixNeg (j := 7) (k := 1) rfl (by decide) rfl rfl⟩
  | choice n =>
    obtain ⟨na, h1, h2⟩ := h
    exact ⟨_, h2, at0, ixNeg (j := 2) (k := 4) rfl (by decide) rfl rfl, ixNeg (j := 3) (k := 3) rfl (by decide) rfl rfl, ixNeg (j := 4) (k := 2) rfl (by decide) rfl rfl, ixNeg (j := 5) (k := 1) rfl (by decide) rfl rfl⟩
section
variable {P : Program} {w : World} {K : PySem.W.Frag} {mg : Str → Option Value} {base : Heap}
def sp_L_choice_spec : Sp := fun vs H Q _ => ∃ c o : Int, vs = [.int c, .int o, .int 0] ∧ ∀ p H' (n : CS), n.Ok → Ex H H' → SpecAt H' p (.choice n) → Q (.ref p) H'
def t_L_choice_spec (P : Program) (w : World) (K : PySem.W.Frag) (mg : Str → Option Value) (base : Heap) : TS := tSeq (tSetK 3 (tCall (sp_L_names) [] E0 (tCons (tV 0) (tCons (tOp qAdd (tC (.int 1)) (tCall (sp_L_pick) [] E0 (tCons (tV 1) (tCons (tC (.int 64)) (tCons (tOp (rIx1 K) (tLst1 (tCons (tC (.int 12)) (tCons (tC (.int 4)) (tNil)))) (tV 2)) (tNil)))))) (tNil))))) (tSeq (tSetK 4 (tOp (rIx1 K) (tLst1 (tCons (tOp (rIx1 K) (tOp (rIx1 K) (tV 3) (tC (.int 0))) (tUn qNeg (tC (.int 1)))) (tCons (tCall (sp_L_sign) [] E0 (tCons (tV 1) (tCons (tC (.int 65)) (tNil)))) (tCons (tC (.str (S [48]))) (tNil))))) (tCall (sp_L_pick) [] E0 (tCons (tV 1) (tCons (tC (.int 68)) (tCons (tC (.int 3)) (tNil))))))) (tSeq (tSetK 5 (tOp (rIx1 K) (tLst1 (tCons (tC (.int 0)) (tCons (tOp qAdd (tC (.int 1)) (tCall (sp_L_pick) [] E0 (tCons (tV 1) (tCons (tC (.int 69)) (tCons (tOp (rIx1 K) (tLst1 (tCons (tC (.int 40)) (tCons (tC (.int 5)) (tNil)))) (tV 2)) (tNil)))))) (tCons (tOp qAdd (tCB (rLen1 K) (tCons (tOp (rIx1 K) (tV 3) (tUn qNeg (tC (.int 1)))) (tNil))) (tC (.int 1))) (tNil))))) (tCall (sp_L_pick) [] E0 (tCons (tV 1) (tCons (tC (.int 70)) (tCons (tC (.int 3)) (tNil))))))) (tSeq (tSetK 6 (tOp (rIx1 K) (tLst1 (tCons (tC (.str (S [108, 101, 102, 116]))) (tCons (tC (.str (S [114, 105, 103, 104, 116]))) (tCons (tC (.str (S [109, 105, 100, 100, 108, 101]))) (tNil))))) (tCall (sp_L_pick) [] E0 (tCons (tV 1) (tCons (tC (.int 71)) (tCons (tC (.int 3)) (tNil))))))) (tRet (tTup1 (tCons (tC (.str (S [99, 104, 111, 105, 99, 101]))) (tCons (tV 3) (tCons (tV 5) (tCons (tV 4) (tCons (tV 6) (tCons (tOp (rEq1) (tCall (sp_L_pick) [] E0 (tCons (tV 1) (tCons (tC (.int 72)) (tCons (tC (.int 3)) (tNil))))) (tC (.int 0))) (tNil))))))))))))
theorem der_L_choice_spec {P : Program} {w : World} {K : PySem.W.Frag} {mg : Str → Option Value} {base : Heap} (T : TX w K mg) (C_L_names : Fn P w K mg base CX0 3 "_law_names" (sp_L_names)) (C_L_pick : Fn P w K mg base CX0 1 "_law_pick" (sp_L_pick)) (C_L_sign : Fn P w K mg base CX0 2 "_law_sign" (sp_L_sign)) {f : Addr} {cdv : Value} {A : Around} {outer : List Env} {s : Shared} {H : Hp} {E : XK} (hr : Room 3 (A.deeper (envOfC "_law_choice_spec" (defScope s_L_choice_spec) s.heap.objs.size f cdv))) :
    PSs (cxOf CX0 P w K mg base N_L_choice_spec "_law_choice_spec" (defScope s_L_choice_spec) f cdv A outer s H E).nox (defBody s_L_choice_spec) (t_L_choice_spec P w K mg base) :=
  pss_cons (sSetK (i := 3) sc_L_choice_spec.nd rfl nl_L_choice_spec__law_names_here (fCall C_L_names (hr.mono (by decide)) ng_L_choice_spec__law_names pass0 (aCons (fV 0 nm_L_choice_spec__law_cell rfl) (aCons (pe_op oAdd (pe_int) (fCall C_L_pick (hr.mono (by decide)) ng_L_choice_spec__law_pick pass0 (aCons (fV 1 nm_L_choice_spec__law_other rfl) (aCons (pe_int) (aCons (fIx (fLst (aCons (pe_int) (aCons (pe_int) (pa_nil) rfl) rfl)) (fV 2 nm_L_choice_spec__law_small rfl) (fun _ _ => rfl)) (pa_nil) rfl) rfl) rfl) rfl)) (pa_nil) rfl) rfl) rfl) rfl (.inl rfl)) (pss_cons (sSetK (i := 4) sc_L_choice_spec.nd rfl nl_L_choice_spec__law_fill (fIx (fLst (aCons (fIx (fIx (fV 3 nm_L_choice_spec__law_names_here rfl) (pe_int) (fun _ _ => rfl)) (pe_un oNeg (pe_int)) (fun _ _ => rfl)) (aCons (fCall C_L_sign (hr.mono (by decide)) ng_L_choice_spec__law_sign pass0 (aCons (fV 1 nm_L_choice_spec__law_other rfl) (aCons (pe_int) (pa_nil) rfl) rfl) rfl) (aCons (fS rfl) (pa_nil) rfl) rfl) rfl)) (fCall C_L_pick (hr.mono (by decide)) ng_L_choice_spec__law_pick pass0 (aCons (fV 1 nm_L_choice_spec__law_other rfl) (aCons (pe_int) (aCons (pe_int) (pa_nil) rfl) rfl) rfl) rfl) (fun _ _ => rfl)) rfl (.inl rfl)) (pss_cons (sSetK (i := 5) sc_L_choice_spec.nd rfl nl_L_choice_spec__law_width (fIx (fLst (aCons (pe_int) (aCons (pe_op oAdd (pe_int) (fCall C_L_pick (hr.mono (by decide)) ng_L_choice_spec__law_pick pass0 (aCons (fV 1 nm_L_choice_spec__law_other rfl) (aCons (pe_int) (aCons (fIx (fLst (aCons (pe_int) (aCons (pe_int) (pa_nil) rfl) rfl)) (fV 2 nm_L_choice_spec__law_small rfl) (fun _ _ => rfl)) (pa_nil) rfl) rfl) rfl) rfl)) (aCons (pe_op oAdd (fB cLen ng_L_choice_spec_len T.b_len bb_len (aCons (fIx (fV 3 nm_L_choice_spec__law_names_here rfl) (pe_un oNeg (pe_int)) (fun _ _ => rfl)) (pa_nil) rfl) rfl) (pe_int)) (pa_nil) rfl) rfl) rfl)) (fCall C_L_pick (hr.mono (by decide)) ng_L_choice_spec__law_pick pass0 (aCons (fV 1 nm_L_choice_spec__law_other rfl) (aCons (pe_int) (aCons (pe_int) (pa_nil) rfl) rfl) rfl) rfl) (fun _ _ => rfl)) rfl (.inl rfl)) (pss_cons (sSetK (i := 6) sc_L_choice_spec.nd rfl nl_L_choice_spec__law_side (fIx (fLst (aCons (fS rfl) (aCons (fS rfl) (aCons (fS rfl) (pa_nil) rfl) rfl) rfl)) (fCall C_L_pick (hr.mono (by decide)) ng_L_choice_spec__law_pick pass0 (aCons (fV 1 nm_L_choice_spec__law_other rfl) (aCons (pe_int) (aCons (pe_int) (pa_nil) rfl) rfl) rfl) rfl) (fun _ _ => rfl)) rfl (.inl rfl)) (pss_one (ps_ret (fTup (aCons (fS rfl) (aCons (fV 3 nm_L_choice_spec__law_names_here rfl) (aCons (fV 5 nm_L_choice_spec__law_width rfl) (aCons (fV 4 nm_L_choice_spec__law_fill rfl) (aCons (fV 6 nm_L_choice_spec__law_side rfl) (aCons (pe_cmpR (oEq) (fCall C_L_pick (hr.mono (by decide)) ng_L_choice_spec__law_pick pass0 (aCons (fV 1 nm_L_choice_spec__law_other rfl) (aCons (pe_int) (aCons (pe_int) (pa_nil) rfl) rfl) rfl) rfl) (pe_int) (nomark _)) (pa_nil) rfl) rfl) rfl) rfl) rfl) rfl)))))))
theorem rd_L_choice_spec (T : TX w K mg) (vs : List V) (H : Hp) (Q : VK) (E : XK) (h : sp_L_choice_spec vs H Q E) : t_L_choice_spec P w K mg base { nx := fun _ H' => Q .non H', rt := Q } (start N_L_choice_spec vs) H := by
  obtain ⟨c, o, rfl, q⟩ := h
  refine ⟨l100 rfl, fun p1 H1 _ e1 h1 => ⟨_, _, .inl (SqL.of h1), at0, _, _, _, rfl, by decide, by decide, by decide, ?_⟩⟩
  obtain ⟨k, gk, hk⟩ := pickN o 64 (m := 12) (by decide)
  rw [gk]
  refine ⟨c, 1 + k, rfl, by omega, by omega, fun pn H2 ls hl nd len lt e2 h2 => ?_⟩
  obtain ⟨x, r, rfl⟩ : ∃ x r, ls = x :: r := by
    cases ls with
    | nil =>
      rw [List.length_nil] at hl
      omega
    | cons x r => exact ⟨x, r, rfl⟩
  have hx := len x (by simp)
  have hx0 : x ≠ [] := by
    intro z
    subst z
    simp at hx
  have hne : (x :: r) ≠ [] := by simp
  have hla := len _ (List.getLast_mem hne)
  generalize hz : (x :: r).getLast hne = z at hla
  refine ⟨_, _, .inl (SqL.of h2), at0, x, _, rfl, l100 (Nat.ble_eq_true_of_le (by omega)), atI_last hx0, ?_⟩
  refine ⟨_, _, rfl, by decide, by decide, fun fs _ => ?_⟩
  refine ⟨l100 rfl, fun p3 H3 _ e3 h3 => ?_⟩
  refine ⟨_, _, _, rfl, by decide, by decide, by decide, ?_⟩
  obtain ⟨vf, gf, mf⟩ := atI_pickV (l := ([x.getLast hx0, fs, 48].map fun z => V.str (S [z]))) (c := o) (s := 68) (n := 3) rfl (by simp)
  refine ⟨_, vf, .inl (SqL.of h3), gf, ?_⟩
  obtain ⟨fill, _, rfl⟩ := List.mem_map.mp mf
  refine ⟨l100 rfl, fun p4 H4 _ e4 h4 => ⟨_, _, .inl (SqL.of h4), at0, _, _, _, rfl, by decide, by decide, by decide, ?_⟩⟩
  obtain ⟨k6, g6, m6⟩ := pickN o 69 (m := 40) (by decide)
  rw [g6]
  refine ⟨_, .str (S z), .inl (SqL.of (e4 _ _ (e3 _ _ h2))), ixNeg (j := r.length) (k := 1) rfl (by decide) (by simp) ?_, z, rfl, l100 (Nat.ble_eq_true_of_le (by omega)), ?_⟩
  · rw [List.getElem?_map, ← hz, List.getLast_eq_getElem, List.getElem?_eq_getElem (by simp)]
    rfl
  refine ⟨l100 rfl, fun p5 H5 _ e5 h5 => ?_⟩
  refine ⟨_, _, _, rfl, by decide, by decide, by decide, ?_⟩
  obtain ⟨vd, gd, md⟩ := atI_pickV (l := [V.int 0, .int (1 + k6), .int ((z.length : Nat) + 1)]) (c := o) (s := 70) (n := 3) rfl (by simp)
  refine ⟨_, vd, .inl (SqL.of h5), gd, ?_⟩
  obtain ⟨wd, rfl, d1⟩ : ∃ b : Nat, vd = .int b ∧ b ≤ 40 := by
    have m2 : vd = V.int 0 ∨ vd = .int (1 + k6) ∨ vd = .int ((z.length : Nat) + 1) := by simpa using md
    rcases m2 with rfl | rfl | rfl
    · exact ⟨0, rfl, by decide⟩
    · exact ⟨1 + k6, rfl, by omega⟩
    · exact ⟨z.length + 1, rfl, by omega⟩
  refine ⟨l100 rfl, fun p7 H7 _ e7 h7 => ?_⟩
  refine ⟨_, _, _, rfl, by decide, by decide, by decide, ?_⟩
  replace h7 : H7 p7 = some (.lst (sVs sides3)) := h7
  obtain ⟨vi, gi, mi⟩ := atI_pickV (l := sVs sides3) (c := o) (s := 71) (n := 3) rfl (by decide)
  refine ⟨_, vi, .inl (SqL.of h7), gi, ?_⟩
  obtain ⟨side, hsd, rfl⟩ := List.mem_map.mp mi
  refine ⟨_, _, _, rfl, by decide, by decide, by decide, ?_⟩
  refine ⟨l100 rfl, fun p8 H8 _ e8 h8 => ?_⟩
  refine q p8 H8 ⟨x :: r, wd, fill, side, decide (pick o 72 3 = 0)⟩ ⟨by rw [hl]; omega, by rw [hl]; omega, nd, len, d1, hsd, lt⟩ ?_ ⟨pn, e8 _ _ (e7 _ _ (e5 _ _ (e4 _ _ (e3 _ _ h2)))), h8⟩
  exact e1.trans (e2.trans (e3.trans (e4.trans (e5.trans (e7.trans e8)))))
theorem ok_L_choice_spec {P : Program} {w : World} {K : PySem.W.Frag} {mg : Str → Option Value} {base : Heap} (T : TX w K mg) : Fn P w K mg base CX0 4 "_law_choice_spec" (sp_L_choice_spec) := by
  obtain ⟨fd, F⟩ := T.d_L_choice_spec
  refine ⟨_, fd, A_L_choice_spec, T.g_L_choice_spec, F.kp, fnD F sc_L_choice_spec (fun vs H Q E h => ?_) (fun cdv A outer s H vs Q E hr h => ⟨_, PSs.nox (der_L_choice_spec T (ok_L_names T) (ok_L_pick T) (ok_L_sign T) hr), rd_L_choice_spec T vs H Q E h⟩), F.bindsN fun _ _ _ _ _ _ us hl => match us, hl with | [_, _, _], _ => rfl⟩
  obtain ⟨_, _, rfl, _⟩ := h
  rfl
/-! ### _law_spec -/
def sp_L_spec (K : PySem.W.Frag) : Sp := fun vs H Q _ => ∃ (a : Addr) (ns : List Int), vs = [.ref a, .int 0] ∧ SqL K H a (ns.map V.int) ∧ ∀ p H' (s : Spec), s.Ok → Ex H H' → SpecAt H' p s → Q (.ref p) H'
def t_L_spec (P : Program) (w : World) (K : PySem.W.Frag) (mg : Str → Option Value) (base : Heap) : TS := tSeq (tSetK 2 (tCall (sp_L_pick) [] E0 (tCons (tCall (sp_L_cell_at K) [] E0 (tCons (tV 0) (tCons (tC (.int 0)) (tNil)))) (tCons (tC (.int 99)) (tCons (tC (.int 4)) (tNil)))))) (tSeq (tPar 3 4 (tCons (tCall (sp_L_cell_at K) [] E0 (tCons (tV 0) (tCons (tC (.int 1)) (tNil)))) (tCons (tCall (sp_L_cell_at K) [] E0 (tCons (tV 0) (tCons (tC (.int 2)) (tNil)))) (tNil)))) (tSeq (tIfS (tB1 (tOp (rCmp fun i j => decide (i < j)) (tV 2) (tC (.int 2)))) (tRet (tCall (sp_L_number_spec) [] E0 (tCons (tV 3) (tCons (tV 4) (tCons (tV 1) (tNil)))))) (tNext)) (tSeq (tIfS (tB1 (tOp (rEq1) (tV 2) (tC (.int 2)))) (tRet (tCall (sp_L_word_spec) [] E0 (tCons (tV 3) (tCons (tV 4) (tCons (tV 1) (tNil)))))) (tNext)) (tRet (tCall (sp_L_choice_spec) [] E0 (tCons (tV 3) (tCons (tV 4) (tCons (tV 1) (tNil)))))))))
theorem der_L_spec {P : Program} {w : World} {K : PySem.W.Frag} {mg : Str → Option Value} {base : Heap} (T : TX w K mg) (C_L_pick : Fn P w K mg base CX0 1 "_law_pick" (sp_L_pick)) (C_L_cell_at : Fn P w K mg base CX0 1 "_law_cell_at" (sp_L_cell_at K)) (C_L_number_spec : Fn P w K mg base CX0 3 "_law_number_spec" (sp_L_number_spec)) (C_L_word_spec : Fn P w K mg base CX0 3 "_law_word_spec" (sp_L_word_spec)) (C_L_choice_spec : Fn P w K mg base CX0 4 "_law_choice_spec" (sp_L_choice_spec)) {f : Addr} {cdv : Value} {A : Around} {outer : List Env} {s : Shared} {H : Hp} {E : XK} (hr : Room 4 (A.deeper (envOfC "_law_spec" (defScope s_L_spec) s.heap.objs.size f cdv))) :
    PSs (cxOf CX0 P w K mg base N_L_spec "_law_spec" (defScope s_L_spec) f cdv A outer s H E).nox (defBody s_L_spec) (t_L_spec P w K mg base) :=
  pss_cons (sSetK (i := 2) sc_L_spec.nd rfl nl_L_spec__law_kind (fCall C_L_pick (hr.mono (by decide)) ng_L_spec__law_pick pass0 (aCons (fCall C_L_cell_at (hr.mono (by decide)) ng_L_spec__law_cell_at pass0 (aCons (fV 0 nm_L_spec__law_script rfl) (aCons (pe_int) (pa_nil) rfl) rfl) rfl) (aCons (pe_int) (aCons (pe_int) (pa_nil) rfl) rfl) rfl) rfl) rfl (.inl rfl)) (pss_cons (ps_par (i := 3) (j := 4) rfl sc_L_spec.nd rfl rfl (by decide) lo_L_spec__law_one lo_L_spec__law_other (aCons (fCall C_L_cell_at (hr.mono (by decide)) ng_L_spec__law_cell_at pass0 (aCons (fV 0 nm_L_spec__law_script rfl) (aCons (pe_int) (pa_nil) rfl) rfl) rfl) (aCons (fCall C_L_cell_at (hr.mono (by decide)) ng_L_spec__law_cell_at pass0 (aCons (fV 0 nm_L_spec__law_script rfl) (aCons (pe_int) (pa_nil) rfl) rfl) rfl) (pa_nil) rfl) rfl) (by rfl)) (pss_cons (ps_if (tCmp1 (oLt) (fV 2 nm_L_spec__law_kind rfl) (pe_int) (nomark _)) (pss_one (ps_ret (fCall C_L_number_spec (hr.mono (by decide)) ng_L_spec__law_number_spec pass0 (aCons (fV 3 nm_L_spec__law_one rfl) (aCons (fV 4 nm_L_spec__law_other rfl) (aCons (fV 1 nm_L_spec__law_small rfl) (pa_nil) rfl) rfl) rfl) rfl))) (pss_nil)) (pss_cons (ps_if (tCmp1 (oEq) (fV 2 nm_L_spec__law_kind rfl) (pe_int) (nomark _)) (pss_one (ps_ret (fCall C_L_word_spec (hr.mono (by decide)) ng_L_spec__law_word_spec pass0 (aCons (fV 3 nm_L_spec__law_one rfl) (aCons (fV 4 nm_L_spec__law_other rfl) (aCons (fV 1 nm_L_spec__law_small rfl) (pa_nil) rfl) rfl) rfl) rfl))) (pss_nil)) (pss_one (ps_ret (fCall C_L_choice_spec (hr.mono (by decide)) ng_L_spec__law_choice_spec pass0 (aCons (fV 3 nm_L_spec__law_one rfl) (aCons (fV 4 nm_L_spec__law_other rfl) (aCons (fV 1 nm_L_spec__law_small rfl) (pa_nil) rfl) rfl) rfl) rfl))))))
theorem rd_L_spec (T : TX w K mg) (vs : List V) (H : Hp) (Q : VK) (E : XK) (h : sp_L_spec K vs H Q E) : t_L_spec P w K mg base { nx := fun _ H' => Q .non H', rt := Q } (start N_L_spec vs) H := by
  obtain ⟨a, ns, rfl, hs, q⟩ := h
  refine ⟨a, ns, 0, rfl, hs, fun c0 => ?_⟩
  refine ⟨_, _, _, rfl, by decide, by decide, by decide, ?_⟩
  refine ⟨a, ns, 1, rfl, hs, fun c1 => ?_⟩
  refine ⟨a, ns, 2, rfl, hs, fun c2 => ?_⟩
  refine ⟨_, _, rfl, ?_⟩
  refine iteD (fun _ => ?_) (fun _ => iteD (fun _ => ?_) (fun _ => ?_))
  · exact ⟨_, _, rfl, fun p H' n ok e h => q p H' (.num n) ok e h⟩
  · exact ⟨_, _, rfl, fun p H' n ok e h => q p H' (.word n) ok e h⟩
  · exact ⟨_, _, rfl, fun p H' n ok e h => q p H' (.choice n) ok e h⟩
theorem ok_L_spec {P : Program} {w : World} {K : PySem.W.Frag} {mg : Str → Option Value} {base : Heap} (T : TX w K mg) : Fn P w K mg base CX0 5 "_law_spec" (sp_L_spec K) := by
  obtain ⟨fd, F⟩ := T.d_L_spec
  refine ⟨_, fd, A_L_spec, T.g_L_spec, F.kp, fnD F sc_L_spec (fun vs H Q E h => ?_) (fun cdv A outer s H vs Q E hr h => ⟨_, PSs.nox (der_L_spec T (ok_L_pick T) (ok_L_cell_at T) (ok_L_number_spec T) (ok_L_word_spec T) (ok_L_choice_spec T) hr), rd_L_spec T vs H Q E h⟩), F.bindsN fun _ _ _ _ _ _ us hl => match us, hl with | [_, _], _ => rfl⟩
  obtain ⟨_, _, rfl, _⟩ := h
  rfl
end
end K45
namespace K45
open PySem PySem.Spec PyProof.Rows L2 F
section
variable {P : Program} {w : World} {K : PySem.W.Frag} {mg : Str → Option Value} {base : Heap}
/-! ### marks_in, signs_in -/
def sp_P_marks_in : Sp := fun vs H Q _ => ∃ n z : Nat, vs = [.int n, .int z] ∧ 1 ≤ n ∧ n ≤ 1000 ∧ z ≤ 1000 ∧ Q (.int (marksN n z : Nat)) H
def t_P_marks_in (P : Program) (w : World) (K : PySem.W.Frag) (mg : Str → Option Value) (base : Heap) : TS := tSeq (tIfS (tB1 (tOp (rEq1) (tV 1) (tC (.int 0)))) (tRet (tC (.int 0))) (tNext)) (tRet (tOp qDiv (tOp qSub (tV 0) (tC (.int 1))) (tV 1)))
theorem der_P_marks_in {P : Program} {w : World} {K : PySem.W.Frag} {mg : Str → Option Value} {base : Heap} (T : TX w K mg) {f : Addr} {cdv : Value} {A : Around} {outer : List Env} {s : Shared} {H : Hp} {E : XK} (hr : Room 0 (A.deeper (envOfC "marks_in" (defScope s_P_marks_in) s.heap.objs.size f cdv))) :
    PSs (cxOf CX0 P w K mg base N_P_marks_in "marks_in" (defScope s_P_marks_in) f cdv A outer s H E).nox (defBody s_P_marks_in) (t_P_marks_in P w K mg base) :=
  pss_cons (ps_if (tCmp1 (oEq) (fV 1 nm_P_marks_in_size rfl) (pe_int) (nomark _)) (pss_one (ps_ret (pe_int))) (pss_nil)) (pss_one (ps_ret (pe_op oDiv (pe_op oSub (fV 0 nm_P_marks_in_many rfl) (pe_int)) (fV 1 nm_P_marks_in_size rfl))))
theorem rd_P_marks_in (T : TX w K mg) (vs : List V) (H : Hp) (Q : VK) (E : XK) (h : sp_P_marks_in vs H Q E) : t_P_marks_in P w K mg base { nx := fun _ H' => Q .non H', rt := Q } (start N_P_marks_in vs) H := by
  obtain ⟨n, z, rfl, h1, h2, h3, q⟩ := h
  refine iteD (fun c => ?_) (fun c => ?_)
  · have e : marksN n z = 0 := if_pos (by omega)
    rw [e] at q
    exact q
  · have e : marksN n z = (n - 1) / z := if_neg (by omega)
    have e2 : (((n - 1) / z : Nat) : Int) = ((n : Int) - 1) / (z : Int) := by
      rw [Int.natCast_ediv]
      congr 1
      omega
    rw [e, e2] at q
    exact ⟨wide_div (b := 10) (by omega) (by omega) (by decide) (by decide), q⟩
theorem ok_P_marks_in {P : Program} {w : World} {K : PySem.W.Frag} {mg : Str → Option Value} {base : Heap} (T : TX w K mg) : Fn P w K mg base CX0 1 "marks_in" (sp_P_marks_in) := by
  obtain ⟨fd, F⟩ := T.d_P_marks_in
  refine ⟨_, fd, A_P_marks_in, T.g_P_marks_in, F.kp, fnD F sc_P_marks_in (fun vs H Q E h => ?_) (fun cdv A outer s H vs Q E hr h => ⟨_, PSs.nox (der_P_marks_in T  hr), rd_P_marks_in T vs H Q E h⟩), F.bindsN fun _ _ _ _ _ _ us hl => match us, hl with | [_, _], _ => rfl⟩
  obtain ⟨_, _, rfl, _⟩ := h
  rfl
def sp_P_signs_in (K : PySem.W.Frag) : Sp := fun vs H Q E => ∃ l z : Nat, vs = [.int l, .int z] ∧ z ≤ 1000 ∧ (∀ m : Nat, 1 ≤ m → m ≤ 40 → m + marksN m z = l → (∀ j, 1 ≤ j → j < m → j + marksN j z ≠ l) → Q (.int m) H) ∧ ((∀ m : Nat, 1 ≤ m → m ≤ 40 → m + marksN m z ≠ l) → E (.ref (He.ga K "NoGroups")) none H)
def t_P_signs_in (P : Program) (w : World) (K : PySem.W.Frag) (mg : Str → Option Value) (base : Heap) (E : XK) : TS := tSeq (tFor (iRng2 (tCons (tC (.int 1)) (tCons (tOp qAdd (tC (.int 40)) (tC (.int 1))) (tNil)))) (gK 2) (tIfS (tB1 (tOp (rEq1) (tOp qAdd (tV 2) (tCall (sp_P_marks_in) [] E0 (tCons (tV 2) (tCons (tV 1) (tNil))))) (tV 0))) (tRet (tV 2)) (tNext))) (tRs E (.ref (He.ga K "NoGroups")))
theorem der_P_signs_in {P : Program} {w : World} {K : PySem.W.Frag} {mg : Str → Option Value} {base : Heap} (T : TX w K mg) (C_P_marks_in : Fn P w K mg base CX0 1 "marks_in" (sp_P_marks_in)) {f : Addr} {cdv : Value} {A : Around} {outer : List Env} {s : Shared} {H : Hp} {E : XK} (hr : Room 1 (A.deeper (envOfC "signs_in" (defScope s_P_signs_in) s.heap.objs.size f cdv))) :
    PSs (cxOf ((L2N.CX P w)) P w K mg base N_P_signs_in "signs_in" (defScope s_P_signs_in) f cdv A outer s H E) (defBody s_P_signs_in) (t_P_signs_in P w K mg base E) :=
  pss_cons (ps_for (passes_of rfl) rfl (pi_range2 (ng_P_signs_in_range).gl T.b_range (aCons (pe_int) (aCons (pe_op oAdd (fGlobI ng_P_signs_in_MOST_SIGNS T.c_MOST_SIGNS) (pe_int)) (pa_nil) rfl) rfl)) (gNK sc_P_signs_in.nd rfl nl_P_signs_in_many (.inl rfl)) (pss_one (ps_if (tCmp1 (oEq) (pe_op oAdd (fV 2 nm_P_signs_in_many rfl) (fCall C_P_marks_in (hr.mono (by decide)) ng_P_signs_in_marks_in pass0 (aCons (fV 2 nm_P_signs_in_many rfl) (aCons (fV 1 nm_P_signs_in_size rfl) (pa_nil) rfl) rfl) rfl)) (fV 0 nm_P_signs_in_length rfl) (nomark _)) (pss_one (ps_ret (fV 2 nm_P_signs_in_many rfl))) (pss_nil)))) (pss_one (fRaiseN rfl (L2N.takes_of rfl rfl rfl rfl) T.e_NoGroups T.g_NoGroups ng_P_signs_in_NoGroups))
theorem rd_P_signs_in (T : TX w K mg) (vs : List V) (H : Hp) (Q : VK) (E : XK) (h : sp_P_signs_in K vs H Q E) : t_P_signs_in P w K mg base E { nx := fun _ H' => Q .non H', rt := Q } (start N_P_signs_in vs) H := by
  obtain ⟨l, z, rfl, hz, q, qe⟩ := h
  refine ⟨_, _, rfl, by decide, for_range (lo := 1) (n := 40) (fun i σ H' => H' = H ∧ (∀ j : Nat, 1 ≤ j → j < i + 1 → j + marksN j z ≠ l) ∧ ∃ v, σ = [some (.int l), some (.int z), v]) ⟨rfl, fun j h1 h2 => by omega, _, rfl⟩ ?_ ?_⟩
  · rintro i σ H' hi ⟨rfl, hj, v, rfl⟩
    refine ⟨1 + i, z, by rfl, by omega, by omega, hz, ?_⟩
    refine iteD (fun c => ?_) (fun c => ?_)
    · exact q (1 + i) (by omega) (by omega) (by omega) (fun j h1 h2 => hj j h1 (by omega))
    · refine ⟨rfl, fun j h1 h2 => ?_, _, rfl⟩
      by_cases e : j = 1 + i
      · subst e
        omega
      · exact hj j h1 (by omega)
  · rintro σ H' ⟨rfl, hj, v, rfl⟩
    exact qe fun m h1 h2 => hj m h1 (by omega)
theorem ok_P_signs_in {P : Program} {w : World} {K : PySem.W.Frag} {mg : Str → Option Value} {base : Heap} (T : TX w K mg) : Fn P w K mg base (L2N.CX P w) 2 "signs_in" (sp_P_signs_in K) := by
  obtain ⟨fd, F⟩ := T.d_P_signs_in
  refine ⟨_, fd, A_P_signs_in, T.g_P_signs_in, F.kp, fnD F sc_P_signs_in (fun vs H Q E h => ?_) (fun cdv A outer s H vs Q E hr h => ⟨_, der_P_signs_in T (ok_P_marks_in T) hr, rd_P_signs_in T vs H Q E h⟩), F.bindsN fun _ _ _ _ _ _ us hl => match us, hl with | [_, _], _ => rfl⟩
  obtain ⟨_, _, rfl, _⟩ := h
  rfl
/-! ### ungrouped -/
def sp_P_ungrouped (K : PySem.W.Frag) : Sp := fun vs H Q E => ∃ (t : List Nat) (z m : Nat), vs = [.str (S t), .int z, .str (S [m])] ∧ t.length ≤ 1000 ∧ z ≤ 1000 ∧
  (∀ l : List Nat, 1 ≤ l.length → l.length ≤ 40 → grp z m l = t → Q (.str (S l)) H) ∧ ((∀ l : List Nat, 1 ≤ l.length → l.length ≤ 40 → grp z m l ≠ t) → E (.ref (He.ga K "NoGroups")) none H)
def t_P_ungrouped (P : Program) (w : World) (K : PySem.W.Frag) (mg : Str → Option Value) (base : Heap) (E : XK) : TS := tSeq (tSetK 3 (tCall (sp_P_signs_in K) [] E (tCons (tCB (rLen1 K) (tCons (tV 0) (tNil))) (tCons (tV 1) (tNil))))) (tSeq (tSetK 4 (tOp qSub (tV 3) (tOp qMul (tV 1) (tCall (sp_P_marks_in) [] E0 (tCons (tV 3) (tCons (tV 1) (tNil))))))) (tSeq (tSetK 5 (tSl (rSlS1) (tV 0) tNoPart (tPart1 (tV 4)))) (tSeq (tFor (iRng1 (tCons (tCall (sp_P_marks_in) [] E0 (tCons (tV 3) (tCons (tV 1) (tNil)))) (tNil))) (gK 6) (tSeq (tSetK 7 (tOp qAdd (tV 4) (tOp qMul (tOp qAdd (tV 1) (tC (.int 1))) (tV 6)))) (tSeq (tIfS (tB1 (tOp (rNe1) (tOp (rIx1 K) (tV 0) (tV 7)) (tV 2))) (tRs E (.ref (He.ga K "NoGroups"))) (tNext)) (tSetK 5 (tOp qAdd (tV 5) (tSl (rSlS1) (tV 0) (tPart1 (tOp qAdd (tV 7) (tC (.int 1)))) (tPart1 (tOp qAdd (tOp qAdd (tV 7) (tC (.int 1))) (tV 1))))))))) (tRet (tV 5)))))
theorem der_P_ungrouped {P : Program} {w : World} {K : PySem.W.Frag} {mg : Str → Option Value} {base : Heap} (T : TX w K mg) (C_P_signs_in : Fn P w K mg base (L2N.CX P w) 2 "signs_in" (sp_P_signs_in K)) (C_P_marks_in : Fn P w K mg base CX0 1 "marks_in" (sp_P_marks_in)) {f : Addr} {cdv : Value} {A : Around} {outer : List Env} {s : Shared} {H : Hp} {E : XK} (hr : Room 2 (A.deeper (envOfC "ungrouped" (defScope s_P_ungrouped) s.heap.objs.size f cdv))) :
    PSs (cxOf ((L2N.CX P w)) P w K mg base N_P_ungrouped "ungrouped" (defScope s_P_ungrouped) f cdv A outer s H E) (defBody s_P_ungrouped) (t_P_ungrouped P w K mg base E) :=
  pss_cons (sSetK (i := 3) sc_P_ungrouped.nd rfl nl_P_ungrouped_many (fCall C_P_signs_in (hr.mono (by decide)) ng_P_ungrouped_signs_in (L2N.passes_call (L2N.takes_of rfl rfl rfl rfl) (fun _ _ _ _ h => h)) (aCons (fB cLen ng_P_ungrouped_len T.b_len bb_len (aCons (fV 0 nm_P_ungrouped_text rfl) (pa_nil) rfl) rfl) (aCons (fV 1 nm_P_ungrouped_size rfl) (pa_nil) rfl) rfl) rfl) rfl (.inl rfl)) (pss_cons (sSetK (i := 4) sc_P_ungrouped.nd rfl nl_P_ungrouped_first (pe_op oSub (fV 3 nm_P_ungrouped_many rfl) (pe_op oMul (fV 1 nm_P_ungrouped_size rfl) (fCall C_P_marks_in (hr.mono (by decide)) ng_P_ungrouped_marks_in pass0 (aCons (fV 3 nm_P_ungrouped_many rfl) (aCons (fV 1 nm_P_ungrouped_size rfl) (pa_nil) rfl) rfl) rfl))) rfl (.inl rfl)) (pss_cons (sSetK (i := 5) sc_P_ungrouped.nd rfl nl_P_ungrouped_found (pe_slice slS1 (fV 0 nm_P_ungrouped_text rfl) po_none (oSome (fV 4 nm_P_ungrouped_first rfl))) rfl (.inl rfl)) (pss_cons (ps_for (passes_of rfl) rfl (pi_range1 (ng_P_ungrouped_range).gl T.b_range (aCons (fCall C_P_marks_in (hr.mono (by decide)) ng_P_ungrouped_marks_in pass0 (aCons (fV 3 nm_P_ungrouped_many rfl) (aCons (fV 1 nm_P_ungrouped_size rfl) (pa_nil) rfl) rfl) rfl) (pa_nil) rfl)) (gNK sc_P_ungrouped.nd rfl nl_P_ungrouped_k (.inl rfl)) (pss_cons (sSetK (i := 7) sc_P_ungrouped.nd rfl nl_P_ungrouped_at (pe_op oAdd (fV 4 nm_P_ungrouped_first rfl) (pe_op oMul (pe_op oAdd (fV 1 nm_P_ungrouped_size rfl) (pe_int)) (fV 6 nm_P_ungrouped_k rfl))) rfl (.inl rfl)) (pss_cons (ps_if (tCmp1 (oNe) (fIx (fV 0 nm_P_ungrouped_text rfl) (fV 7 nm_P_ungrouped_at rfl) (fun _ _ => rfl)) (fV 2 nm_P_ungrouped_mark rfl) (nomark _)) (pss_one (fRaiseN rfl (L2N.takes_of rfl rfl rfl rfl) T.e_NoGroups T.g_NoGroups ng_P_ungrouped_NoGroups)) (pss_nil)) (pss_one (sSetK (i := 5) sc_P_ungrouped.nd rfl nl_P_ungrouped_found (pe_op oAdd (fV 5 nm_P_ungrouped_found rfl) (pe_slice slS1 (fV 0 nm_P_ungrouped_text rfl) (oSome (pe_op oAdd (fV 7 nm_P_ungrouped_at rfl) (pe_int))) (oSome (pe_op oAdd (pe_op oAdd (fV 7 nm_P_ungrouped_at rfl) (pe_int)) (fV 1 nm_P_ungrouped_size rfl))))) rfl (.inl rfl)))))) (pss_one (ps_ret (fV 5 nm_P_ungrouped_found rfl))))))
theorem rd_P_ungrouped (T : TX w K mg) (vs : List V) (H : Hp) (Q : VK) (E : XK) (h : sp_P_ungrouped K vs H Q E) : t_P_ungrouped P w K mg base E { nx := fun _ H' => Q .non H', rt := Q } (start N_P_ungrouped vs) H := by
  obtain ⟨t, z, m, rfl, ht, hz, q, qe⟩ := h
  show t_P_ungrouped P w K mg base E _ [some (.str (S t)), some (.int z), some (.str (S [m])), none, none, none, none, none] H
  refine ⟨t, rfl, by omega, t.length, z, rfl, hz, fun n h1 h2 hn _ => ?_, fun hno => qe fun l l1 l2 e => hno l.length l1 l2 ?_⟩
  rotate_left
  · rw [← e, grp_len z m l (List.length_pos_iff.mp l1)]
  have lp : ∀ l : List Nat, 1 ≤ l.length → l.length ≤ 40 → grp z m l = t → l.length = n := fun l l1 l2 e => by
    have := grp_len z m l (List.length_pos_iff.mp l1)
    rw [e] at this
    exact marks_inj (z := z) (by omega)
  refine ⟨n, z, rfl, h1, by omega, hz, .inl (.inr ⟨by omega, ?_⟩), ?_⟩
  · have : marksN n z ≤ n := by unfold marksN; split; omega; exact Nat.le_trans (Nat.div_le_self _ _) (by omega)
    omega
  -- the first group
  obtain ⟨f, hf, hf1, hf2⟩ : ∃ f : Nat, (n : Int) - (z : Int) * (marksN n z : Nat) = f ∧ 1 ≤ f ∧ (n = f + z * marksN n z ∧ (z = 0 ∨ f ≤ z)) := by
    by_cases c : z = 0
    · subst c
      exact ⟨n, by simp, h1, by simp⟩
    · have e : marksN n z = (n - 1) / z := if_neg c
      have e2 := Nat.div_add_mod (n - 1) z
      have e3 : (n - 1) % z < z := Nat.mod_lt _ (by omega)
      rw [e]
      generalize hk : z * ((n - 1) / z) = k at e2
      refine ⟨n - k, ?_, by omega, by omega, .inr (by omega)⟩
      rw [← hk, Int.natCast_sub (by omega), Int.natCast_mul]
  obtain ⟨hf2, hf3⟩ := hf2
  refine subI hf ?_
  refine ⟨t, rfl, by omega, ?_⟩
  rw [cutN_to (by omega), show ((f : Int)).toNat = f by omega]
  generalize hM : marksN n z = M at hf2
  rw [hM] at hn
  have hz0 : 0 < M → 0 < z := fun hm => by
    rcases Nat.eq_zero_or_pos z with c | c
    · subst c
      rw [← hM] at hm
      exact absurd hm (by unfold marksN; simp)
    · exact c
  have lf : (t.take f).length = f := by
    rw [List.length_take]
    omega
  refine ⟨n, z, rfl, h1, by omega, hz, _, rfl, by omega, by omega, ?_⟩
  rw [hM, show ((M : Nat) : Int).toNat = M by omega]
  refine for_range (lo := 0) (n := M) (fun i σ H' => H' = H ∧ ∃ (g : List Nat) (u v : Option V), i ≤ M ∧ g.length = f + z * i ∧ grp z m g = t.take (f + (z + 1) * i) ∧ σ = [some (.str (S t)), some (.int z), some (.str (S [m])), some (.int n), some (.int f), some (.str (S g)), u, v]) ⟨rfl, t.take f, _, _, by omega, by rw [lf]; omega, ?_, rfl⟩ ?_ ?_
  · rw [grp_small]
    · rw [show f + (z + 1) * 0 = f by omega]
    · rw [lf]
      exact hf3
  · rintro i σ H' hi ⟨rfl, g, u, v, _, hg, hgr, rfl⟩
    have hzp := hz0 (by omega)
    have hf4 : f ≤ z := by omega
    obtain ⟨b, rfl⟩ : ∃ b, M = i + 1 + b := ⟨M - (i + 1), by omega⟩
    have hmul1 : z * (i + 1 + b) = z * i + z + z * b := by rw [Nat.mul_add, Nat.mul_add, Nat.mul_one]
    have hmul2 : (z + 1) * i = z * i + i := by rw [Nat.add_mul, Nat.one_mul]
    have hat : (f : Int) + ((z : Int) + 1) * (0 + (i : Int)) = ((f + z * i + i : Nat) : Int) := by
      rw [Int.zero_add, Int.add_mul, Int.one_mul, Int.natCast_add, Int.natCast_add, Int.natCast_mul]
      omega
    refine ⟨.inl (.inr ⟨by omega, by omega⟩), addI hat ?_⟩
    have hlt : f + z * i + i < t.length := by omega
    refine ⟨t, t[f + z * i + i], rfl, by omega, atI_nat (List.getElem?_eq_getElem hlt), ?_⟩
    refine iteB (fun c => ?_) (fun c => ?_)
    · -- another sign: no such list
      have hne : t[f + z * i + i] ≠ m := by
        intro e
        rw [e] at c
        simp at c
      refine qe fun l l1 l2 e => hne ?_
      have hl := lp l l1 l2 e
      have e1 : l = l.take (f + z * i) ++ l.drop (f + z * i) := (List.take_append_drop _ _).symm
      have d1 : (l.take (f + z * i)).length = f + z * i := by
        rw [List.length_take]
        omega
      have d2 : (l.drop (f + z * i)).length = z * (1 + b) := by
        rw [List.length_drop, Nat.mul_add, Nat.mul_one]
        omega
      have n1 : l.take (f + z * i) ≠ [] := fun q => by
        rw [q] at d1
        simp at d1
        omega
      have n2 : l.drop (f + z * i) ≠ [] := fun q => by
        rw [q] at d2
        have : z * (1 + b) = z + z * b := by rw [Nat.mul_add, Nat.mul_one]
        simp at d2
        omega
      have e2 := grp_app (m := m) hzp _ _ n1 n2 (by rw [d2, Nat.mul_mod_right])
      rw [← e1, e] at e2
      have d3 : (grp z m (l.take (f + z * i))).length = f + z * i + i := by
        rw [grp_len z m _ n1, d1, marks_at hf1 hf4]
      have e3 : t[f + z * i + i]? = some m := by
        rw [e2, List.getElem?_append_right (by omega), d3, Nat.sub_self]
        rfl
      rw [List.getElem?_eq_getElem hlt] at e3
      injection e3
    · -- the mark: the next group
      have hm : t[f + z * i + i] = m := by
        by_cases e : t[f + z * i + i] = m
        · exact e
        · have c2 : (!decide (S [t[f + z * i + i]] = S [m])) = false := c
          rw [decide_eq_false (fun q => e (by have := S_inj q; injection this))] at c2
          cases c2
      have eb : cutN t (some (((f + z * i + i : Nat) : Int) + 1)) (some (((f + z * i + i : Nat) : Int) + 1 + (z : Int))) = (t.drop (f + z * i + i + 1)).take z := by
        rw [cutN_fromto (by omega) (by omega)]
        congr 1
        · omega
      have lb : ((t.drop (f + z * i + i + 1)).take z).length = z := by
        rw [List.length_take, List.length_drop]
        omega
      refine ⟨t, rfl, by omega, ?_⟩
      rw [eb]
      refine ⟨g, _, rfl, rfl, by rw [hg, lb]; omega, ?_⟩
      have ng : g ≠ [] := fun q => by
        rw [q] at hg
        simp at hg
        omega
      have nb : (t.drop (f + z * i + i + 1)).take z ≠ [] := fun q => by
        rw [q] at lb
        simp at lb
        omega
      refine ⟨rfl, g ++ (t.drop (f + z * i + i + 1)).take z, _, _, by omega, ?_, ?_, rfl⟩
      · rw [List.length_append, hg, lb, Nat.mul_add]
        omega
      · rw [grp_app hzp g _ ng nb (by rw [lb, Nat.mod_self]), hgr, grp_small _ (.inr (Nat.le_of_eq lb))]
        have e4 : f + (z + 1) * (i + 1) = f + (z + 1) * i + (1 + z) := by
          rw [Nat.mul_add]
          omega
        have e5 : f + (z + 1) * i = f + z * i + i := by omega
        have e6 : t.take (f + z * i + i + (1 + z)) = t.take (f + z * i + i) ++ (t.drop (f + z * i + i)).take (1 + z) := List.take_add
        rw [e4, e5, e6]
        congr 1
        have hd : t.drop (f + z * i + i) = m :: t.drop (f + z * i + i + 1) := by
          rw [← List.getElem_cons_drop hlt, hm]
        rw [hd, Nat.add_comm 1 z]
        rfl
  · rintro σ H' ⟨rfl, g, u, v, _, hg, hgr, rfl⟩
    have hmul2 : (z + 1) * M = z * M + M := by rw [Nat.add_mul, Nat.one_mul]
    refine q g (by omega) (by omega) ?_
    rw [hgr, List.take_of_length_le (by omega)]
theorem ok_P_ungrouped {P : Program} {w : World} {K : PySem.W.Frag} {mg : Str → Option Value} {base : Heap} (T : TX w K mg) : Fn P w K mg base (L2N.CX P w) 3 "ungrouped" (sp_P_ungrouped K) := by
  obtain ⟨fd, F⟩ := T.d_P_ungrouped
  refine ⟨_, fd, A_P_ungrouped, T.g_P_ungrouped, F.kp, fnD F sc_P_ungrouped (fun vs H Q E h => ?_) (fun cdv A outer s H vs Q E hr h => ⟨_, der_P_ungrouped T (ok_P_signs_in T) (ok_P_marks_in T) hr, rd_P_ungrouped T vs H Q E h⟩), F.bindsN fun _ _ _ _ _ _ us hl => match us, hl with | [_, _, _], _ => rfl⟩
  obtain ⟨_, _, _, rfl, _⟩ := h
  rfl
/-! ### number_of -/
def sp_P_number_of (K : PySem.W.Frag) : Sp := fun vs H Q E => ∃ (t : List Nat) (b : Nat), vs = [.str (S t), .int b] ∧ t.length ≤ 200 ∧ 2 ≤ b ∧ b ≤ 16 ∧
  (1 ≤ t.length → (∀ c ∈ t, isFig b c) → Q (.int (valN b t : Nat)) H) ∧ (¬ (1 ≤ t.length ∧ ∀ c ∈ t, isFig b c) → E (.ref (He.ga K "NoFigures")) none H)
def t_P_number_of (P : Program) (w : World) (K : PySem.W.Frag) (mg : Str → Option Value) (base : Heap) (E : XK) : TS := tSeq (tIfS (tOr (tNot (tB1 (tCB (rIsi1) (tCons (tV 0) (tCons (tC (.ty "str")) (tNil)))))) (tNot (tTest (tChain (rCmp fun i j => decide (i ≤ j)) (rCmp fun i j => decide (i ≤ j)) (tC (.int 1)) (tCB (rLen1 K) (tCons (tV 0) (tNil))) (tC (.int 240)))))) (tRs E (.ref (He.ga K "NoFigures"))) (tNext)) (tSeq (tSetK 2 (tC (.int 0))) (tSeq (tFor (iStr (tV 0)) (gK 3) (tSeq (tSetK 4 (tM1 (rFind1) (tSl (rSlS1) (tC (.str (S figs16))) tNoPart (tPart1 (tV 1))) (tV 3))) (tSeq (tIfS (tB1 (tOp (rCmp fun i j => decide (i < j)) (tV 4) (tC (.int 0)))) (tRs E (.ref (He.ga K "NoFigures"))) (tNext)) (tSetK 2 (tOp qAdd (tOp qMul (tV 2) (tV 1)) (tV 4)))))) (tRet (tV 2))))
theorem der_P_number_of {P : Program} {w : World} {K : PySem.W.Frag} {mg : Str → Option Value} {base : Heap} (T : TX w K mg) {f : Addr} {cdv : Value} {A : Around} {outer : List Env} {s : Shared} {H : Hp} {E : XK} (hr : Room 0 (A.deeper (envOfC "number_of" (defScope s_P_number_of) s.heap.objs.size f cdv))) :
    PSs (cxOf ((L2N.CX P w)) P w K mg base N_P_number_of "number_of" (defScope s_P_number_of) f cdv A outer s H E) (defBody s_P_number_of) (t_P_number_of P w K mg base E) :=
  pss_cons (ps_if (PW.pt (pw_or (pt_not (tVal1 (fB cIsi ng_P_number_of_isinstance T.b_isinstance bb_isinstance (aCons (fV 0 nm_P_number_of_text rfl) (aCons (fTy ng_P_number_of_str T.b_str bb_str) (pa_nil) rfl) rfl) rfl) (fun _ => rfl))) (pw_or1 (pt_not (pt_chain oLe oLe (pe_int) (fB cLen ng_P_number_of_len T.b_len bb_len (aCons (fV 0 nm_P_number_of_text rfl) (pa_nil) rfl) rfl) (fGlobI ng_P_number_of_MOST_FIGURES T.c_MOST_FIGURES)))))) (pss_one (fRaiseN rfl (L2N.takes_of rfl rfl rfl rfl) T.e_NoFigures T.g_NoFigures ng_P_number_of_NoFigures)) (pss_nil)) (pss_cons (sSetK (i := 2) sc_P_number_of.nd rfl nl_P_number_of_number (pe_int) rfl (.inl rfl)) (pss_cons (ps_for (passes_of rfl) rfl (pi_str (fV 0 nm_P_number_of_text rfl)) (gNK sc_P_number_of.nd rfl nl_P_number_of_sign (.inl rfl)) (pss_cons (sSetK (i := 4) sc_P_number_of.nd rfl nl_P_number_of_figure (fM1 PySem.F.slot_str_find PySem.F.type_str_find mFind (pe_slice slS1 (fGlobS ng_P_number_of_FIGURES T.c_FIGURES) po_none (oSome (fV 1 nm_P_number_of_base rfl))) (fV 3 nm_P_number_of_sign rfl) rfl rfl rfl) rfl (.inl rfl)) (pss_cons (ps_if (tCmp1 (oLt) (fV 4 nm_P_number_of_figure rfl) (pe_int) (nomark _)) (pss_one (fRaiseN rfl (L2N.takes_of rfl rfl rfl rfl) T.e_NoFigures T.g_NoFigures ng_P_number_of_NoFigures)) (pss_nil)) (pss_one (sSetK (i := 2) sc_P_number_of.nd rfl nl_P_number_of_number (pe_op oAdd (pe_op oMul (fV 2 nm_P_number_of_number rfl) (fV 1 nm_P_number_of_base rfl)) (fV 4 nm_P_number_of_figure rfl)) rfl (.inl rfl)))))) (pss_one (ps_ret (fV 2 nm_P_number_of_number rfl)))))
theorem kit_ss : kitB "str" "str" = some true := by decide +kernel
theorem rd_P_number_of (T : TX w K mg) (vs : List V) (H : Hp) (Q : VK) (E : XK) (h : sp_P_number_of K vs H Q E) : t_P_number_of P w K mg base E { nx := fun _ H' => Q .non H', rt := Q } (start N_P_number_of vs) H := by
  obtain ⟨t, b, rfl, ht, hb, hb2, q, qe⟩ := h
  refine ifP (p := ¬ 1 ≤ t.length) (fun Q' q' => ⟨_, true, .str _, kit_ss, t, rfl, by omega, _, rfl, iteD (fun c1 => ⟨_, rfl, ?_⟩) (fun c1 => ⟨_, rfl, ?_⟩)⟩) (fun c => qe fun z => c z.1) (fun c => ?_)
  · rw [decF (by omega)] at q'
    have e : decide (((t.length : Nat) : Int) ≤ 240) = true := decT (by omega)
    show Q' (!decide (((t.length : Nat) : Int) ≤ 240)) H
    rw [e]
    exact q'
  · rw [decT (by omega)] at q'
    exact q'
  refine ⟨S t, rfl, for_str (l := t) (fun i σ H' => H' = H ∧ (∀ c ∈ t.take i, isFig b c) ∧ ∃ (u v : Option V), σ = [some (.str (S t)), some (.int b), some (.int (valN b (t.take i) : Nat)), u, v]) ⟨rfl, fun c hc => by simp at hc, _, _, rfl⟩ ?_ ?_⟩
  · rintro i c σ H' hi ⟨rfl, ha, u, v, rfl⟩
    refine ⟨figs16, rfl, l100 rfl, ⟨_, rfl⟩, figs16.take b, c, ?_, rfl, ?_⟩
    · rw [cutN_to (by omega), show ((b : Nat) : Int).toNat = b by omega]
    have hlt : i < t.length := (List.getElem?_eq_some_iff.mp hi).1
    have et : t.take (i + 1) = t.take i ++ [c] := by
      rw [List.take_add_one, hi]
      rfl
    by_cases hc : isFig b c
    · rw [fnd_fig hc]
      refine ⟨.inr ?_, ⟨rfl, ?_, some (.str (S [c])), some (.int (figs16.idxOf c : Nat)), ?_⟩⟩
      · have h3 : valN b (t.take i) < 2 ^ 4000 := by
          have h4 := val_lt _ _ rfl ha
          have h5 : b ^ (t.take i).length ≤ 16 ^ (t.take i).length := Nat.pow_le_pow_left hb2 _
          have h6 : (t.take i).length ≤ 200 := by rw [List.length_take]; omega
          have h7 : 16 ^ (t.take i).length ≤ 16 ^ 200 := Nat.pow_le_pow_right (by decide) h6
          have h8 : 16 ^ 200 < 2 ^ 4000 := by decide
          omega
        exact wide_mul (a := 4000) (b := 10) (by rw [Int.natAbs_natCast]; exact h3) (by omega) (by decide) (by decide) (by decide)
      · intro x hx
        rw [et] at hx
        rcases List.mem_append.mp hx with hx | hx
        · exact ha x hx
        · rw [List.mem_singleton.mp hx]
          exact hc
      · rw [et, val_snoc, Int.natCast_add, Int.natCast_mul]
    · rw [fnd_no hc]
      exact qe fun z => hc (z.2 c (List.mem_of_getElem? hi))
  · rintro σ H' ⟨rfl, ha, u, v, rfl⟩
    rw [List.take_length] at ha ⊢
    exact q (by omega) ha
theorem ok_P_number_of {P : Program} {w : World} {K : PySem.W.Frag} {mg : Str → Option Value} {base : Heap} (T : TX w K mg) : Fn P w K mg base (L2N.CX P w) 1 "number_of" (sp_P_number_of K) := by
  obtain ⟨fd, F⟩ := T.d_P_number_of
  refine ⟨_, fd, A_P_number_of, T.g_P_number_of, F.kp, fnD F sc_P_number_of (fun vs H Q E h => ?_) (fun cdv A outer s H vs Q E hr h => ⟨_, der_P_number_of T  hr, rd_P_number_of T vs H Q E h⟩), F.bindsN fun _ _ _ _ _ _ us hl => match us, hl with | [_, _], _ => rfl⟩
  obtain ⟨_, _, rfl, _⟩ := h
  rfl
/-! ### worth_of -/
def sp_P_worth_of (K : PySem.W.Frag) : Sp := fun vs H Q E => ∃ (t : List Nat) (b : Nat), vs = [.str (S t), .int b] ∧ t.length ≤ 200 ∧ 2 ≤ b ∧ b ≤ 16 ∧
  (1 ≤ t.length → (∀ c ∈ t, isFig b c) → Q (.int (valN b t : Nat)) H) ∧ (¬ (1 ≤ t.length ∧ ∀ c ∈ t, isFig b c) → E (.ref (He.ga K "NoBody")) none H)
def t_P_worth_of (P : Program) (w : World) (K : PySem.W.Frag) (mg : Str → Option Value) (base : Heap) (E : XK) : TS := tTryO K (.ref (He.ga K "NoFigures")) (fun _ _ _ => tRs E (.ref (He.ga K "NoBody"))) (fun cls d _ H => E cls d H) (fun W => tRet (tCallS (sp_P_number_of K) (WE W) (tCons (tV 0) (tCons (tV 1) (tNil)))))
theorem der_P_worth_of {P : Program} {w : World} {K : PySem.W.Frag} {mg : Str → Option Value} {base : Heap} (T : TX w K mg) (C_P_number_of : Fn P w K mg base (L2N.CX P w) 1 "number_of" (sp_P_number_of K)) {f : Addr} {cdv : Value} {A : Around} {outer : List Env} {s : Shared} {H : Hp} {E : XK} (hr : Room 1 (A.deeper (envOfC "worth_of" (defScope s_P_worth_of) s.heap.objs.size f cdv))) :
    PSs (cxOf ((L2.CX P w)) P w K mg base N_P_worth_of "worth_of" (defScope s_P_worth_of) f cdv A outer s H E) (defBody s_P_worth_of) (t_P_worth_of P w K mg base E) :=
  pss_one (fTryX rfl rfl ng_P_worth_of_NoFigures T.g_NoFigures (fun hd => L2H.passesAt_of rfl hd) (L2.takes_of rfl rfl rfl rfl) (fun W pn xe tk => pss_one (ps_ret (fCallS C_P_number_of (hr.mono (by decide)) ng_P_worth_of_number_of (fun σ => L2N.passAt tk σ) (aCons (fV 0 nm_P_worth_of_text rfl) (aCons (fV 1 nm_P_worth_of_base rfl) (pa_nil) rfl) rfl) rfl))) (fun a oe pn tkS hot => pss_one (fRaiseH hot tkS T.e_NoBody T.g_NoBody ng_P_worth_of_NoBody)))
theorem rd_P_worth_of (T : TX w K mg) (vs : List V) (H : Hp) (Q : VK) (E : XK) (h : sp_P_worth_of K vs H Q E) : t_P_worth_of P w K mg base E { nx := fun _ H' => Q .non H', rt := Q } (start N_P_worth_of vs) H := by
  obtain ⟨t, b, rfl, ht, hb, hb2, q, qe⟩ := h
  exact ⟨t, b, rfl, ht, hb, hb2, q, fun z => ⟨true, T.x_NoFigures_NoFigures, fun _ a _ => qe z, fun z => nomatch z⟩⟩
theorem ok_P_worth_of {P : Program} {w : World} {K : PySem.W.Frag} {mg : Str → Option Value} {base : Heap} (T : TX w K mg) : Fn P w K mg base (L2.CX P w) 2 "worth_of" (sp_P_worth_of K) := by
  obtain ⟨fd, F⟩ := T.d_P_worth_of
  refine ⟨_, fd, A_P_worth_of, T.g_P_worth_of, F.kp, fnD F sc_P_worth_of (fun vs H Q E h => ?_) (fun cdv A outer s H vs Q E hr h => ⟨_, der_P_worth_of T (ok_P_number_of T) hr, rd_P_worth_of T vs H Q E h⟩), F.bindsN fun _ _ _ _ _ _ us hl => match us, hl with | [_, _], _ => rfl⟩
  obtain ⟨_, _, rfl, _⟩ := h
  rfl
/-! ### whole_in -/
def sp_P_whole_in (K : PySem.W.Frag) : Sp := fun vs H Q E => ∃ (t : List Nat) (b z m : Nat), vs = [.str (S t), .int b, .int z, .str (S [m])] ∧ t.length ≤ 200 ∧ 2 ≤ b ∧ b ≤ 16 ∧ z ≤ 1000 ∧
  (∀ l, IsW b l → grp z m l = t → Q (.int (valN b l : Nat)) H) ∧ ((∀ l, IsW b l → grp z m l ≠ t) → E (.ref (He.ga K "NoBody")) none H)
def t_P_whole_in (P : Program) (w : World) (K : PySem.W.Frag) (mg : Str → Option Value) (base : Heap) (E : XK) : TS := tSeq (tTryO K (.ref (He.ga K "NoGroups")) (fun _ _ _ => tRs E (.ref (He.ga K "NoBody"))) (fun cls d _ H => E cls d H) (fun W => tSetK 4 (tCallS (sp_P_ungrouped K) (WE W) (tCons (tV 0) (tCons (tV 2) (tCons (tV 3) (tNil))))))) (tSeq (tIfS (tAnd (tB1 (tOp (rEq1) (tOp (rIx1 K) (tV 4) (tC (.int 0))) (tC (.str (S [48]))))) (tB1 (tOp (rCmp fun i j => decide (j < i)) (tCB (rLen1 K) (tCons (tV 4) (tNil))) (tC (.int 1))))) (tRs E (.ref (He.ga K "NoBody"))) (tNext)) (tRet (tCall (sp_P_worth_of K) [] E (tCons (tV 4) (tCons (tV 1) (tNil))))))
theorem der_P_whole_in {P : Program} {w : World} {K : PySem.W.Frag} {mg : Str → Option Value} {base : Heap} (T : TX w K mg) (C_P_ungrouped : Fn P w K mg base (L2N.CX P w) 3 "ungrouped" (sp_P_ungrouped K)) (C_P_worth_of : Fn P w K mg base (L2.CX P w) 2 "worth_of" (sp_P_worth_of K)) {f : Addr} {cdv : Value} {A : Around} {outer : List Env} {s : Shared} {H : Hp} {E : XK} (hr : Room 3 (A.deeper (envOfC "whole_in" (defScope s_P_whole_in) s.heap.objs.size f cdv))) :
    PSs (cxOf ((L2.CX P w)) P w K mg base N_P_whole_in "whole_in" (defScope s_P_whole_in) f cdv A outer s H E) (defBody s_P_whole_in) (t_P_whole_in P w K mg base E) :=
  pss_cons (fTryX rfl rfl ng_P_whole_in_NoGroups T.g_NoGroups (fun hd => L2H.passesAt_of rfl hd) (L2.takes_of rfl rfl rfl rfl) (fun W pn xe tk => pss_one (sSetK (i := 4) sc_P_whole_in.nd rfl nl_P_whole_in_told (fCallS C_P_ungrouped (hr.mono (by decide)) ng_P_whole_in_ungrouped (fun σ => L2N.passAt tk σ) (aCons (fV 0 nm_P_whole_in_text rfl) (aCons (fV 2 nm_P_whole_in_size rfl) (aCons (fV 3 nm_P_whole_in_mark rfl) (pa_nil) rfl) rfl) rfl) rfl) rfl (.inl rfl))) (fun a oe pn tkS hot => pss_one (fRaiseH hot tkS T.e_NoBody T.g_NoBody ng_P_whole_in_NoBody))) (pss_cons (ps_if (PW.pt (pw_and (tCmp1 (oEq) (fIx (fV 4 nm_P_whole_in_told rfl) (pe_int) (fun _ _ => rfl)) (fS rfl) (nomark _)) (pw_and1 (tCmp1 (oGt) (fB cLen ng_P_whole_in_len T.b_len bb_len (aCons (fV 4 nm_P_whole_in_told rfl) (pa_nil) rfl) rfl) (pe_int) (nomark _))))) (pss_one (fRaiseL rfl (L2.takes_of rfl rfl rfl rfl) T.e_NoBody T.g_NoBody ng_P_whole_in_NoBody)) (pss_nil)) (pss_one (ps_ret (fCall C_P_worth_of (hr.mono (by decide)) ng_P_whole_in_worth_of (L2.passes_call (L2.takes_of rfl rfl rfl rfl) (fun _ _ _ _ h => h)) (aCons (fV 4 nm_P_whole_in_told rfl) (aCons (fV 1 nm_P_whole_in_base rfl) (pa_nil) rfl) rfl) rfl))))
theorem rd_P_whole_in (T : TX w K mg) (vs : List V) (H : Hp) (Q : VK) (E : XK) (h : sp_P_whole_in K vs H Q E) : t_P_whole_in P w K mg base E { nx := fun _ H' => Q .non H', rt := Q } (start N_P_whole_in vs) H := by
  obtain ⟨t, b, z, m, rfl, ht, hb, hb2, hz, q, qe⟩ := h
  have inj : ∀ l l' : List Nat, 1 ≤ l.length → 1 ≤ l'.length → grp z m l = t → grp z m l' = t → l = l' := fun l l' h1 h2 e1 e2 => by
    exact grp_inj h1 h2 (e1.trans e2.symm)
  refine ⟨t, z, m, rfl, by omega, hz, fun l l1 l2 e => ?_, fun hno => ⟨true, T.x_NoGroups_NoGroups, fun _ a _ => qe fun l w => hno l w.l1 w.l2, fun z => nomatch z⟩⟩
  have hlt : 0 < l.length := l1
  refine ⟨l, l[0], rfl, by omega, atI_nat (j := 0) (List.getElem?_eq_getElem hlt), ?_⟩
  have hh : l.head? = some l[0] := by
    rw [List.head?_eq_getElem?, List.getElem?_eq_getElem hlt]
  have no : ¬ IsW b l → ∀ l', IsW b l' → grp z m l' ≠ t := fun hn l' w' e' => hn (by rw [inj l l' l1 w'.l1 e e']; exact w')
  have rest : (l.head? = some 48 → l.length = 1) → sp_P_worth_of K [.str (S l), .int b] H Q E := fun hld =>
    ⟨l, b, rfl, by omega, hb, hb2, fun h1 h2 => q l ⟨l1, l2, h2, hld⟩ e, fun hn => qe (no fun w => hn ⟨w.l1, w.fg⟩)⟩
  refine iteD (fun c => ⟨l, rfl, by omega, ?_⟩) (fun c => rest fun z => ?_)
  · refine iteD (fun c2 => ?_) (fun c2 => rest fun _ => by omega)
    refine qe (no fun w => ?_)
    have e3 : l[0] = 48 := by
      have := S_inj c
      injection this
    have := w.ld (by rw [hh, e3])
    omega
  · rw [hh] at z
    injection z with z
    exact absurd (show S [l[0]] = S [48] by rw [z]) c
theorem ok_P_whole_in {P : Program} {w : World} {K : PySem.W.Frag} {mg : Str → Option Value} {base : Heap} (T : TX w K mg) : Fn P w K mg base (L2.CX P w) 4 "whole_in" (sp_P_whole_in K) := by
  obtain ⟨fd, F⟩ := T.d_P_whole_in
  refine ⟨_, fd, A_P_whole_in, T.g_P_whole_in, F.kp, fnD F sc_P_whole_in (fun vs H Q E h => ?_) (fun cdv A outer s H vs Q E hr h => ⟨_, der_P_whole_in T (ok_P_ungrouped T) (ok_P_worth_of T) hr, rd_P_whole_in T vs H Q E h⟩), F.bindsN fun _ _ _ _ _ _ us hl => match us, hl with | [_, _, _, _], _ => rfl⟩
  obtain ⟨_, _, _, _, rfl, _⟩ := h
  rfl
theorem atI_eq {α : Type} {l : List α} {i : Int} {j : Nat} {v : α} (h : i = j) (h2 : l[j]? = some v) : atI l i = some v := by
  subst h
  exact atI_nat h2
/-! ### number_in -/
def sp_P_number_in (K : PySem.W.Frag) : Sp := fun vs H Q E => ∃ (t : List Nat) (b pl pt z m : Nat), vs = [.str (S t), .int b, .int pl, .str (S [pt]), .int z, .str (S [m])] ∧ t.length ≤ 200 ∧ 2 ≤ b ∧ b ≤ 16 ∧ z ≤ 1000 ∧ pl ≤ 50 ∧
  (∀ k : Nat, IsBody b z m pt pl t k → Q (.int k) H) ∧ ((∀ k, ¬ IsBody b z m pt pl t k) → E (.ref (He.ga K "NoBody")) none H)
def t_P_number_in (P : Program) (w : World) (K : PySem.W.Frag) (mg : Str → Option Value) (base : Heap) (E : XK) : TS := tSeq (tIfS (tB1 (tOp (rEq1) (tV 2) (tC (.int 0)))) (tRet (tCall (sp_P_whole_in K) [] E (tCons (tV 0) (tCons (tV 1) (tCons (tV 4) (tCons (tV 5) (tNil))))))) (tNext)) (tSeq (tSetK 6 (tOp qSub (tOp qSub (tCB (rLen1 K) (tCons (tV 0) (tNil))) (tV 2)) (tC (.int 1)))) (tSeq (tIfS (tOr (tB1 (tOp (rCmp fun i j => decide (i < j)) (tV 6) (tC (.int 1)))) (tB1 (tOp (rNe1) (tOp (rIx1 K) (tV 0) (tV 6)) (tV 3)))) (tRs E (.ref (He.ga K "NoBody"))) (tNext)) (tSeq (tSetK 7 (tCall (sp_P_whole_in K) [] E (tCons (tSl (rSlS1) (tV 0) tNoPart (tPart1 (tV 6))) (tCons (tV 1) (tCons (tV 4) (tCons (tV 5) (tNil))))))) (tRet (tOp qAdd (tOp qMul (tV 7) (tCall (sp_L_power) [] E0 (tCons (tV 1) (tCons (tV 2) (tNil))))) (tCall (sp_P_worth_of K) [] E (tCons (tSl (rSlS1) (tV 0) (tPart1 (tOp qAdd (tV 6) (tC (.int 1)))) tNoPart) (tCons (tV 1) (tNil)))))))))
theorem der_P_number_in {P : Program} {w : World} {K : PySem.W.Frag} {mg : Str → Option Value} {base : Heap} (T : TX w K mg) (C_P_whole_in : Fn P w K mg base (L2.CX P w) 4 "whole_in" (sp_P_whole_in K)) (C_P_power_of : Fn P w K mg base CX0 1 "power_of" (sp_L_power)) (C_P_worth_of : Fn P w K mg base (L2.CX P w) 2 "worth_of" (sp_P_worth_of K)) {f : Addr} {cdv : Value} {A : Around} {outer : List Env} {s : Shared} {H : Hp} {E : XK} (hr : Room 4 (A.deeper (envOfC "number_in" (defScope s_P_number_in) s.heap.objs.size f cdv))) :
    PSs (cxOf ((L2.CX P w)) P w K mg base N_P_number_in "number_in" (defScope s_P_number_in) f cdv A outer s H E) (defBody s_P_number_in) (t_P_number_in P w K mg base E) :=
  pss_cons (ps_if (tCmp1 (oEq) (fV 2 nm_P_number_in_places rfl) (pe_int) (nomark _)) (pss_one (ps_ret (fCall C_P_whole_in (hr.mono (by decide)) ng_P_number_in_whole_in (L2.passes_call (L2.takes_of rfl rfl rfl rfl) (fun _ _ _ _ h => h)) (aCons (fV 0 nm_P_number_in_body rfl) (aCons (fV 1 nm_P_number_in_base rfl) (aCons (fV 4 nm_P_number_in_size rfl) (aCons (fV 5 nm_P_number_in_mark rfl) (pa_nil) rfl) rfl) rfl) rfl) rfl))) (pss_nil)) (pss_cons (sSetK (i := 6) sc_P_number_in.nd rfl nl_P_number_in_at (pe_op oSub (pe_op oSub (fB cLen ng_P_number_in_len T.b_len bb_len (aCons (fV 0 nm_P_number_in_body rfl) (pa_nil) rfl) rfl) (fV 2 nm_P_number_in_places rfl)) (pe_int)) rfl (.inl rfl)) (pss_cons (ps_if (PW.pt (pw_or (tCmp1 (oLt) (fV 6 nm_P_number_in_at rfl) (pe_int) (nomark _)) (pw_or1 (tCmp1 (oNe) (fIx (fV 0 nm_P_number_in_body rfl) (fV 6 nm_P_number_in_at rfl) (fun _ _ => rfl)) (fV 3 nm_P_number_in_point rfl) (nomark _))))) (pss_one (fRaiseL rfl (L2.takes_of rfl rfl rfl rfl) T.e_NoBody T.g_NoBody ng_P_number_in_NoBody)) (pss_nil)) (pss_cons (sSetK (i := 7) sc_P_number_in.nd rfl nl_P_number_in_whole (fCall C_P_whole_in (hr.mono (by decide)) ng_P_number_in_whole_in (L2.passes_call (L2.takes_of rfl rfl rfl rfl) (fun _ _ _ _ h => h)) (aCons (pe_slice slS1 (fV 0 nm_P_number_in_body rfl) po_none (oSome (fV 6 nm_P_number_in_at rfl))) (aCons (fV 1 nm_P_number_in_base rfl) (aCons (fV 4 nm_P_number_in_size rfl) (aCons (fV 5 nm_P_number_in_mark rfl) (pa_nil) rfl) rfl) rfl) rfl) rfl) rfl (.inl rfl)) (pss_one (ps_ret (pe_op oAdd (pe_op oMul (fV 7 nm_P_number_in_whole rfl) (fCall C_P_power_of (hr.mono (by decide)) ng_P_number_in_power_of pass0 (aCons (fV 1 nm_P_number_in_base rfl) (aCons (fV 2 nm_P_number_in_places rfl) (pa_nil) rfl) rfl) rfl)) (fCall C_P_worth_of (hr.mono (by decide)) ng_P_number_in_worth_of (L2.passes_call (L2.takes_of rfl rfl rfl rfl) (fun _ _ _ _ h => h)) (aCons (pe_slice slS1 (fV 0 nm_P_number_in_body rfl) (oSome (pe_op oAdd (fV 6 nm_P_number_in_at rfl) (pe_int))) po_none) (aCons (fV 1 nm_P_number_in_base rfl) (pa_nil) rfl) rfl) rfl)))))))
theorem rd_P_number_in (T : TX w K mg) (vs : List V) (H : Hp) (Q : VK) (E : XK) (h : sp_P_number_in K vs H Q E) : t_P_number_in P w K mg base E { nx := fun _ H' => Q .non H', rt := Q } (start N_P_number_in vs) H := by
  obtain ⟨t, b, pl, pt, z, m, rfl, ht, hb, hb2, hz, hpl, q, qe⟩ := h
  refine iteD (fun c => ?_) (fun c => ?_)
  · have c' : pl = 0 := by omega
    exact ⟨t, b, z, m, rfl, ht, hb, hb2, hz, fun l w e => q _ (.inl ⟨c', l, w, e, rfl⟩), fun hno => qe fun k hk => by
      rcases hk with ⟨_, l, w, e, _⟩ | ⟨h, _⟩
      · exact hno l w e
      · omega⟩
  have hp : 0 < pl := by omega
  refine ⟨t, rfl, by omega, ?_⟩
  have len : ∀ k, IsBody b z m pt pl t k → ∃ i : Nat, t.length = i + (pl + 1) ∧ 1 ≤ i ∧ t[i]? = some pt ∧ ∃ l d, IsW b l ∧ d.length = pl ∧ (∀ c ∈ d, isFig b c) ∧ grp z m l = t.take i ∧ d = t.drop (i + 1) ∧ k = valN b l * b ^ pl + valN b d := fun k hk => by
    rcases hk with ⟨h, _⟩ | ⟨_, l, d, w, hd, hf, e, hk⟩
    · omega
    · have hl := grp_len z m l (List.length_pos_iff.mp w.l1)
      have h1 := w.l1
      refine ⟨(grp z m l).length, ?_, by omega, ?_, l, d, w, hd, hf, ?_, ?_, hk⟩
      · rw [← e, List.length_append, List.length_cons, hd]
      · rw [← e, List.getElem?_append_right (Nat.le_refl _), Nat.sub_self]
        rfl
      · rw [← e, List.take_left']
        rfl
      · rw [← e, List.drop_append, List.drop_eq_nil_of_le (by omega), List.nil_append, show (grp z m l).length + 1 - (grp z m l).length = 1 by omega]
        rfl
  by_cases hi : pl + 2 ≤ t.length
  rotate_left
  · refine iteP (by omega) ?_
    exact qe fun k hk => by
      obtain ⟨i, h1, h2, _⟩ := len k hk
      omega
  obtain ⟨i, hti⟩ : ∃ i, t.length = i + (pl + 1) := ⟨t.length - (pl + 1), by omega⟩
  have hlt : i < t.length := by omega
  refine iteN (by omega) ?_
  refine ⟨t, t[i], rfl, by omega, atI_eq (j := i) (by omega) (List.getElem?_eq_getElem hlt), ?_⟩
  refine iteB (fun c2 => ?_) (fun c2 => ?_)
  · refine qe fun k hk => ?_
    obtain ⟨i', h1, h2, h3, _⟩ := len k hk
    obtain rfl : i = i' := by omega
    rw [List.getElem?_eq_getElem hlt] at h3
    injection h3 with h3
    have c3 : (!decide (S [t[i]] = S [pt])) = true := c2
    rw [h3, decide_eq_true rfl] at c3
    cases c3
  have hpt : t[i] = pt := by
    by_cases e : t[i] = pt
    · exact e
    · have c3 : (!decide (S [t[i]] = S [pt])) = false := c2
      rw [decide_eq_false (fun q => e (by have := S_inj q; injection this))] at c3
      cases c3
  refine ⟨t, rfl, by omega, ?_⟩
  rw [cutN_to (by omega), show (((t.length : Nat) : Int) - (pl : Int) - 1).toNat = i by omega]
  refine ⟨t.take i, b, z, m, rfl, by rw [List.length_take]; omega, hb, hb2, hz, fun l w e => ?_, fun hno => qe fun k hk => ?_⟩
  rotate_left
  · obtain ⟨i', h1, h2, h3, l, d, w, _, _, e, _⟩ := len k hk
    obtain rfl : i = i' := by omega
    exact hno l w e
  refine ⟨b, pl, rfl, hb2, by omega, ?_⟩
  have g1 : valN b l < 2 ^ 200 := by
    have h4 := val_lt _ _ rfl w.fg
    have h5 : b ^ l.length ≤ 16 ^ l.length := Nat.pow_le_pow_left hb2 _
    have h7 : 16 ^ l.length ≤ 16 ^ 40 := Nat.pow_le_pow_right (by decide) w.l2
    have h8 : 16 ^ 40 < 2 ^ 200 := by decide
    omega
  have g2 : b ^ pl < 2 ^ 250 := by
    have h5 : b ^ pl ≤ 16 ^ pl := Nat.pow_le_pow_left hb2 _
    have h7 : 16 ^ pl ≤ 16 ^ 50 := Nat.pow_le_pow_right (by decide) hpl
    have h8 : 16 ^ 50 < 2 ^ 250 := by decide
    omega
  refine ⟨.inr (wide_mul (a := 200) (b := 250) (by rw [Int.natAbs_natCast]; exact g1) (by rw [Int.natAbs_natCast]; exact g2) (by decide) (by decide) (by decide)), ?_⟩
  refine ⟨t, rfl, by omega, ?_⟩
  rw [cutN_from (by omega), show (((t.length : Nat) : Int) - (pl : Int) - 1 + 1).toNat = i + 1 by omega]
  have ld : (t.drop (i + 1)).length = pl := by
    rw [List.length_drop]
    omega
  have et : grp z m l ++ pt :: t.drop (i + 1) = t := by
    rw [e, ← hpt, List.getElem_cons_drop hlt, List.take_append_drop]
  refine ⟨t.drop (i + 1), b, rfl, by omega, hb, hb2, fun _ hf => ?_, fun hn => qe fun k hk => ?_⟩
  · have := q _ (.inr ⟨hp, l, t.drop (i + 1), w, ld, hf, et, rfl⟩)
    rw [Int.natCast_add, Int.natCast_mul] at this
    exact this
  · obtain ⟨i', h1, h2, h3, l, d, w, hd, hf, e, ed, _⟩ := len k hk
    obtain rfl : i = i' := by omega
    exact hn ⟨by omega, by rw [← ed]; exact hf⟩
theorem ok_P_number_in {P : Program} {w : World} {K : PySem.W.Frag} {mg : Str → Option Value} {base : Heap} (T : TX w K mg) : Fn P w K mg base (L2.CX P w) 5 "number_in" (sp_P_number_in K) := by
  obtain ⟨fd, F⟩ := T.d_P_number_in
  refine ⟨_, fd, A_P_number_in, T.g_P_number_in, F.kp, fnD F sc_P_number_in (fun vs H Q E h => ?_) (fun cdv A outer s H vs Q E hr h => ⟨_, der_P_number_in T (ok_P_whole_in T) (ok_P_power_of T) (ok_P_worth_of T) hr, rd_P_number_in T vs H Q E h⟩), F.bindsN fun _ _ _ _ _ _ us hl => match us, hl with | [_, _, _, _, _, _], _ => rfl⟩
  obtain ⟨_, _, _, _, _, _, rfl, _⟩ := h
  rfl
end
end K45
namespace K45
open PySem PySem.Spec PyProof.Rows L2 F
theorem sVs_snoc (ls : List (List Nat)) (x : List Nat) : sVs (ls ++ [x]) = sVs ls ++ [.str (S x)] := List.map_append
/-! ### padding -/
def padA (wd : Nat) (sd : List Nat) (n : Nat) : Nat := if sd = sLeft then 0 else if sd = sRight then wd - n else (wd - n) / 2
theorem padA_le (wd : Nat) (sd : List Nat) (n : Nat) : padA wd sd n ≤ wd - n := by
  unfold padA
  split
  · exact Nat.zero_le _
  · split
    · exact Nat.le_refl _
    · exact Nat.div_le_self _ _
def padT (wd fl : Nat) (sd t : List Nat) : List Nat := List.replicate (padA wd sd t.length) fl ++ t ++ List.replicate (wd - t.length - padA wd sd t.length) fl
theorem padT_len (wd fl : Nat) (sd t : List Nat) : (padT wd fl sd t).length = max wd t.length := by
  unfold padT
  have := padA_le wd sd t.length
  rw [List.length_append, List.length_append, List.length_replicate, List.length_replicate]
  omega
def padI (wd fl : Nat) (ld r : List Nat) : List Nat := ld ++ List.replicate (wd - (ld.length + r.length)) fl ++ r
theorem padI_len (wd fl : Nat) (ld r : List Nat) : (padI wd fl ld r).length = max wd (ld.length + r.length) := by
  unfold padI
  rw [List.length_append, List.length_append, List.length_replicate]
  omega
theorem padT_mid {wd fl : Nat} {sd t : List Nat} : ((padT wd fl sd t).drop (padA wd sd t.length)).take t.length = t := by
  unfold padT
  rw [List.append_assoc, List.drop_left' (by rw [List.length_replicate]), List.take_left']
  rfl
theorem padI_end {wd fl : Nat} {ld r : List Nat} : (padI wd fl ld r).drop ((padI wd fl ld r).length - r.length) = r := by
  have e : (padI wd fl ld r).length - r.length = (ld ++ List.replicate (wd - (ld.length + r.length)) fl).length := by
    unfold padI
    rw [List.length_append]
    omega
  rw [e]
  unfold padI
  rw [List.drop_left']
  rfl
section
variable {P : Program} {w : World} {K : PySem.W.Frag} {mg : Str → Option Value} {base : Heap}
def sp_P_pads_of : Sp := fun vs H Q _ => ∃ (n wd : Nat) (sd : List Nat), vs = [.int n, .int wd, .str (S sd)] ∧ ∀ p H', Ex H H' → H' p = some (.tup [.int (padA wd sd n : Nat), .int (wd - n - padA wd sd n : Nat)]) → Q (.ref p) H'
def t_P_pads_of (P : Program) (w : World) (K : PySem.W.Frag) (mg : Str → Option Value) (base : Heap) : TS := tSeq (tSetK 3 (tCB (rMax1) (tCons (tC (.int 0)) (tCons (tOp qSub (tV 1) (tV 0)) (tNil))))) (tSeq (tIfS (tB1 (tOp (rEq1) (tV 2) (tC (.str (S [108, 101, 102, 116]))))) (tRet (tTup1 (tCons (tC (.int 0)) (tCons (tV 3) (tNil))))) (tNext)) (tSeq (tIfS (tB1 (tOp (rEq1) (tV 2) (tC (.str (S [114, 105, 103, 104, 116]))))) (tRet (tTup1 (tCons (tV 3) (tCons (tC (.int 0)) (tNil))))) (tNext)) (tRet (tTup1 (tCons (tOp qDiv (tV 3) (tC (.int 2))) (tCons (tOp qSub (tV 3) (tOp qDiv (tV 3) (tC (.int 2)))) (tNil)))))))
theorem der_P_pads_of {P : Program} {w : World} {K : PySem.W.Frag} {mg : Str → Option Value} {base : Heap} (T : TX w K mg) {f : Addr} {cdv : Value} {A : Around} {outer : List Env} {s : Shared} {H : Hp} {E : XK} (hr : Room 0 (A.deeper (envOfC "pads_of" (defScope s_P_pads_of) s.heap.objs.size f cdv))) :
    PSs (cxOf CX0 P w K mg base N_P_pads_of "pads_of" (defScope s_P_pads_of) f cdv A outer s H E).nox (defBody s_P_pads_of) (t_P_pads_of P w K mg base) :=
  pss_cons (sSetK (i := 3) sc_P_pads_of.nd rfl nl_P_pads_of_lacks (fB (cMax rfl) ng_P_pads_of_max T.b_max bb_max (aCons (pe_int) (aCons (pe_op oSub (fV 1 nm_P_pads_of_width rfl) (fV 0 nm_P_pads_of_length rfl)) (pa_nil) rfl) rfl) rfl) rfl (.inl rfl)) (pss_cons (ps_if (tCmp1 (oEq) (fV 2 nm_P_pads_of_side rfl) (fS rfl) (nomark _)) (pss_one (ps_ret (fTup (aCons (pe_int) (aCons (fV 3 nm_P_pads_of_lacks rfl) (pa_nil) rfl) rfl)))) (pss_nil)) (pss_cons (ps_if (tCmp1 (oEq) (fV 2 nm_P_pads_of_side rfl) (fS rfl) (nomark _)) (pss_one (ps_ret (fTup (aCons (fV 3 nm_P_pads_of_lacks rfl) (aCons (pe_int) (pa_nil) rfl) rfl)))) (pss_nil)) (pss_one (ps_ret (fTup (aCons (pe_op oDiv (fV 3 nm_P_pads_of_lacks rfl) (pe_int)) (aCons (pe_op oSub (fV 3 nm_P_pads_of_lacks rfl) (pe_op oDiv (fV 3 nm_P_pads_of_lacks rfl) (pe_int))) (pa_nil) rfl) rfl))))))
theorem rd_P_pads_of (T : TX w K mg) (vs : List V) (H : Hp) (Q : VK) (E : XK) (h : sp_P_pads_of vs H Q E) : t_P_pads_of P w K mg base { nx := fun _ H' => Q .non H', rt := Q } (start N_P_pads_of vs) H := by
  obtain ⟨n, wd, sd, rfl, q⟩ := h
  have em : max (0 : Int) ((wd : Int) - (n : Int)) = ((wd - n : Nat) : Int) := by omega
  refine iteD (fun c => ?_) (fun c => iteD (fun c2 => ?_) (fun c2 => ?_))
  · have c' := S_inj c
    refine ⟨l100 rfl, fun p H' _ e h => q p H' e ?_⟩
    rw [em] at h
    unfold padA
    rw [if_pos c']
    exact h
  · have c' : ¬ sd = sLeft := fun z => c (by rw [z])
    have c2' := S_inj c2
    refine ⟨l100 rfl, fun p H' _ e h => q p H' e ?_⟩
    rw [em] at h
    unfold padA
    rw [if_neg c', if_pos c2', Nat.sub_self]
    exact h
  · have c' : ¬ sd = sLeft := fun z => c (by rw [z])
    have c2' : ¬ sd = sRight := fun z => c2 (by rw [z])
    refine ⟨⟨by decide, by decide⟩, ⟨by decide, by decide⟩, l100 rfl, fun p H' _ e h => q p H' e ?_⟩
    rw [em] at h
    unfold padA
    rw [if_neg c', if_neg c2', Int.natCast_sub (Nat.div_le_self _ _), Int.natCast_ediv]
    exact h
theorem ok_P_pads_of {P : Program} {w : World} {K : PySem.W.Frag} {mg : Str → Option Value} {base : Heap} (T : TX w K mg) : Fn P w K mg base CX0 1 "pads_of" (sp_P_pads_of) := by
  obtain ⟨fd, F⟩ := T.d_P_pads_of
  refine ⟨_, fd, A_P_pads_of, T.g_P_pads_of, F.kp, fnD F sc_P_pads_of (fun vs H Q E h => ?_) (fun cdv A outer s H vs Q E hr h => ⟨_, PSs.nox (der_P_pads_of T  hr), rd_P_pads_of T vs H Q E h⟩), F.bindsN fun _ _ _ _ _ _ us hl => match us, hl with | [_, _, _], _ => rfl⟩
  obtain ⟨_, _, _, rfl, _⟩ := h
  rfl
def sp_P_padded : Sp := fun vs H Q _ => ∃ (t : List Nat) (wd fl : Nat) (sd : List Nat), vs = [.str (S t), .int wd, .str (S [fl]), .str (S sd)] ∧ t.length ≤ 1000 ∧ wd ≤ 1000 ∧ ∀ H', Ex H H' → Q (.str (S (padT wd fl sd t))) H'
def t_P_padded (P : Program) (w : World) (K : PySem.W.Frag) (mg : Str → Option Value) (base : Heap) : TS := tSeq (tAsg (tCall (sp_P_pads_of) [] E0 (tCons (tCB (rLen1 K) (tCons (tV 0) (tNil))) (tCons (tV 1) (tCons (tV 3) (tNil))))) (gTup K 2 (gCons (gK 4) (gCons (gK 5) (gNil))))) (tRet (tOp qAdd (tOp qAdd (tOp qMul (tV 2) (tV 4)) (tV 0)) (tOp qMul (tV 2) (tV 5))))
theorem der_P_padded {P : Program} {w : World} {K : PySem.W.Frag} {mg : Str → Option Value} {base : Heap} (T : TX w K mg) (C_P_pads_of : Fn P w K mg base CX0 1 "pads_of" (sp_P_pads_of)) {f : Addr} {cdv : Value} {A : Around} {outer : List Env} {s : Shared} {H : Hp} {E : XK} (hr : Room 1 (A.deeper (envOfC "padded" (defScope s_P_padded) s.heap.objs.size f cdv))) :
    PSs (cxOf CX0 P w K mg base N_P_padded "padded" (defScope s_P_padded) f cdv A outer s H E).nox (defBody s_P_padded) (t_P_padded P w K mg base) :=
  pss_cons (ps_asg (fCall C_P_pads_of (hr.mono (by decide)) ng_P_padded_pads_of pass0 (aCons (fB cLen ng_P_padded_len T.b_len bb_len (aCons (fV 0 nm_P_padded_text rfl) (pa_nil) rfl) rfl) (aCons (fV 1 nm_P_padded_width rfl) (aCons (fV 3 nm_P_padded_side rfl) (pa_nil) rfl) rfl) rfl) rfl) (pg_tup rfl (pgs_cons (gNK sc_P_padded.nd rfl nl_P_padded_ahead (.inl rfl)) (pgs_cons (gNK sc_P_padded.nd rfl nl_P_padded_behind (.inl rfl)) (pgs_nil))))) (pss_one (ps_ret (pe_op oAdd (pe_op oAdd (pe_op oMul (fV 2 nm_P_padded_fill rfl) (fV 4 nm_P_padded_ahead rfl)) (fV 0 nm_P_padded_text rfl)) (pe_op oMul (fV 2 nm_P_padded_fill rfl) (fV 5 nm_P_padded_behind rfl)))))
theorem rd_P_padded (T : TX w K mg) (vs : List V) (H : Hp) (Q : VK) (E : XK) (h : sp_P_padded vs H Q E) : t_P_padded P w K mg base { nx := fun _ H' => Q .non H', rt := Q } (start N_P_padded vs) H := by
  obtain ⟨t, wd, fl, sd, rfl, ht, hw, q⟩ := h
  have hl := padA_le wd sd t.length
  refine ⟨t, rfl, by omega, t.length, wd, sd, rfl, fun p H' e h => ?_⟩
  refine ⟨p, _, rfl, SqT.of h, rfl, _, _, rfl, _, _, rfl, rfl, ?_⟩
  refine ⟨fl, rfl, by omega, by omega, _, _, rfl, rfl, ?_, ?_⟩
  · rw [List.length_replicate]
    omega
  refine ⟨fl, rfl, by omega, by omega, _, _, rfl, rfl, ?_, ?_⟩
  · rw [List.length_append, List.length_replicate, List.length_replicate]
    omega
  have := q H' e
  unfold padT at this
  exact this
theorem ok_P_padded {P : Program} {w : World} {K : PySem.W.Frag} {mg : Str → Option Value} {base : Heap} (T : TX w K mg) : Fn P w K mg base CX0 2 "padded" (sp_P_padded) := by
  obtain ⟨fd, F⟩ := T.d_P_padded
  refine ⟨_, fd, A_P_padded, T.g_P_padded, F.kp, fnD F sc_P_padded (fun vs H Q E h => ?_) (fun cdv A outer s H vs Q E hr h => ⟨_, PSs.nox (der_P_padded T (ok_P_pads_of T) hr), rd_P_padded T vs H Q E h⟩), F.bindsN fun _ _ _ _ _ _ us hl => match us, hl with | [_, _, _, _], _ => rfl⟩
  obtain ⟨_, _, _, _, rfl, _⟩ := h
  rfl
def sp_P_padded_inside : Sp := fun vs H Q _ => ∃ (ld r : List Nat) (wd fl : Nat), vs = [.str (S ld), .str (S r), .int wd, .str (S [fl])] ∧ ld.length ≤ 1000 ∧ r.length ≤ 1000 ∧ wd ≤ 1000 ∧ ∀ H', Ex H H' → Q (.str (S (padI wd fl ld r))) H'
def t_P_padded_inside (P : Program) (w : World) (K : PySem.W.Frag) (mg : Str → Option Value) (base : Heap) : TS := tSeq (tAsg (tCall (sp_P_pads_of) [] E0 (tCons (tOp qAdd (tCB (rLen1 K) (tCons (tV 0) (tNil))) (tCB (rLen1 K) (tCons (tV 1) (tNil)))) (tCons (tV 2) (tCons (tC (.str (S [114, 105, 103, 104, 116]))) (tNil))))) (gTup K 2 (gCons (gK 4) (gCons (gK 5) (gNil))))) (tRet (tOp qAdd (tOp qAdd (tV 0) (tOp qMul (tV 3) (tV 4))) (tV 1)))
theorem der_P_padded_inside {P : Program} {w : World} {K : PySem.W.Frag} {mg : Str → Option Value} {base : Heap} (T : TX w K mg) (C_P_pads_of : Fn P w K mg base CX0 1 "pads_of" (sp_P_pads_of)) {f : Addr} {cdv : Value} {A : Around} {outer : List Env} {s : Shared} {H : Hp} {E : XK} (hr : Room 1 (A.deeper (envOfC "padded_inside" (defScope s_P_padded_inside) s.heap.objs.size f cdv))) :
    PSs (cxOf CX0 P w K mg base N_P_padded_inside "padded_inside" (defScope s_P_padded_inside) f cdv A outer s H E).nox (defBody s_P_padded_inside) (t_P_padded_inside P w K mg base) :=
  pss_cons (ps_asg (fCall C_P_pads_of (hr.mono (by decide)) ng_P_padded_inside_pads_of pass0 (aCons (pe_op oAdd (fB cLen ng_P_padded_inside_len T.b_len bb_len (aCons (fV 0 nm_P_padded_inside_lead rfl) (pa_nil) rfl) rfl) (fB cLen ng_P_padded_inside_len T.b_len bb_len (aCons (fV 1 nm_P_padded_inside_rest rfl) (pa_nil) rfl) rfl)) (aCons (fV 2 nm_P_padded_inside_width rfl) (aCons (fS rfl) (pa_nil) rfl) rfl) rfl) rfl) (pg_tup rfl (pgs_cons (gNK sc_P_padded_inside.nd rfl nl_P_padded_inside_ahead (.inl rfl)) (pgs_cons (gNK sc_P_padded_inside.nd rfl nl_P_padded_inside_behind (.inl rfl)) (pgs_nil))))) (pss_one (ps_ret (pe_op oAdd (pe_op oAdd (fV 0 nm_P_padded_inside_lead rfl) (pe_op oMul (fV 3 nm_P_padded_inside_fill rfl) (fV 4 nm_P_padded_inside_ahead rfl))) (fV 1 nm_P_padded_inside_rest rfl))))
theorem rd_P_padded_inside (T : TX w K mg) (vs : List V) (H : Hp) (Q : VK) (E : XK) (h : sp_P_padded_inside vs H Q E) : t_P_padded_inside P w K mg base { nx := fun _ H' => Q .non H', rt := Q } (start N_P_padded_inside vs) H := by
  obtain ⟨ld, r, wd, fl, rfl, hld, hr, hw, q⟩ := h
  refine ⟨ld, rfl, by omega, r, rfl, by omega, ld.length + r.length, wd, sRight, rfl, fun p H' e h => ?_⟩
  refine ⟨p, _, rfl, SqT.of h, rfl, _, _, rfl, _, _, rfl, rfl, ?_⟩
  have e2 : padA wd sRight (ld.length + r.length) = wd - (ld.length + r.length) := by
    unfold padA
    rw [if_neg (by decide), if_pos rfl]
  have h3 : padA wd sRight (ld.length + r.length) ≤ 1000 := by rw [e2]; omega
  refine ⟨fl, rfl, by omega, by omega, _, _, rfl, rfl, ?_, ?_⟩
  · rw [List.length_replicate]
    omega
  refine ⟨_, _, rfl, rfl, ?_, ?_⟩
  · rw [List.length_append, List.length_replicate]
    omega
  have := q H' e
  unfold padI at this
  rw [← e2] at this
  exact this
theorem ok_P_padded_inside {P : Program} {w : World} {K : PySem.W.Frag} {mg : Str → Option Value} {base : Heap} (T : TX w K mg) : Fn P w K mg base CX0 2 "padded_inside" (sp_P_padded_inside) := by
  obtain ⟨fd, F⟩ := T.d_P_padded_inside
  refine ⟨_, fd, A_P_padded_inside, T.g_P_padded_inside, F.kp, fnD F sc_P_padded_inside (fun vs H Q E h => ?_) (fun cdv A outer s H vs Q E hr h => ⟨_, PSs.nox (der_P_padded_inside T (ok_P_pads_of T) hr), rd_P_padded_inside T vs H Q E h⟩), F.bindsN fun _ _ _ _ _ _ us hl => match us, hl with | [_, _, _, _], _ => rfl⟩
  obtain ⟨_, _, _, _, rfl, _⟩ := h
  rfl
/-! ### stripping -/
abbrev Rising (ls : List (List Nat)) : Prop := ls.Pairwise fun a b => a.length < b.length
theorem rise_snoc {ls : List (List Nat)} {x : List Nat} (h : Rising ls) (hx : ∀ y ∈ ls, y.length < x.length) : Rising (ls ++ [x]) :=
  List.pairwise_append.mpr ⟨h, by simp, fun a ha b hb => by rw [List.mem_singleton.mp hb]; exact hx a ha⟩
def sp_P_stripped : Sp := fun vs H Q _ => ∃ (t : List Nat) (wd fl : Nat) (sd : List Nat), vs = [.str (S t), .int wd, .str (S [fl]), .str (S sd)] ∧ t.length ≤ 900 ∧ wd ≤ 900 ∧
  ∀ p H' ls, H p = none → Ex H H' → H' p = some (.lst (sVs ls)) → Rising ls → (∀ x, x ∈ ls ↔ padT wd fl sd x = t) → Q (.ref p) H'
def t_P_stripped (P : Program) (w : World) (K : PySem.W.Frag) (mg : Str → Option Value) (base : Heap) : TS := tSeq (tSetK 4 (tLst1 (tNil))) (tSeq (tFor (iRng1 (tCons (tOp qAdd (tCB (rLen1 K) (tCons (tV 0) (tNil))) (tC (.int 1))) (tNil))) (gK 5) (tSeq (tSetK 6 (tOp (rIx1 K) (tCall (sp_P_pads_of) [] E0 (tCons (tV 5) (tCons (tV 1) (tCons (tV 3) (tNil))))) (tC (.int 0)))) (tSeq (tSetK 7 (tSl (rSlS1) (tV 0) (tPart1 (tV 6)) (tPart1 (tOp qAdd (tV 6) (tV 5))))) (tIfS (tB1 (tOp (rEq1) (tCall (sp_P_padded) [] E0 (tCons (tV 7) (tCons (tV 1) (tCons (tV 2) (tCons (tV 3) (tNil)))))) (tV 0))) (tDrop (tLm (rApp1) (tV 4) (tCons (tV 7) (tNil)))) (tNext))))) (tRet (tV 4)))
theorem der_P_stripped {P : Program} {w : World} {K : PySem.W.Frag} {mg : Str → Option Value} {base : Heap} (T : TX w K mg) (C_P_pads_of : Fn P w K mg base CX0 1 "pads_of" (sp_P_pads_of)) (C_P_padded : Fn P w K mg base CX0 2 "padded" (sp_P_padded)) {f : Addr} {cdv : Value} {A : Around} {outer : List Env} {s : Shared} {H : Hp} {E : XK} (hr : Room 2 (A.deeper (envOfC "stripped" (defScope s_P_stripped) s.heap.objs.size f cdv))) :
    PSs (cxOf CX0 P w K mg base N_P_stripped "stripped" (defScope s_P_stripped) f cdv A outer s H E).nox (defBody s_P_stripped) (t_P_stripped P w K mg base) :=
  pss_cons (sSetK (i := 4) sc_P_stripped.nd rfl nl_P_stripped_found (fLst (pa_nil)) rfl (.inl rfl)) (pss_cons (ps_for PassesOwn.never rfl (pi_range1 (ng_P_stripped_range).gl T.b_range (aCons (pe_op oAdd (fB cLen ng_P_stripped_len T.b_len bb_len (aCons (fV 0 nm_P_stripped_text rfl) (pa_nil) rfl) rfl) (pe_int)) (pa_nil) rfl)) (gNK sc_P_stripped.nd rfl nl_P_stripped_length (.inl rfl)) (pss_cons (sSetK (i := 6) sc_P_stripped.nd rfl nl_P_stripped_ahead (fIx (fCall C_P_pads_of (hr.mono (by decide)) ng_P_stripped_pads_of pass0 (aCons (fV 5 nm_P_stripped_length rfl) (aCons (fV 1 nm_P_stripped_width rfl) (aCons (fV 3 nm_P_stripped_side rfl) (pa_nil) rfl) rfl) rfl) rfl) (pe_int) (fun _ _ => rfl)) rfl (.inl rfl)) (pss_cons (sSetK (i := 7) sc_P_stripped.nd rfl nl_P_stripped_within (pe_slice slS1 (fV 0 nm_P_stripped_text rfl) (oSome (fV 6 nm_P_stripped_ahead rfl)) (oSome (pe_op oAdd (fV 6 nm_P_stripped_ahead rfl) (fV 5 nm_P_stripped_length rfl)))) rfl (.inl rfl)) (pss_one (ps_if (tCmp1 (oEq) (fCall C_P_padded (hr.mono (by decide)) ng_P_stripped_padded pass0 (aCons (fV 7 nm_P_stripped_within rfl) (aCons (fV 1 nm_P_stripped_width rfl) (aCons (fV 2 nm_P_stripped_fill rfl) (aCons (fV 3 nm_P_stripped_side rfl) (pa_nil) rfl) rfl) rfl) rfl) rfl) (fV 0 nm_P_stripped_text rfl) (nomark _)) (pss_one (sExpr (fLm PySem.F.slot_list_append PySem.F.type_list_append mApp (fV 4 nm_P_stripped_found rfl) (aCons (fV 7 nm_P_stripped_within rfl) (pa_nil) rfl) rfl rfl (by decide) rfl) rfl)) (pss_nil)))))) (pss_one (ps_ret (fV 4 nm_P_stripped_found rfl))))
theorem rd_P_stripped (T : TX w K mg) (vs : List V) (H : Hp) (Q : VK) (E : XK) (h : sp_P_stripped vs H Q E) : t_P_stripped P w K mg base { nx := fun _ H' => Q .non H', rt := Q } (start N_P_stripped vs) H := by
  obtain ⟨t, wd, fl, sd, rfl, ht, hw, q⟩ := h
  show t_P_stripped P w K mg base _ [some (.str (S t)), some (.int wd), some (.str (S [fl])), some (.str (S sd)), none, none, none, none] H
  refine ⟨l100 rfl, fun D H1 hD e1 hd => ?_⟩
  refine ⟨t, rfl, by omega, _, rfl, by omega, by omega, for_range (lo := 0) (n := t.length + 1) (fun i σ H' => Ex H H' ∧ (∃ ls, H' D = some (.lst (sVs ls)) ∧ Rising ls ∧ ls.length ≤ i ∧ ∀ x, x ∈ ls ↔ (x.length < i ∧ padT wd fl sd x = t)) ∧ ∃ u v x, σ = [some (.str (S t)), some (.int wd), some (.str (S [fl])), some (.str (S sd)), some (.ref D), u, v, x]) ⟨e1, ⟨[], hd, .nil, Nat.le_refl _, fun x => ⟨fun h => by simp at h, fun h => absurd h.1 (by omega)⟩⟩, _, _, _, rfl⟩ ?_ ?_⟩
  · rintro i σ H2 hi ⟨e2, ⟨ls, hls, hr, hlen, hm⟩, u, v, x, rfl⟩
    have hi0 : (0 : Int) + (i : Int) = (i : Int) := Int.zero_add _
    refine ⟨i, wd, sd, by rw [hi0]; rfl, fun p H3 e3 h3 => ⟨_, _, .inr (SqT.of h3), at0, ?_⟩⟩
    have hA := padA_le wd sd i
    refine ⟨t, rfl, by omega, ?_⟩
    have ec : cutN t (some ((padA wd sd i : Nat) : Int)) (some (((padA wd sd i : Nat) : Int) + (0 + (i : Int)))) = (t.drop (padA wd sd i)).take i := by
      rw [cutN_fromto (by omega) (by omega)]
      congr 1
      omega
    rw [ec]
    have hlw : ((t.drop (padA wd sd i)).take i).length ≤ i := by
      rw [List.length_take]
      omega
    refine ⟨_, wd, fl, sd, rfl, by omega, by omega, fun H4 e4 => ?_⟩
    have hf3 : Ex H2 H4 := e3.trans e4
    refine iteD (fun c => ?_) (fun c => ?_)
    · have c' := S_inj c
      have hl1 := padT_len wd fl sd ((t.drop (padA wd sd i)).take i)
      rw [c'] at hl1
      have hl2 : ((t.drop (padA wd sd i)).take i).length = i := by
        rw [List.length_take, List.length_drop]
        omega
      refine ⟨⟨_, hf3 _ _ hls⟩, _, hf3 _ _ hls, by rw [List.length_map]; omega, ?_⟩
      refine ⟨Ex.mut (e2.trans hf3) hD, ⟨ls ++ [(t.drop (padA wd sd i)).take i], ?_, rise_snoc hr fun y hy => ?_, by simp; omega, fun x => ?_⟩, _, _, _, rfl⟩
      · rw [upd_same, sVs_snoc]
      · rw [hl2]
        exact ((hm y).mp hy).1
      · rw [List.mem_append, List.mem_singleton, hm]
        constructor
        · rintro (⟨a, b⟩ | rfl)
          · exact ⟨by omega, b⟩
          · exact ⟨by rw [hl2]; omega, c'⟩
        · rintro ⟨a, b⟩
          by_cases hx : x.length = i
          · refine .inr ?_
            rw [← b, ← hx]
            exact padT_mid.symm
          · exact .inl ⟨by omega, b⟩
    · refine ⟨e2.trans hf3, ⟨ls, hf3 _ _ hls, hr, by omega, fun x => ?_⟩, _, _, _, rfl⟩
      rw [hm]
      constructor
      · rintro ⟨a, b⟩
        exact ⟨by omega, b⟩
      · rintro ⟨a, b⟩
        by_cases hx : x.length = i
        · refine absurd ?_ c
          have e5 : (t.drop (padA wd sd i)).take i = x := by
            rw [← b, ← hx]
            exact padT_mid
          rw [e5, b]
        · exact ⟨by omega, b⟩
  · rintro σ H2 ⟨e2, ⟨ls, hls, hr, hlen, hm⟩, u, v, x, rfl⟩
    refine q D H2 ls hD e2 hls hr fun x => ?_
    rw [hm]
    constructor
    · exact fun h => h.2
    · intro h
      have := padT_len wd fl sd x
      rw [h] at this
      exact ⟨by omega, h⟩
theorem ok_P_stripped {P : Program} {w : World} {K : PySem.W.Frag} {mg : Str → Option Value} {base : Heap} (T : TX w K mg) : Fn P w K mg base CX0 3 "stripped" (sp_P_stripped) := by
  obtain ⟨fd, F⟩ := T.d_P_stripped
  refine ⟨_, fd, A_P_stripped, T.g_P_stripped, F.kp, fnD F sc_P_stripped (fun vs H Q E h => ?_) (fun cdv A outer s H vs Q E hr h => ⟨_, PSs.nox (der_P_stripped T (ok_P_pads_of T) (ok_P_padded T) hr), rd_P_stripped T vs H Q E h⟩), F.bindsN fun _ _ _ _ _ _ us hl => match us, hl with | [_, _, _, _], _ => rfl⟩
  obtain ⟨_, _, _, _, rfl, _⟩ := h
  rfl
def sp_P_stripped_inside : Sp := fun vs H Q _ => ∃ (t ld : List Nat) (wd fl : Nat), vs = [.str (S t), .str (S ld), .int wd, .str (S [fl])] ∧ t.length ≤ 900 ∧ ld.length ≤ 900 ∧ wd ≤ 900 ∧
  ∀ p H' ls, H p = none → Ex H H' → H' p = some (.lst (sVs ls)) → Rising ls → (∀ x, x ∈ ls ↔ padI wd fl ld x = t) → Q (.ref p) H'
def t_P_stripped_inside (P : Program) (w : World) (K : PySem.W.Frag) (mg : Str → Option Value) (base : Heap) : TS := tSeq (tSetK 4 (tLst1 (tNil))) (tSeq (tFor (iRng1 (tCons (tOp qAdd (tOp qSub (tCB (rLen1 K) (tCons (tV 0) (tNil))) (tCB (rLen1 K) (tCons (tV 1) (tNil)))) (tC (.int 1))) (tNil))) (gK 5) (tSeq (tSetK 6 (tSl (rSlS1) (tV 0) (tPart1 (tOp qSub (tCB (rLen1 K) (tCons (tV 0) (tNil))) (tV 5))) tNoPart)) (tIfS (tB1 (tOp (rEq1) (tCall (sp_P_padded_inside) [] E0 (tCons (tV 1) (tCons (tV 6) (tCons (tV 2) (tCons (tV 3) (tNil)))))) (tV 0))) (tDrop (tLm (rApp1) (tV 4) (tCons (tV 6) (tNil)))) (tNext)))) (tRet (tV 4)))
theorem der_P_stripped_inside {P : Program} {w : World} {K : PySem.W.Frag} {mg : Str → Option Value} {base : Heap} (T : TX w K mg) (C_P_padded_inside : Fn P w K mg base CX0 2 "padded_inside" (sp_P_padded_inside)) {f : Addr} {cdv : Value} {A : Around} {outer : List Env} {s : Shared} {H : Hp} {E : XK} (hr : Room 2 (A.deeper (envOfC "stripped_inside" (defScope s_P_stripped_inside) s.heap.objs.size f cdv))) :
    PSs (cxOf CX0 P w K mg base N_P_stripped_inside "stripped_inside" (defScope s_P_stripped_inside) f cdv A outer s H E).nox (defBody s_P_stripped_inside) (t_P_stripped_inside P w K mg base) :=
  pss_cons (sSetK (i := 4) sc_P_stripped_inside.nd rfl nl_P_stripped_inside_found (fLst (pa_nil)) rfl (.inl rfl)) (pss_cons (ps_for PassesOwn.never rfl (pi_range1 (ng_P_stripped_inside_range).gl T.b_range (aCons (pe_op oAdd (pe_op oSub (fB cLen ng_P_stripped_inside_len T.b_len bb_len (aCons (fV 0 nm_P_stripped_inside_text rfl) (pa_nil) rfl) rfl) (fB cLen ng_P_stripped_inside_len T.b_len bb_len (aCons (fV 1 nm_P_stripped_inside_lead rfl) (pa_nil) rfl) rfl)) (pe_int)) (pa_nil) rfl)) (gNK sc_P_stripped_inside.nd rfl nl_P_stripped_inside_length (.inl rfl)) (pss_cons (sSetK (i := 6) sc_P_stripped_inside.nd rfl nl_P_stripped_inside_rest (pe_slice slS1 (fV 0 nm_P_stripped_inside_text rfl) (oSome (pe_op oSub (fB cLen ng_P_stripped_inside_len T.b_len bb_len (aCons (fV 0 nm_P_stripped_inside_text rfl) (pa_nil) rfl) rfl) (fV 5 nm_P_stripped_inside_length rfl))) po_none) rfl (.inl rfl)) (pss_one (ps_if (tCmp1 (oEq) (fCall C_P_padded_inside (hr.mono (by decide)) ng_P_stripped_inside_padded_inside pass0 (aCons (fV 1 nm_P_stripped_inside_lead rfl) (aCons (fV 6 nm_P_stripped_inside_rest rfl) (aCons (fV 2 nm_P_stripped_inside_width rfl) (aCons (fV 3 nm_P_stripped_inside_fill rfl) (pa_nil) rfl) rfl) rfl) rfl) rfl) (fV 0 nm_P_stripped_inside_text rfl) (nomark _)) (pss_one (sExpr (fLm PySem.F.slot_list_append PySem.F.type_list_append mApp (fV 4 nm_P_stripped_inside_found rfl) (aCons (fV 6 nm_P_stripped_inside_rest rfl) (pa_nil) rfl) rfl rfl (by decide) rfl) rfl)) (pss_nil))))) (pss_one (ps_ret (fV 4 nm_P_stripped_inside_found rfl))))
theorem rd_P_stripped_inside (T : TX w K mg) (vs : List V) (H : Hp) (Q : VK) (E : XK) (h : sp_P_stripped_inside vs H Q E) : t_P_stripped_inside P w K mg base { nx := fun _ H' => Q .non H', rt := Q } (start N_P_stripped_inside vs) H := by
  obtain ⟨t, ld, wd, fl, rfl, ht, hld, hw, q⟩ := h
  show t_P_stripped_inside P w K mg base _ [some (.str (S t)), some (.str (S ld)), some (.int wd), some (.str (S [fl])), none, none, none] H
  refine ⟨l100 rfl, fun D H1 hD e1 hd => ?_⟩
  obtain ⟨n, hn⟩ : ∃ n : Nat, (((t.length : Nat) : Int) - ((ld.length : Nat) : Int) + 1).toNat = n := ⟨_, rfl⟩
  refine ⟨t, rfl, by omega, ld, rfl, by omega, _, rfl, by omega, by omega, ?_⟩
  rw [hn]
  refine for_range (lo := 0) (n := n) (fun i σ H' => Ex H H' ∧ (∃ ls, H' D = some (.lst (sVs ls)) ∧ Rising ls ∧ ls.length ≤ i ∧ ∀ x, x ∈ ls ↔ (x.length < i ∧ padI wd fl ld x = t)) ∧ ∃ u v, σ = [some (.str (S t)), some (.str (S ld)), some (.int wd), some (.str (S [fl])), some (.ref D), u, v]) ⟨e1, ⟨[], hd, .nil, Nat.le_refl _, fun x => ⟨fun h => by simp at h, fun h => absurd h.1 (by omega)⟩⟩, _, _, rfl⟩ ?_ ?_
  · rintro i σ H2 hi ⟨e2, ⟨ls, hls, hr, hlen, hm⟩, u, v, rfl⟩
    refine ⟨t, rfl, by omega, t, rfl, by omega, ?_⟩
    have ec : cutN t (some (((t.length : Nat) : Int) - (0 + (i : Int)))) none = t.drop (t.length - i) := by
      rw [cutN_from (by omega)]
      congr 1
      omega
    rw [ec]
    have hlw : (t.drop (t.length - i)).length = i := by
      rw [List.length_drop]
      omega
    refine ⟨ld, _, wd, fl, rfl, by omega, by omega, by omega, fun H4 hf3 => ?_⟩
    have key : ∀ x : List Nat, x.length = i → padI wd fl ld x = t → t.drop (t.length - i) = x := fun x hx b => by
      rw [← hx, ← b]
      exact padI_end
    refine iteD (fun c => ?_) (fun c => ?_)
    · have c' := S_inj c
      refine ⟨⟨_, hf3 _ _ hls⟩, _, hf3 _ _ hls, by rw [List.length_map]; omega, ?_⟩
      refine ⟨Ex.mut (e2.trans hf3) hD, ⟨ls ++ [t.drop (t.length - i)], ?_, rise_snoc hr fun y hy => ?_, by simp; omega, fun x => ?_⟩, _, _, rfl⟩
      · rw [upd_same, sVs_snoc]
      · rw [hlw]
        exact ((hm y).mp hy).1
      · rw [List.mem_append, List.mem_singleton, hm]
        constructor
        · rintro (⟨a, b⟩ | rfl)
          · exact ⟨by omega, b⟩
          · exact ⟨by rw [hlw]; omega, c'⟩
        · rintro ⟨a, b⟩
          by_cases hx : x.length = i
          · exact .inr (key x hx b).symm
          · exact .inl ⟨by omega, b⟩
    · refine ⟨e2.trans hf3, ⟨ls, hf3 _ _ hls, hr, by omega, fun x => ?_⟩, _, _, rfl⟩
      rw [hm]
      constructor
      · rintro ⟨a, b⟩
        exact ⟨by omega, b⟩
      · rintro ⟨a, b⟩
        by_cases hx : x.length = i
        · refine absurd ?_ c
          rw [key x hx b, b]
        · exact ⟨by omega, b⟩
  · rintro σ H2 ⟨e2, ⟨ls, hls, hr, hlen, hm⟩, u, v, rfl⟩
    refine q D H2 ls hD e2 hls hr fun x => ?_
    rw [hm]
    constructor
    · exact fun h => h.2
    · intro h
      have := padI_len wd fl ld x
      rw [h] at this
      exact ⟨by omega, h⟩
theorem ok_P_stripped_inside {P : Program} {w : World} {K : PySem.W.Frag} {mg : Str → Option Value} {base : Heap} (T : TX w K mg) : Fn P w K mg base CX0 3 "stripped_inside" (sp_P_stripped_inside) := by
  obtain ⟨fd, F⟩ := T.d_P_stripped_inside
  refine ⟨_, fd, A_P_stripped_inside, T.g_P_stripped_inside, F.kp, fnD F sc_P_stripped_inside (fun vs H Q E h => ?_) (fun cdv A outer s H vs Q E hr h => ⟨_, PSs.nox (der_P_stripped_inside T (ok_P_padded_inside T) hr), rd_P_stripped_inside T vs H Q E h⟩), F.bindsN fun _ _ _ _ _ _ us hl => match us, hl with | [_, _, _, _], _ => rfl⟩
  obtain ⟨_, _, _, _, rfl, _⟩ := h
  rfl
/-! ### too_long, ends_of -/
def sp_P_too_long (K : PySem.W.Frag) : Sp := fun vs H Q _ => ∃ (a : Addr) (n wd : Nat) (st : Bool), vs = [.ref a, .int n] ∧ FldAt K H a "strict" (.bl st) ∧ FldAt K H a "width" (.int wd) ∧ Q (.bl (st && decide (wd < n))) H
def t_P_too_long (P : Program) (w : World) (K : PySem.W.Frag) (mg : Str → Option Value) (base : Heap) : TS := tRet (tAndV (tFld1 K (tV 0) "strict") (tOp (rCmp fun i j => decide (j < i)) (tV 1) (tFld1 K (tV 0) "width")))
theorem der_P_too_long {P : Program} {w : World} {K : PySem.W.Frag} {mg : Str → Option Value} {base : Heap} (T : TX w K mg) {f : Addr} {cdv : Value} {A : Around} {outer : List Env} {s : Shared} {H : Hp} {E : XK} (hr : Room 0 (A.deeper (envOfC "too_long" (defScope s_P_too_long) s.heap.objs.size f cdv))) :
    PSs (cxOf CX0 P w K mg base N_P_too_long "too_long" (defScope s_P_too_long) f cdv A outer s H E).nox (defBody s_P_too_long) (t_P_too_long P w K mg base) :=
  pss_one (ps_ret (pe_and (fFld (fV 0 nm_P_too_long_form rfl) rfl) (pe_one (pe_cmpR (oGt) (fV 1 nm_P_too_long_length rfl) (fFld (fV 0 nm_P_too_long_form rfl) rfl) (nomark _)))))
theorem rd_P_too_long (T : TX w K mg) (vs : List V) (H : Hp) (Q : VK) (E : XK) (h : sp_P_too_long K vs H Q E) : t_P_too_long P w K mg base { nx := fun _ H' => Q .non H', rt := Q } (start N_P_too_long vs) H := by
  obtain ⟨a, n, wd, st, rfl, f1, f2, q⟩ := h
  refine ⟨_, f1, ?_⟩
  cases st with
  | true =>
    have e : decide (wd < n) = decide ((wd : Int) < (n : Int)) := decide_eq_decide.mpr (by omega)
    rw [Bool.true_and, e] at q
    exact ⟨_, rfl, _, f2, q⟩
  | false => exact ⟨_, rfl, q⟩
theorem ok_P_too_long {P : Program} {w : World} {K : PySem.W.Frag} {mg : Str → Option Value} {base : Heap} (T : TX w K mg) : Fn P w K mg base CX0 1 "too_long" (sp_P_too_long K) := by
  obtain ⟨fd, F⟩ := T.d_P_too_long
  refine ⟨_, fd, A_P_too_long, T.g_P_too_long, F.kp, fnD F sc_P_too_long (fun vs H Q E h => ?_) (fun cdv A outer s H vs Q E hr h => ⟨_, PSs.nox (der_P_too_long T  hr), rd_P_too_long T vs H Q E h⟩), F.bindsN fun _ _ _ _ _ _ us hl => match us, hl with | [_, _], _ => rfl⟩
  obtain ⟨_, _, _, _, rfl, _⟩ := h
  rfl
/-- what stands ahead and behind -/
def endT (sty : List Nat) (bl : Bool) : List Nat × List Nat :=
  if bl = true then (if sty = [98, 114, 97, 99, 107, 101, 116, 115] then ([40], [41]) else if sty = [98, 101, 104, 105, 110, 100] then ([], [45]) else ([45], []))
  else if sty = [112, 108, 117, 115] then ([43], []) else if sty = [98, 108, 97, 110, 107] then ([32], []) else ([], [])
def sp_P_ends_of (K : PySem.W.Frag) : Sp := fun vs H Q _ => ∃ (sty : List Nat) (bl : Bool), vs = [.str (S sty), .bl bl] ∧ sty ∈ styles ∧ ∀ p, SqT K H p [.str (S (endT sty bl).1), .str (S (endT sty bl).2)] → Q (.ref p) H
def t_P_ends_of (P : Program) (w : World) (K : PySem.W.Frag) (mg : Str → Option Value) (base : Heap) : TS := tSeq (tIfS (tB1 (tV 1)) (tRet (tOp (rIxD K w) (tC (.ref (He.ga K "BELOW"))) (tV 0))) (tNext)) (tRet (tOp (rIxD K w) (tC (.ref (He.ga K "ABOVE"))) (tV 0)))
theorem der_P_ends_of {P : Program} {w : World} {K : PySem.W.Frag} {mg : Str → Option Value} {base : Heap} (T : TX w K mg) {f : Addr} {cdv : Value} {A : Around} {outer : List Env} {s : Shared} {H : Hp} {E : XK} (hr : Room 0 (A.deeper (envOfC "ends_of" (defScope s_P_ends_of) s.heap.objs.size f cdv))) :
    PSs (cxOf CX0 P w K mg base N_P_ends_of "ends_of" (defScope s_P_ends_of) f cdv A outer s H E).nox (defBody s_P_ends_of) (t_P_ends_of P w K mg base) :=
  pss_cons (ps_if (tVal1 (fV 1 nm_P_ends_of_below rfl) (fun _ => rfl)) (pss_one (ps_ret (fIxD (fGlobR ng_P_ends_of_BELOW T.g_BELOW) (fV 0 nm_P_ends_of_style rfl) (fun _ _ => rfl)))) (pss_nil)) (pss_one (ps_ret (fIxD (fGlobR ng_P_ends_of_ABOVE T.g_ABOVE) (fV 0 nm_P_ends_of_style rfl) (fun _ _ => rfl))))
theorem endT_above : ∀ s ∈ styles, (s, (endT s false).1, (endT s false).2) ∈ aboveT := by decide
theorem endT_below : ∀ s ∈ styles, (s, (endT s true).1, (endT s true).2) ∈ belowT := by decide
theorem rd_P_ends_of (T : TX w K mg) (vs : List V) (H : Hp) (Q : VK) (E : XK) (h : sp_P_ends_of K vs H Q E) : t_P_ends_of P w K mg base { nx := fun _ H' => Q .non H', rt := Q } (start N_P_ends_of vs) H := by
  obtain ⟨sty, bl, rfl, hs, q⟩ := h
  cases bl with
  | true =>
    obtain ⟨p, h1, h2⟩ := T.a_BELOW _ (endT_below sty hs)
    exact ⟨_, _, _, rfl, rfl, h1, q p (h2 H)⟩
  | false =>
    obtain ⟨p, h1, h2⟩ := T.a_ABOVE _ (endT_above sty hs)
    exact ⟨_, _, _, rfl, rfl, h1, q p (h2 H)⟩
theorem ok_P_ends_of {P : Program} {w : World} {K : PySem.W.Frag} {mg : Str → Option Value} {base : Heap} (T : TX w K mg) : Fn P w K mg base CX0 1 "ends_of" (sp_P_ends_of K) := by
  obtain ⟨fd, F⟩ := T.d_P_ends_of
  refine ⟨_, fd, A_P_ends_of, T.g_P_ends_of, F.kp, fnD F sc_P_ends_of (fun vs H Q E h => ?_) (fun cdv A outer s H vs Q E hr h => ⟨_, PSs.nox (der_P_ends_of T  hr), rd_P_ends_of T vs H Q E h⟩), F.bindsN fun _ _ _ _ _ _ us hl => match us, hl with | [_, _], _ => rfl⟩
  obtain ⟨_, _, rfl, _⟩ := h
  rfl
end
end K45
namespace K45
open PySem PySem.Spec PyProof.Rows L2 F
/-! ### forms -/
def NS.flds (n : NS) : List (Str × V) := [("width", .int n.width), ("fill", .str (S [n.fill])), ("side", .str (S n.side)), ("strict", .bl n.strict), ("figures", .int n.fig), ("places", .int n.pl), ("base", .int n.base), ("sign", .str (S n.sty)), ("size", .int n.size), ("mark", .str (S [n.mark])), ("point", .str (S [n.point])), ("way", .str (S n.way))]
def WS.flds (n : WS) : List (Str × V) := [("width", .int n.width), ("fill", .str (S [n.fill])), ("side", .str (S n.side)), ("strict", .bl n.strict), ("signs", .str (S n.signs)), ("least", .int n.least), ("most", .int n.most)]
def CS.flds (n : CS) (na : Addr) : List (Str × V) := [("width", .int n.width), ("fill", .str (S [n.fill])), ("side", .str (S n.side)), ("strict", .bl n.strict), ("names", .ref na)]
def clsOf : Spec → Str
  | .num _ => "NumberForm"
  | .word _ => "WordForm"
  | .choice _ => "ChoiceForm"
def FormAt (K : PySem.W.Frag) (H : Hp) (a : Addr) : Spec → Prop
  | .num n => ∃ dx, H a = some (.ins (He.ga K "NumberForm") dx n.flds)
  | .word n => ∃ dx, H a = some (.ins (He.ga K "WordForm") dx n.flds)
  | .choice n => ∃ dx na, H na = some (.lst (sVs n.names)) ∧ H a = some (.ins (He.ga K "ChoiceForm") dx (n.flds na))
theorem Ex.formAt {K : PySem.W.Frag} {H H' : Hp} {a : Addr} {s : Spec} (e : Ex H H') (h : FormAt K H a s) : FormAt K H' a s := by
  cases s with
  | num n => obtain ⟨dx, h⟩ := h; exact ⟨dx, e _ _ h⟩
  | word n => obtain ⟨dx, h⟩ := h; exact ⟨dx, e _ _ h⟩
  | choice n =>
    obtain ⟨dx, na, h1, h2⟩ := h
    exact ⟨dx, na, e _ _ h1, e _ _ h2⟩
section
variable {P : Program} {w : World} {K : PySem.W.Frag} {mg : Str → Option Value} {base : Heap}
/-- what all forms have -/
theorem FormAt.com (T : TX w K mg) {H : Hp} {a : Addr} {s : Spec} (h : FormAt K H a s) : FldAt K H a "width" (.int (s.width : Nat)) ∧ FldAt K H a "fill" (.str (S [s.fill])) ∧ FldAt K H a "side" (.str (S s.side)) ∧ FldAt K H a "strict" (.bl s.strict) := by
  cases s with
  | num n =>
    obtain ⟨dx, h⟩ := h
    exact ⟨⟨_, _, _, h, T.cl_NumberForm, T.na_NumberForm_width, by kernel_rfl⟩, ⟨_, _, _, h, T.cl_NumberForm, T.na_NumberForm_fill, by kernel_rfl⟩, ⟨_, _, _, h, T.cl_NumberForm, T.na_NumberForm_side, by kernel_rfl⟩, ⟨_, _, _, h, T.cl_NumberForm, T.na_NumberForm_strict, by kernel_rfl⟩⟩
  | word n =>
    obtain ⟨dx, h⟩ := h
    exact ⟨⟨_, _, _, h, T.cl_WordForm, T.na_WordForm_width, by kernel_rfl⟩, ⟨_, _, _, h, T.cl_WordForm, T.na_WordForm_fill, by kernel_rfl⟩, ⟨_, _, _, h, T.cl_WordForm, T.na_WordForm_side, by kernel_rfl⟩, ⟨_, _, _, h, T.cl_WordForm, T.na_WordForm_strict, by kernel_rfl⟩⟩
  | choice n =>
    obtain ⟨dx, na, _, h⟩ := h
    exact ⟨⟨_, _, _, h, T.cl_ChoiceForm, T.na_ChoiceForm_width, by kernel_rfl⟩, ⟨_, _, _, h, T.cl_ChoiceForm, T.na_ChoiceForm_fill, by kernel_rfl⟩, ⟨_, _, _, h, T.cl_ChoiceForm, T.na_ChoiceForm_side, by kernel_rfl⟩, ⟨_, _, _, h, T.cl_ChoiceForm, T.na_ChoiceForm_strict, by kernel_rfl⟩⟩
/-! ### __init__ -/
def sp_P_Form_init (K : PySem.W.Frag) : Sp := fun vs H Q _ => ∃ (a C dx : Addr) (v1 v2 v3 v4 : V), vs = [.ref a, v1, v2, v3, v4] ∧ H a = some (.ins C dx []) ∧ Cls K C ∧ NoAttr K C "width" ∧ NoAttr K C "fill" ∧ NoAttr K C "side" ∧ NoAttr K C "strict" ∧
  ∀ H', H' a = some (.ins C dx [("width", v1), ("fill", v2), ("side", v3), ("strict", v4)]) → (∀ b, b ≠ a → H' b = H b) → Q .non H'
def t_P_Form___init__ (P : Program) (w : World) (K : PySem.W.Frag) (mg : Str → Option Value) (base : Heap) : TS := tSeq (sFld1 K (tV 0) (tV 1) "width") (tSeq (sFld1 K (tV 0) (tV 2) "fill") (tSeq (sFld1 K (tV 0) (tV 3) "side") (sFld1 K (tV 0) (tV 4) "strict")))
theorem der_P_Form___init__ {P : Program} {w : World} {K : PySem.W.Frag} {mg : Str → Option Value} {base : Heap} (T : TX w K mg) {f : Addr} {cdv : Value} {A : Around} {outer : List Env} {s : Shared} {H : Hp} {E : XK} (hr : Room 0 (A.deeper (envOfC "Form.__init__" (defScope s_P_Form___init__) s.heap.objs.size f cdv))) :
    PSs (cxOf CX0 P w K mg base N_P_Form___init__ "Form.__init__" (defScope s_P_Form___init__) f cdv A outer s H E).nox (defBody s_P_Form___init__) (t_P_Form___init__ P w K mg base) :=
  pss_cons (sFld (fV 0 nm_P_Form___init___self rfl) (fV 1 nm_P_Form___init___width rfl) rfl) (pss_cons (sFld (fV 0 nm_P_Form___init___self rfl) (fV 2 nm_P_Form___init___fill rfl) rfl) (pss_cons (sFld (fV 0 nm_P_Form___init___self rfl) (fV 3 nm_P_Form___init___side rfl) rfl) (pss_one (sFld (fV 0 nm_P_Form___init___self rfl) (fV 4 nm_P_Form___init___strict rfl) rfl))))
theorem rd_P_Form___init__ (T : TX w K mg) (vs : List V) (H : Hp) (Q : VK) (E : XK) (h : sp_P_Form_init K vs H Q E) : t_P_Form___init__ P w K mg base { nx := fun _ H' => Q .non H', rt := Q } (start N_P_Form___init__ vs) H := by
  obtain ⟨a, C, dx, v1, v2, v3, v4, rfl, h, c, n1, n2, n3, n4, q⟩ := h
  refine ⟨C, dx, _, h, c, n1, by show 0 < 1000; decide, ?_⟩
  refine ⟨C, dx, _, upd_same, c, n2, by show 1 < 1000; decide, ?_⟩
  refine ⟨C, dx, _, upd_same, c, n3, by show 2 < 1000; decide, ?_⟩
  refine ⟨C, dx, _, upd_same, c, n4, by show 3 < 1000; decide, ?_⟩
  refine q _ (upd_same.trans (by kernel_rfl)) fun b hb => ?_
  rw [upd_ne hb, upd_ne hb, upd_ne hb, upd_ne hb]
theorem ok_P_Form___init__ {P : Program} {w : World} {K : PySem.W.Frag} {mg : Str → Option Value} {base : Heap} (T : TX w K mg) : In P w K mg base 1 (He.ma K (He.ga K "Form") "__init__") (sp_P_Form_init K) := by
  obtain ⟨fd, F⟩ := T.d_P_Form___init__
  refine ⟨fd, A_P_Form___init__, F.ok sc_P_Form___init__ (fun vs H Q E h => ?_) (fun cdv A outer s H vs Q E hr h => ⟨_, PSs.nox (der_P_Form___init__ T  hr), rd_P_Form___init__ T vs H Q E h⟩), F.bindsN fun _ _ _ _ _ _ us hl => match us, hl with | [_, _, _, _, _], _ => rfl⟩
  obtain ⟨_, _, _, _, _, _, _, rfl, _⟩ := h
  rfl
def sp_P_Number_init (K : PySem.W.Frag) : Sp := fun vs H Q _ => ∃ (a dx : Addr) (n : NS), vs = [.ref a, .int n.fig, .int n.pl, .int n.base, .str (S n.sty), .int n.size, .str (S [n.mark]), .str (S [n.point]), .str (S n.way), .int n.width, .str (S [n.fill]), .str (S n.side), .bl n.strict] ∧ H a = some (.ins (He.ga K "NumberForm") dx []) ∧
  ∀ H', H' a = some (.ins (He.ga K "NumberForm") dx n.flds) → (∀ b, b ≠ a → H' b = H b) → Q .non H'
def t_P_NumberForm___init__ (P : Program) (w : World) (K : PySem.W.Frag) (mg : Str → Option Value) (base : Heap) : TS := tSeq (tDrop (tCall (sp_P_Form_init K) [] E0 (tCons (tV 0) (tCons (tV 9) (tCons (tV 10) (tCons (tV 11) (tCons (tV 12) (tNil)))))))) (tSeq (sFld1 K (tV 0) (tV 1) "figures") (tSeq (sFld1 K (tV 0) (tV 2) "places") (tSeq (sFld1 K (tV 0) (tV 3) "base") (tSeq (sFld1 K (tV 0) (tV 4) "sign") (tSeq (sFld1 K (tV 0) (tV 5) "size") (tSeq (sFld1 K (tV 0) (tV 6) "mark") (tSeq (sFld1 K (tV 0) (tV 7) "point") (sFld1 K (tV 0) (tV 8) "way"))))))))
theorem der_P_NumberForm___init__ {P : Program} {w : World} {K : PySem.W.Frag} {mg : Str → Option Value} {base : Heap} (T : TX w K mg) (I_Form : In P w K mg base 1 (He.ma K (He.ga K "Form") "__init__") (sp_P_Form_init K)) {f : Addr} {cdv : Value} {A : Around} {outer : List Env} {s : Shared} {H : Hp} {E : XK} (hr : Room 1 (A.deeper (envOfC "NumberForm.__init__" (defScope s_P_NumberForm___init__) s.heap.objs.size f cdv))) :
    PSs (cxOf CX0 P w K mg base N_P_NumberForm___init__ "NumberForm.__init__" (defScope s_P_NumberForm___init__) f cdv A outer s H E).nox (defBody s_P_NumberForm___init__) (t_P_NumberForm___init__ P w K mg base) :=
  pss_cons (sExpr (fInit1 T.g_Form ng_P_NumberForm___init___Form T.ci_Form I_Form (hr.mono (by decide)) (aCons (fV 0 nm_P_NumberForm___init___self rfl) (aCons (fV 9 nm_P_NumberForm___init___width rfl) (aCons (fV 10 nm_P_NumberForm___init___fill rfl) (aCons (fV 11 nm_P_NumberForm___init___side rfl) (aCons (fV 12 nm_P_NumberForm___init___strict rfl) (pa_nil) rfl) rfl) rfl) rfl) rfl) rfl (let ⟨_, F⟩ := T.d_P_Form___init__; F.kp) rfl) rfl) (pss_cons (sFld (fV 0 nm_P_NumberForm___init___self rfl) (fV 1 nm_P_NumberForm___init___figures rfl) rfl) (pss_cons (sFld (fV 0 nm_P_NumberForm___init___self rfl) (fV 2 nm_P_NumberForm___init___places rfl) rfl) (pss_cons (sFld (fV 0 nm_P_NumberForm___init___self rfl) (fV 3 nm_P_NumberForm___init___base rfl) rfl) (pss_cons (sFld (fV 0 nm_P_NumberForm___init___self rfl) (fV 4 nm_P_NumberForm___init___sign rfl) rfl) (pss_cons (sFld (fV 0 nm_P_NumberForm___init___self rfl) (fV 5 nm_P_NumberForm___init___size rfl) rfl) (pss_cons (sFld (fV 0 nm_P_NumberForm___init___self rfl) (fV 6 nm_P_NumberForm___init___mark rfl) rfl) (pss_cons (sFld (fV 0 nm_P_NumberForm___init___self rfl) (fV 7 nm_P_NumberForm___init___point rfl) rfl) (pss_one (sFld (fV 0 nm_P_NumberForm___init___self rfl) (fV 8 nm_P_NumberForm___init___way rfl) rfl)))))))))
theorem rd_P_NumberForm___init__ (T : TX w K mg) (vs : List V) (H : Hp) (Q : VK) (E : XK) (h : sp_P_Number_init K vs H Q E) : t_P_NumberForm___init__ P w K mg base { nx := fun _ H' => Q .non H', rt := Q } (start N_P_NumberForm___init__ vs) H := by
  obtain ⟨a, dx, n, rfl, h, q⟩ := h
  have c := T.cl_NumberForm
  refine ⟨a, _, dx, _, _, _, _, rfl, h, c, T.na_NumberForm_width, T.na_NumberForm_fill, T.na_NumberForm_side, T.na_NumberForm_strict, fun H1 h1 k1 => ?_⟩
  refine ⟨_, dx, _, h1, c, T.na_NumberForm_figures, by show 4 < 1000; decide, ?_⟩
  refine ⟨_, dx, _, upd_same, c, T.na_NumberForm_places, by show 5 < 1000; decide, ?_⟩
  refine ⟨_, dx, _, upd_same, c, T.na_NumberForm_base, by show 6 < 1000; decide, ?_⟩
  refine ⟨_, dx, _, upd_same, c, T.na_NumberForm_sign, by show 7 < 1000; decide, ?_⟩
  refine ⟨_, dx, _, upd_same, c, T.na_NumberForm_size, by show 8 < 1000; decide, ?_⟩
  refine ⟨_, dx, _, upd_same, c, T.na_NumberForm_mark, by show 9 < 1000; decide, ?_⟩
  refine ⟨_, dx, _, upd_same, c, T.na_NumberForm_point, by show 10 < 1000; decide, ?_⟩
  refine ⟨_, dx, _, upd_same, c, T.na_NumberForm_way, by show 11 < 1000; decide, ?_⟩
  refine q _ (upd_same.trans (by kernel_rfl)) fun b hb => ?_
  rw [upd_ne hb, upd_ne hb, upd_ne hb, upd_ne hb, upd_ne hb, upd_ne hb, upd_ne hb, upd_ne hb, k1 b hb]
theorem ok_P_NumberForm___init__ {P : Program} {w : World} {K : PySem.W.Frag} {mg : Str → Option Value} {base : Heap} (T : TX w K mg) : In P w K mg base 2 (He.ma K (He.ga K "NumberForm") "__init__") (sp_P_Number_init K) := by
  obtain ⟨fd, F⟩ := T.d_P_NumberForm___init__
  refine ⟨fd, A_P_NumberForm___init__, F.ok sc_P_NumberForm___init__ (fun vs H Q E h => ?_) (fun cdv A outer s H vs Q E hr h => ⟨_, PSs.nox (der_P_NumberForm___init__ T (ok_P_Form___init__ T) hr), rd_P_NumberForm___init__ T vs H Q E h⟩), bindsD F (by decide) (fun _ _ _ _ _ _ _ us its hl hi => match us, hl, its, hi with | [_, _, _, _, _, _, _, _, _, _, _, _, _], _, [_, _, _, _, _, _, _, _, _, _], _ => ⟨_, rfl, rfl⟩)⟩
  obtain ⟨_, _, _, rfl, _⟩ := h
  rfl
def sp_P_Word_init (K : PySem.W.Frag) : Sp := fun vs H Q _ => ∃ (a dx : Addr) (n : WS), vs = [.ref a, .str (S n.signs), .int n.least, .int n.most, .int n.width, .str (S [n.fill]), .str (S n.side), .bl n.strict] ∧ H a = some (.ins (He.ga K "WordForm") dx []) ∧
  ∀ H', H' a = some (.ins (He.ga K "WordForm") dx n.flds) → (∀ b, b ≠ a → H' b = H b) → Q .non H'
def t_P_WordForm___init__ (P : Program) (w : World) (K : PySem.W.Frag) (mg : Str → Option Value) (base : Heap) : TS := tSeq (tDrop (tCall (sp_P_Form_init K) [] E0 (tCons (tV 0) (tCons (tV 4) (tCons (tV 5) (tCons (tV 6) (tCons (tV 7) (tNil)))))))) (tSeq (sFld1 K (tV 0) (tV 1) "signs") (tSeq (sFld1 K (tV 0) (tV 2) "least") (sFld1 K (tV 0) (tV 3) "most")))
theorem der_P_WordForm___init__ {P : Program} {w : World} {K : PySem.W.Frag} {mg : Str → Option Value} {base : Heap} (T : TX w K mg) (I_Form : In P w K mg base 1 (He.ma K (He.ga K "Form") "__init__") (sp_P_Form_init K)) {f : Addr} {cdv : Value} {A : Around} {outer : List Env} {s : Shared} {H : Hp} {E : XK} (hr : Room 1 (A.deeper (envOfC "WordForm.__init__" (defScope s_P_WordForm___init__) s.heap.objs.size f cdv))) :
    PSs (cxOf CX0 P w K mg base N_P_WordForm___init__ "WordForm.__init__" (defScope s_P_WordForm___init__) f cdv A outer s H E).nox (defBody s_P_WordForm___init__) (t_P_WordForm___init__ P w K mg base) :=
  pss_cons (sExpr (fInit1 T.g_Form ng_P_WordForm___init___Form T.ci_Form I_Form (hr.mono (by decide)) (aCons (fV 0 nm_P_WordForm___init___self rfl) (aCons (fV 4 nm_P_WordForm___init___width rfl) (aCons (fV 5 nm_P_WordForm___init___fill rfl) (aCons (fV 6 nm_P_WordForm___init___side rfl) (aCons (fV 7 nm_P_WordForm___init___strict rfl) (pa_nil) rfl) rfl) rfl) rfl) rfl) rfl (let ⟨_, F⟩ := T.d_P_Form___init__; F.kp) rfl) rfl) (pss_cons (sFld (fV 0 nm_P_WordForm___init___self rfl) (fV 1 nm_P_WordForm___init___signs rfl) rfl) (pss_cons (sFld (fV 0 nm_P_WordForm___init___self rfl) (fV 2 nm_P_WordForm___init___least rfl) rfl) (pss_one (sFld (fV 0 nm_P_WordForm___init___self rfl) (fV 3 nm_P_WordForm___init___most rfl) rfl))))
theorem rd_P_WordForm___init__ (T : TX w K mg) (vs : List V) (H : Hp) (Q : VK) (E : XK) (h : sp_P_Word_init K vs H Q E) : t_P_WordForm___init__ P w K mg base { nx := fun _ H' => Q .non H', rt := Q } (start N_P_WordForm___init__ vs) H := by
  obtain ⟨a, dx, n, rfl, h, q⟩ := h
  have c := T.cl_WordForm
  refine ⟨a, _, dx, _, _, _, _, rfl, h, c, T.na_WordForm_width, T.na_WordForm_fill, T.na_WordForm_side, T.na_WordForm_strict, fun H1 h1 k1 => ?_⟩
  refine ⟨_, dx, _, h1, c, T.na_WordForm_signs, by show 4 < 1000; decide, ?_⟩
  refine ⟨_, dx, _, upd_same, c, T.na_WordForm_least, by show 5 < 1000; decide, ?_⟩
  refine ⟨_, dx, _, upd_same, c, T.na_WordForm_most, by show 6 < 1000; decide, ?_⟩
  refine q _ (upd_same.trans (by kernel_rfl)) fun b hb => ?_
  rw [upd_ne hb, upd_ne hb, upd_ne hb, k1 b hb]
theorem ok_P_WordForm___init__ {P : Program} {w : World} {K : PySem.W.Frag} {mg : Str → Option Value} {base : Heap} (T : TX w K mg) : In P w K mg base 2 (He.ma K (He.ga K "WordForm") "__init__") (sp_P_Word_init K) := by
  obtain ⟨fd, F⟩ := T.d_P_WordForm___init__
  refine ⟨fd, A_P_WordForm___init__, F.ok sc_P_WordForm___init__ (fun vs H Q E h => ?_) (fun cdv A outer s H vs Q E hr h => ⟨_, PSs.nox (der_P_WordForm___init__ T (ok_P_Form___init__ T) hr), rd_P_WordForm___init__ T vs H Q E h⟩), bindsD F (by decide) (fun _ _ _ _ _ _ _ us its hl hi => match us, hl, its, hi with | [_, _, _, _, _, _, _, _], _, [_, _, _, _], _ => ⟨_, rfl, rfl⟩)⟩
  obtain ⟨_, _, _, rfl, _⟩ := h
  rfl
def sp_P_Choice_init (K : PySem.W.Frag) : Sp := fun vs H Q _ => ∃ (a dx na : Addr) (n : CS), vs = [.ref a, .ref na, .int n.width, .str (S [n.fill]), .str (S n.side), .bl n.strict] ∧ H a = some (.ins (He.ga K "ChoiceForm") dx []) ∧ H na = some (.lst (sVs n.names)) ∧
  ∀ H' nb, H' a = some (.ins (He.ga K "ChoiceForm") dx (n.flds nb)) → H' nb = some (.lst (sVs n.names)) → (∀ b o, b ≠ a → H b = some o → H' b = some o) → Q .non H'
def t_P_ChoiceForm___init__ (P : Program) (w : World) (K : PySem.W.Frag) (mg : Str → Option Value) (base : Heap) : TS := tSeq (tDrop (tCall (sp_P_Form_init K) [] E0 (tCons (tV 0) (tCons (tV 2) (tCons (tV 3) (tCons (tV 4) (tCons (tV 5) (tNil)))))))) (sFld1 K (tV 0) (tCB (rList1 K) (tCons (tV 1) (tNil))) "names")
theorem der_P_ChoiceForm___init__ {P : Program} {w : World} {K : PySem.W.Frag} {mg : Str → Option Value} {base : Heap} (T : TX w K mg) (I_Form : In P w K mg base 1 (He.ma K (He.ga K "Form") "__init__") (sp_P_Form_init K)) {f : Addr} {cdv : Value} {A : Around} {outer : List Env} {s : Shared} {H : Hp} {E : XK} (hr : Room 1 (A.deeper (envOfC "ChoiceForm.__init__" (defScope s_P_ChoiceForm___init__) s.heap.objs.size f cdv))) :
    PSs (cxOf CX0 P w K mg base N_P_ChoiceForm___init__ "ChoiceForm.__init__" (defScope s_P_ChoiceForm___init__) f cdv A outer s H E).nox (defBody s_P_ChoiceForm___init__) (t_P_ChoiceForm___init__ P w K mg base) :=
  pss_cons (sExpr (fInit1 T.g_Form ng_P_ChoiceForm___init___Form T.ci_Form I_Form (hr.mono (by decide)) (aCons (fV 0 nm_P_ChoiceForm___init___self rfl) (aCons (fV 2 nm_P_ChoiceForm___init___width rfl) (aCons (fV 3 nm_P_ChoiceForm___init___fill rfl) (aCons (fV 4 nm_P_ChoiceForm___init___side rfl) (aCons (fV 5 nm_P_ChoiceForm___init___strict rfl) (pa_nil) rfl) rfl) rfl) rfl) rfl) rfl (let ⟨_, F⟩ := T.d_P_Form___init__; F.kp) rfl) rfl) (pss_one (sFld (fV 0 nm_P_ChoiceForm___init___self rfl) (fBT cList ng_P_ChoiceForm___init___list T.b_list bb_list (aCons (fV 1 nm_P_ChoiceForm___init___names rfl) (pa_nil) rfl) rfl) rfl))
theorem rd_P_ChoiceForm___init__ (T : TX w K mg) (vs : List V) (H : Hp) (Q : VK) (E : XK) (h : sp_P_Choice_init K vs H Q E) : t_P_ChoiceForm___init__ P w K mg base { nx := fun _ H' => Q .non H', rt := Q } (start N_P_ChoiceForm___init__ vs) H := by
  obtain ⟨a, dx, na, n, rfl, h, hn, q⟩ := h
  have c := T.cl_ChoiceForm
  have hne : na ≠ a := fun z => by
    rw [z, h] at hn
    cases hn
  refine ⟨a, _, dx, _, _, _, _, rfl, h, c, T.na_ChoiceForm_width, T.na_ChoiceForm_fill, T.na_ChoiceForm_side, T.na_ChoiceForm_strict, fun H1 h1 k1 => ?_⟩
  refine ⟨_, .inl (SqL.of (by rw [k1 na hne]; exact hn)), fun nb H2 hb e2 h2 => ?_⟩
  have hba : nb ≠ a := fun z => by
    rw [z, h1] at hb
    cases hb
  refine ⟨_, dx, _, e2 _ _ h1, c, T.na_ChoiceForm_names, by show 4 < 1000; decide, ?_⟩
  refine q _ nb (upd_same.trans (by kernel_rfl)) (by rw [upd_ne hba]; exact h2) fun b o hb2 ho => ?_
  rw [upd_ne hb2]
  refine e2 _ _ ?_
  rw [k1 b hb2]
  exact ho
theorem ok_P_ChoiceForm___init__ {P : Program} {w : World} {K : PySem.W.Frag} {mg : Str → Option Value} {base : Heap} (T : TX w K mg) : In P w K mg base 2 (He.ma K (He.ga K "ChoiceForm") "__init__") (sp_P_Choice_init K) := by
  obtain ⟨fd, F⟩ := T.d_P_ChoiceForm___init__
  refine ⟨fd, A_P_ChoiceForm___init__, F.ok sc_P_ChoiceForm___init__ (fun vs H Q E h => ?_) (fun cdv A outer s H vs Q E hr h => ⟨_, PSs.nox (der_P_ChoiceForm___init__ T (ok_P_Form___init__ T) hr), rd_P_ChoiceForm___init__ T vs H Q E h⟩), bindsD F (by decide) (fun _ _ _ _ _ _ _ us its hl hi => match us, hl, its, hi with | [_, _, _, _, _, _], _, [_, _, _, _], _ => ⟨_, rfl, rfl⟩)⟩
  obtain ⟨_, _, _, _, rfl, _⟩ := h
  rfl
end
end K45
namespace K45
open PySem PySem.Spec PyProof.Rows L2 F
theorem sVs_length (ls : List (List Nat)) : (sVs ls).length = ls.length := List.length_map _
theorem sVs_get {ls : List (List Nat)} {i : Nat} {x : V} (h : (sVs ls)[i]? = some x) : ∃ l, ls[i]? = some l ∧ x = .str (S l) := by
  rw [List.getElem?_map] at h
  cases hq : ls[i]? with
  | none => rw [hq] at h; cases h
  | some l => rw [hq] at h; injection h with h; exact ⟨l, rfl, h.symm⟩
theorem take_snoc {α : Type} {l : List α} {i : Nat} {x : α} (h : l[i]? = some x) : l.take (i + 1) = l.take i ++ [x] := by
  rw [List.take_add_one, h]
  rfl
def NS.filled (n : NS) (ld r : List Nat) : List Nat := if n.side = sInside then padI n.width n.fill ld r else padT n.width n.fill n.side (ld ++ r)
def NS.body (n : NS) (k : Nat) : List Nat := bodyOf n.base n.size n.mark n.point n.pl k
def NS.IsB (n : NS) (t : List Nat) (k : Nat) : Prop := IsBody n.base n.size n.mark n.point n.pl t k
/-- the text of k steps below (or not) is t -/
def NS.Hit (n : NS) (t : List Nat) (bl : Bool) (k : Nat) : Prop :=
  k < n.base ^ (n.fig + n.pl) ∧ (n.strict && decide (n.width < (endT n.sty bl).1.length + (n.body k ++ (endT n.sty bl).2).length)) = false ∧ n.filled (endT n.sty bl).1 (n.body k ++ (endT n.sty bl).2) = t
section
variable {P : Program} {w : World} {K : PySem.W.Frag} {mg : Str → Option Value} {base : Heap}
theorem nFld (T : TX w K mg) {H : Hp} {a : Addr} {n : NS} (h : FormAt K H a (.num n)) : FldAt K H a "figures" (.int n.fig) ∧ FldAt K H a "places" (.int n.pl) ∧ FldAt K H a "base" (.int n.base) ∧ FldAt K H a "sign" (.str (S n.sty)) ∧ FldAt K H a "size" (.int n.size) ∧ FldAt K H a "mark" (.str (S [n.mark])) ∧ FldAt K H a "point" (.str (S [n.point])) := by
  obtain ⟨dx, h⟩ := h
  exact ⟨⟨_, _, _, h, T.cl_NumberForm, T.na_NumberForm_figures, by kernel_rfl⟩, ⟨_, _, _, h, T.cl_NumberForm, T.na_NumberForm_places, by kernel_rfl⟩, ⟨_, _, _, h, T.cl_NumberForm, T.na_NumberForm_base, by kernel_rfl⟩, ⟨_, _, _, h, T.cl_NumberForm, T.na_NumberForm_sign, by kernel_rfl⟩,
    ⟨_, _, _, h, T.cl_NumberForm, T.na_NumberForm_size, by kernel_rfl⟩, ⟨_, _, _, h, T.cl_NumberForm, T.na_NumberForm_mark, by kernel_rfl⟩, ⟨_, _, _, h, T.cl_NumberForm, T.na_NumberForm_point, by kernel_rfl⟩⟩
/-! ### rests_in -/
def sp_P_rests_in (K : PySem.W.Frag) : Sp := fun vs H Q _ => ∃ (a : Addr) (n : NS) (t ld : List Nat), vs = [.ref a, .str (S t), .str (S ld)] ∧ FormAt K H a (.num n) ∧ n.Ok ∧ t.length ≤ 200 ∧ ld.length ≤ 10 ∧
  ∀ p H' rs, H p = none → Ex H H' → H' p = some (.lst (sVs rs)) → Rising rs → (∀ r, r ∈ rs ↔ n.filled ld r = t) → Q (.ref p) H'
def t_P_NumberForm_rests_in (P : Program) (w : World) (K : PySem.W.Frag) (mg : Str → Option Value) (base : Heap) : TS := tSeq (tIfS (tB1 (tOp (rEq1) (tFld1 K (tV 0) "side") (tC (.str (S [105, 110, 115, 105, 100, 101]))))) (tRet (tCall (sp_P_stripped_inside) [] E0 (tCons (tV 1) (tCons (tV 2) (tCons (tFld1 K (tV 0) "width") (tCons (tFld1 K (tV 0) "fill") (tNil))))))) (tNext)) (tSeq (tSetK 3 (tCall (sp_P_stripped) [] E0 (tCons (tV 1) (tCons (tFld1 K (tV 0) "width") (tCons (tFld1 K (tV 0) "fill") (tCons (tFld1 K (tV 0) "side") (tNil))))))) (tRet (tLc (iList K (tV 3)) (gName 4) (tB1 (tM1 (rStarts1) (tV 4) (tV 2))) (tSl (rSlS1) (tV 4) (tPart1 (tCB (rLen1 K) (tCons (tV 2) (tNil)))) tNoPart) [4])))
theorem der_P_NumberForm_rests_in {P : Program} {w : World} {K : PySem.W.Frag} {mg : Str → Option Value} {base : Heap} (T : TX w K mg) (C_P_stripped_inside : Fn P w K mg base CX0 3 "stripped_inside" (sp_P_stripped_inside)) (C_P_stripped : Fn P w K mg base CX0 3 "stripped" (sp_P_stripped)) {f : Addr} {cdv : Value} {A : Around} {outer : List Env} {s : Shared} {H : Hp} {E : XK} (hr : Room 3 (A.deeper (envOfC "NumberForm.rests_in" (defScope s_P_NumberForm_rests_in) s.heap.objs.size f cdv))) :
    PSs (cxOf CX0 P w K mg base N_P_NumberForm_rests_in "NumberForm.rests_in" (defScope s_P_NumberForm_rests_in) f cdv A outer s H E).nox (defBody s_P_NumberForm_rests_in) (t_P_NumberForm_rests_in P w K mg base) :=
  pss_cons (ps_if (tCmp1 (oEq) (fFld (fV 0 nm_P_NumberForm_rests_in_self rfl) rfl) (fS rfl) (nomark _)) (pss_one (ps_ret (fCall C_P_stripped_inside (hr.mono (by decide)) ng_P_NumberForm_rests_in_stripped_inside pass0 (aCons (fV 1 nm_P_NumberForm_rests_in_text rfl) (aCons (fV 2 nm_P_NumberForm_rests_in_lead rfl) (aCons (fFld (fV 0 nm_P_NumberForm_rests_in_self rfl) rfl) (aCons (fFld (fV 0 nm_P_NumberForm_rests_in_self rfl) rfl) (pa_nil) rfl) rfl) rfl) rfl) rfl))) (pss_nil)) (pss_cons (sSetK (i := 3) sc_P_NumberForm_rests_in.nd rfl nl_P_NumberForm_rests_in_cores (fCall C_P_stripped (hr.mono (by decide)) ng_P_NumberForm_rests_in_stripped pass0 (aCons (fV 1 nm_P_NumberForm_rests_in_text rfl) (aCons (fFld (fV 0 nm_P_NumberForm_rests_in_self rfl) rfl) (aCons (fFld (fV 0 nm_P_NumberForm_rests_in_self rfl) rfl) (aCons (fFld (fV 0 nm_P_NumberForm_rests_in_self rfl) rfl) (pa_nil) rfl) rfl) rfl) rfl) rfl) rfl (.inl rfl)) (pss_one (ps_ret (pe_lc (own := [("core", 4)]) (g := gName 4) rfl sc_P_NumberForm_rests_in.nd (pi_list (fV 3 nm_P_NumberForm_rests_in_cores rfl)) (blkOk_by (N := N_P_NumberForm_rests_in) (sc := defScope s_P_NumberForm_rests_in) (by decide +kernel)) (fun _ _ _ _ _ => gN sc_P_NumberForm_rests_in.nd rfl (nl_of (by kernel_rfl)) (.inr (by kernel_rfl))) (fun _ _ _ _ _ => pts_one (tVal1 (fM1 PySem.F.slot_str_startswith PySem.F.type_str_startswith mStarts (fV 4 (nm_of (by kernel_rfl)) rfl) (fV 2 (nm_of (by kernel_rfl)) rfl) rfl rfl rfl) (fun _ => rfl))) (fun _ _ _ _ _ => pe_slice slS1 (fV 4 (nm_of (by kernel_rfl)) rfl) (oSome (fB cLen (ng_of (by kernel_rfl)) T.b_len bb_len (aCons (fV 2 (nm_of (by kernel_rfl)) rfl) (pa_nil) rfl) rfl)) po_none)))))
theorem rd_P_NumberForm_rests_in (T : TX w K mg) (vs : List V) (H : Hp) (Q : VK) (E : XK) (h : sp_P_rests_in K vs H Q E) : t_P_NumberForm_rests_in P w K mg base { nx := fun _ H' => Q .non H', rt := Q } (start N_P_NumberForm_rests_in vs) H := by
  obtain ⟨a, n, t, ld, rfl, hF, ok, ht, hld, q⟩ := h
  obtain ⟨fw, ff, fs, fst⟩ := FormAt.com T hF
  have hwd := ok.wd
  refine ⟨_, fs, ?_⟩
  refine iteD (fun c => ?_) (fun c => ?_)
  · have c' : n.side = sInside := S_inj c
    refine ⟨_, fw, _, ff, t, ld, n.width, n.fill, rfl, by omega, by omega, by omega, fun p H' ls h1 h2 h3 h4 h5 => q p H' ls h1 h2 h3 h4 fun r => ?_⟩
    unfold NS.filled
    rw [if_pos c', h5]
  · have c' : ¬ n.side = sInside := fun z => c (by show S n.side = S sInside; rw [z])
    refine ⟨_, fw, _, ff, _, fs, t, n.width, n.fill, n.side, rfl, by omega, by omega, fun p H1 ls h1 e1 h3 h4 h5 => ?_⟩
    refine ⟨p, rfl, ⟨_, SqL.of h3⟩, fun D hD => ?_⟩
    let f : List Nat → Bool := fun x => decide (ld <+: x)
    let rs : List (List Nat) → List (List Nat) := fun l => (l.filter f).map (List.drop ld.length)
    have hlen : ∀ x ∈ ls, x.length ≤ 200 := fun x hx => by
      have := padT_len n.width n.fill n.side x
      rw [(h5 x).mp hx] at this
      omega
    have hls : ls.length ≤ 201 := by
      have hr : ∀ (l : List (List Nat)) (k m : Nat), Rising l → (∀ x ∈ l, k ≤ x.length ∧ x.length ≤ m) → l.length ≤ m + 1 - k := by
        intro l
        induction l with
        | nil => intro k m _ _; simp
        | cons y s ih =>
          intro k m hr hb
          have h1 := List.pairwise_cons.mp hr
          have h2 := ih (k + 1) m h1.2 fun x hx => ⟨by have := h1.1 x hx; have := (hb y (by simp)).1; omega, (hb x (by simp [hx])).2⟩
          have := hb y (by simp)
          rw [List.length_cons]
          omega
      exact hr ls 0 200 h4 fun x hx => ⟨by omega, hlen x hx⟩
    refine lc_list (K := K) (a := p) (xs := sVs ls) (fun i H' => Ex H1 H' ∧ H' D = some (.lst (sVs (rs (ls.take i))))) ⟨Ex.new hD, upd_same⟩ (fun i H' _ hh => SqL.of (hh.1 _ _ h3)) ?_ ?_
    · rintro i x H' hx ⟨e2, hd⟩
      obtain ⟨l, hl, rfl⟩ := sVs_get hx
      refine ⟨rfl, ⟨_, rfl⟩, l, ld, rfl, rfl, ?_⟩
      have et := take_snoc hl
      have hml : l ∈ ls := List.mem_of_getElem? hl
      refine iteD (fun c2 => ?_) (fun c2 => ?_)
      · refine ⟨ld, rfl, by omega, l, rfl, by have := hlen l hml; omega, ?_⟩
        rw [cutN_from (by omega), show (((ld.length : Nat) : Int)).toNat = ld.length by omega]
        refine ⟨_, hd, szT ?_, Ex.mut e2 hD, ?_⟩
        · rw [sVs_length, List.length_map]
          have h8 := List.length_filter_le f (ls.take i)
          rw [List.length_take] at h8
          omega
        · rw [upd_same, et]
          show some (HO.lst (sVs (rs (ls.take i)) ++ [.str (S (l.drop ld.length))])) = some (.lst (sVs (((ls.take i ++ [l]).filter f).map (List.drop ld.length))))
          rw [List.filter_append, List.map_append, List.filter_cons, if_pos (show f l = true from decide_eq_true c2)]
          exact congrArg (fun z => some (HO.lst z)) (sVs_snoc _ _).symm
      · refine ⟨e2, ?_⟩
        rw [hd, et]
        show _ = some (HO.lst (sVs (((ls.take i ++ [l]).filter f).map (List.drop ld.length))))
        rw [List.filter_append, List.map_append, List.filter_cons, if_neg (show ¬ f l = true from fun z => c2 (of_decide_eq_true z))]
        show _ = some (HO.lst (sVs (((ls.take i).filter f).map (List.drop ld.length) ++ [])))
        rw [List.append_nil]
    · rintro H' ⟨e2, hd⟩
      rw [sVs_length, List.take_length] at hd
      have pf : ∀ x ∈ ls.filter f, ld <+: x := fun x hx => of_decide_eq_true (List.mem_filter.mp hx).2
      refine q D H' (rs ls) (Ex.free e1 hD) (e1.trans e2) hd ?_ fun r => ?_
      · refine List.pairwise_map.mpr (List.Pairwise.imp_of_mem (fun {x y} hx hy hxy => ?_) (h4.filter f))
        have h1 := (pf x hx).length_le
        have h2 := (pf y hy).length_le
        rw [List.length_drop, List.length_drop]
        omega
      · unfold NS.filled
        rw [if_neg c']
        constructor
        · intro hr
          obtain ⟨x, hx, rfl⟩ := List.mem_map.mp hr
          obtain ⟨s, rfl⟩ := pf x hx
          rw [List.drop_left' rfl]
          exact (h5 _).mp (List.mem_filter.mp hx).1
        · intro hr
          refine List.mem_map.mpr ⟨ld ++ r, List.mem_filter.mpr ⟨(h5 _).mpr hr, decide_eq_true (List.prefix_append _ _)⟩, List.drop_left' rfl⟩
theorem ok_P_NumberForm_rests_in {P : Program} {w : World} {K : PySem.W.Frag} {mg : Str → Option Value} {base : Heap} (T : TX w K mg) : Mt P w K mg base CX0 4 (He.ga K "NumberForm") "rests_in" (sp_P_rests_in K) := by
  obtain ⟨fd, F⟩ := T.d_P_NumberForm_rests_in
  refine ⟨_, fd, A_P_NumberForm_rests_in, T.cl_NumberForm, T.mt_NumberForm_rests_in, fnD F sc_P_NumberForm_rests_in (fun vs H Q E h => ?_) (fun cdv A outer s H vs Q E hr h => ⟨_, PSs.nox (der_P_NumberForm_rests_in T (ok_P_stripped_inside T) (ok_P_stripped T) hr), rd_P_NumberForm_rests_in T vs H Q E h⟩), F.bindsN fun _ _ _ _ _ _ us hl => match us, hl with | [_, _, _], _ => rfl⟩
  obtain ⟨_, _, _, _, rfl, _⟩ := h
  rfl
/-! ### steps_in -/
def sp_P_steps_in (K : PySem.W.Frag) : Sp := fun vs H Q _ => ∃ (a : Addr) (n : NS) (t : List Nat), vs = [.ref a, .str (S t)] ∧ FormAt K H a (.num n) ∧ n.Ok ∧ t.length ≤ 200 ∧
  (∀ k : Nat, n.IsB t k → k < n.base ^ (n.fig + n.pl) → Q (.int k) H) ∧ ((∀ k, n.IsB t k → ¬ k < n.base ^ (n.fig + n.pl)) → Q .non H)
def t_P_NumberForm_steps_in (P : Program) (w : World) (K : PySem.W.Frag) (mg : Str → Option Value) (base : Heap) : TS := tSeq (tTryO K (.ref (He.ga K "NoBody")) (fun _ _ _ => tRet (tC .non)) (fun _ _ _ _ => False) (fun W => tSetK 2 (tCallS (sp_P_number_in K) (WE W) (tCons (tV 1) (tCons (tFld1 K (tV 0) "base") (tCons (tFld1 K (tV 0) "places") (tCons (tFld1 K (tV 0) "point") (tCons (tFld1 K (tV 0) "size") (tCons (tFld1 K (tV 0) "mark") (tNil)))))))))) (tSeq (tIfS (tB1 (tOp (rCmp fun i j => decide (j ≤ i)) (tV 2) (tCall (sp_L_power) [] E0 (tCons (tFld1 K (tV 0) "base") (tCons (tOp qAdd (tFld1 K (tV 0) "figures") (tFld1 K (tV 0) "places")) (tNil)))))) (tRet (tC .non)) (tNext)) (tRet (tV 2)))
theorem der_P_NumberForm_steps_in {P : Program} {w : World} {K : PySem.W.Frag} {mg : Str → Option Value} {base : Heap} (T : TX w K mg) (C_P_number_in : Fn P w K mg base (L2.CX P w) 5 "number_in" (sp_P_number_in K)) (C_P_power_of : Fn P w K mg base CX0 1 "power_of" (sp_L_power)) {f : Addr} {cdv : Value} {A : Around} {outer : List Env} {s : Shared} {H : Hp} {E : XK} (hr : Room 5 (A.deeper (envOfC "NumberForm.steps_in" (defScope s_P_NumberForm_steps_in) s.heap.objs.size f cdv))) :
    PSs (cxOf CX0 P w K mg base N_P_NumberForm_steps_in "NumberForm.steps_in" (defScope s_P_NumberForm_steps_in) f cdv A outer s H E).nox (defBody s_P_NumberForm_steps_in) (t_P_NumberForm_steps_in P w K mg base) :=
  pss_cons (fTry0 rfl rfl ng_P_NumberForm_steps_in_NoBody T.g_NoBody (fun W pn xe tk => pss_one (sSetK (i := 2) sc_P_NumberForm_steps_in.nd rfl nl_P_NumberForm_steps_in_steps (fCallS C_P_number_in (hr.mono (by decide)) ng_P_NumberForm_steps_in_number_in (fun σ => L2.passAt tk σ) (aCons (fV 1 nm_P_NumberForm_steps_in_body rfl) (aCons (fFld (fV 0 nm_P_NumberForm_steps_in_self rfl) rfl) (aCons (fFld (fV 0 nm_P_NumberForm_steps_in_self rfl) rfl) (aCons (fFld (fV 0 nm_P_NumberForm_steps_in_self rfl) rfl) (aCons (fFld (fV 0 nm_P_NumberForm_steps_in_self rfl) rfl) (aCons (fFld (fV 0 nm_P_NumberForm_steps_in_self rfl) rfl) (pa_nil) rfl) rfl) rfl) rfl) rfl) rfl) rfl) rfl (.inl rfl))) (fun a oe pn => pss_one (ps_ret (pe_non)))) (pss_cons (ps_if (tCmp1 (oGe) (fV 2 nm_P_NumberForm_steps_in_steps rfl) (fCall C_P_power_of (hr.mono (by decide)) ng_P_NumberForm_steps_in_power_of pass0 (aCons (fFld (fV 0 nm_P_NumberForm_steps_in_self rfl) rfl) (aCons (pe_op oAdd (fFld (fV 0 nm_P_NumberForm_steps_in_self rfl) rfl) (fFld (fV 0 nm_P_NumberForm_steps_in_self rfl) rfl)) (pa_nil) rfl) rfl) rfl) (nomark _)) (pss_one (ps_ret (pe_non))) (pss_nil)) (pss_one (ps_ret (fV 2 nm_P_NumberForm_steps_in_steps rfl))))
theorem rd_P_NumberForm_steps_in (T : TX w K mg) (vs : List V) (H : Hp) (Q : VK) (E : XK) (h : sp_P_steps_in K vs H Q E) : t_P_NumberForm_steps_in P w K mg base { nx := fun _ H' => Q .non H', rt := Q } (start N_P_NumberForm_steps_in vs) H := by
  obtain ⟨a, n, t, rfl, hF, ok, ht, q, qn⟩ := h
  obtain ⟨f1, f2, f3, f4, f5, f6, f7⟩ := nFld T hF
  have hp := ok.p
  have hz := ok.sz
  have hf2 := ok.f2
  refine ⟨_, f3, _, f2, _, f7, _, f5, _, f6, t, n.base, n.pl, n.point, n.size, n.mark, rfl, ht, ok.b1, ok.b2, by omega, by omega, fun k hk => ?_, fun hno => ⟨true, T.x_NoBody_NoBody, fun _ a _ => qn fun k hk => absurd hk (hno k), fun z => nomatch z⟩⟩
  refine ⟨_, f3, _, f1, _, f2, n.base, n.fig + n.pl, rfl, ok.b2, by omega, ?_⟩
  refine iteD (fun c => ?_) (fun c => ?_)
  · refine qn fun k' hk' h => ?_
    have e : k = k' := by
      have e1 := body_of ok.b1 ok.b2 hk
      have e2 := body_of ok.b1 ok.b2 hk'
      exact isB_fun ok.b1 ok.b2 hk hk'
    omega
  · exact q k hk (by omega)
theorem ok_P_NumberForm_steps_in {P : Program} {w : World} {K : PySem.W.Frag} {mg : Str → Option Value} {base : Heap} (T : TX w K mg) : Mt P w K mg base CX0 6 (He.ga K "NumberForm") "steps_in" (sp_P_steps_in K) := by
  obtain ⟨fd, F⟩ := T.d_P_NumberForm_steps_in
  refine ⟨_, fd, A_P_NumberForm_steps_in, T.cl_NumberForm, T.mt_NumberForm_steps_in, fnD F sc_P_NumberForm_steps_in (fun vs H Q E h => ?_) (fun cdv A outer s H vs Q E hr h => ⟨_, PSs.nox (der_P_NumberForm_steps_in T (ok_P_number_in T) (ok_P_power_of T) hr), rd_P_NumberForm_steps_in T vs H Q E h⟩), F.bindsN fun _ _ _ _ _ _ us hl => match us, hl with | [_, _], _ => rfl⟩
  obtain ⟨_, _, _, rfl, _⟩ := h
  rfl
/-! ### all_steps -/
def sp_P_all_steps (K : PySem.W.Frag) : Sp := fun vs H Q _ => ∃ (a : Addr) (n : NS) (t : List Nat) (bl : Bool), vs = [.ref a, .str (S t), .bl bl] ∧ FormAt K H a (.num n) ∧ n.Ok ∧ t.length ≤ 200 ∧
  ∀ p H' (ks : List Int), H p = none → Ex H H' → H' p = some (.lst (ks.map V.int)) → ks.length ≤ 1000 → ks.Nodup → (∀ k : Int, k ∈ ks ↔ ((if bl = true then k < 0 else 0 ≤ k) ∧ n.Hit t bl k.natAbs)) → Q (.ref p) H'
def t_P_NumberForm_all_steps (P : Program) (w : World) (K : PySem.W.Frag) (mg : Str → Option Value) (base : Heap) : TS := tSeq (tAsg (tCall (sp_P_ends_of K) [] E0 (tCons (tFld1 K (tV 0) "sign") (tCons (tV 2) (tNil)))) (gTup K 2 (gCons (gK 3) (gCons (gK 4) (gNil))))) (tSeq (tSetK 5 (tLst1 (tNil))) (tSeq (tFor (iList K (tMet1 P w K mg base CX0 4 "rests_in" E0 (tV 0) (tCons (tV 1) (tCons (tV 3) (tNil))))) (gK 6) (tIfS (tAnd (tB1 (tM1 (rEnds1) (tV 6) (tV 4))) (tNot (tB1 (tCall (sp_P_too_long K) [] E0 (tCons (tV 0) (tCons (tOp qAdd (tCB (rLen1 K) (tCons (tV 3) (tNil))) (tCB (rLen1 K) (tCons (tV 6) (tNil)))) (tNil))))))) (tSeq (tSetK 7 (tMet1 P w K mg base CX0 6 "steps_in" E0 (tV 0) (tCons (tSl (rSlS1) (tV 6) tNoPart (tPart1 (tOp qSub (tCB (rLen1 K) (tCons (tV 6) (tNil))) (tCB (rLen1 K) (tCons (tV 4) (tNil)))))) (tNil)))) (tCut (tIfS (tAnd (tB1 (tOp (rNotN1) (tV 7) (tC .non))) (tNot (tB1 (tV 2)))) (tDrop (tLm (rApp1) (tV 5) (tCons (tV 7) (tNil)))) (tNext)) (tIfS (tAnd (tB1 (tOp (rNotN1) (tV 7) (tC .non))) (tAnd (tB1 (tV 2)) (tB1 (tOp (rCmp fun i j => decide (j < i)) (tV 7) (tC (.int 0)))))) (tDrop (tLm (rApp1) (tV 5) (tCons (tUn qNeg (tV 7)) (tNil)))) (tNext)))) (tNext))) (tRet (tV 5))))
theorem der_P_NumberForm_all_steps {P : Program} {w : World} {K : PySem.W.Frag} {mg : Str → Option Value} {base : Heap} (T : TX w K mg) (C_P_ends_of : Fn P w K mg base CX0 1 "ends_of" (sp_P_ends_of K)) (C_P_too_long : Fn P w K mg base CX0 1 "too_long" (sp_P_too_long K)) {f : Addr} {cdv : Value} {A : Around} {outer : List Env} {s : Shared} {H : Hp} {E : XK} (hr : Room 6 (A.deeper (envOfC "NumberForm.all_steps" (defScope s_P_NumberForm_all_steps) s.heap.objs.size f cdv))) :
    PSs (cxOf CX0 P w K mg base N_P_NumberForm_all_steps "NumberForm.all_steps" (defScope s_P_NumberForm_all_steps) f cdv A outer s H E).nox (defBody s_P_NumberForm_all_steps) (t_P_NumberForm_all_steps P w K mg base) :=
  pss_cons (ps_asg (fCall C_P_ends_of (hr.mono (by decide)) ng_P_NumberForm_all_steps_ends_of pass0 (aCons (fFld (fV 0 nm_P_NumberForm_all_steps_self rfl) rfl) (aCons (fV 2 nm_P_NumberForm_all_steps_is_below rfl) (pa_nil) rfl) rfl) rfl) (pg_tup rfl (pgs_cons (gNK sc_P_NumberForm_all_steps.nd rfl nl_P_NumberForm_all_steps_lead (.inl rfl)) (pgs_cons (gNK sc_P_NumberForm_all_steps.nd rfl nl_P_NumberForm_all_steps_tail (.inl rfl)) (pgs_nil))))) (pss_cons (sSetK (i := 5) sc_P_NumberForm_all_steps.nd rfl nl_P_NumberForm_all_steps_found (fLst (pa_nil)) rfl (.inl rfl)) (pss_cons (ps_for PassesOwn.never rfl (pi_list (fMet (fV 0 nm_P_NumberForm_all_steps_self rfl) (hr.mono (by decide)) pass0 (aCons (fV 1 nm_P_NumberForm_all_steps_text rfl) (aCons (fV 3 nm_P_NumberForm_all_steps_lead rfl) (pa_nil) rfl) rfl) rfl rfl)) (gNK sc_P_NumberForm_all_steps.nd rfl nl_P_NumberForm_all_steps_rest (.inl rfl)) (pss_one (ps_if (PW.pt (pw_and (tVal1 (fM1 PySem.F.slot_str_endswith PySem.F.type_str_endswith mEnds (fV 6 nm_P_NumberForm_all_steps_rest rfl) (fV 4 nm_P_NumberForm_all_steps_tail rfl) rfl rfl rfl) (fun _ => rfl)) (pw_and1 (pt_not (tVal1 (fCall C_P_too_long (hr.mono (by decide)) ng_P_NumberForm_all_steps_too_long pass0 (aCons (fV 0 nm_P_NumberForm_all_steps_self rfl) (aCons (pe_op oAdd (fB cLen ng_P_NumberForm_all_steps_len T.b_len bb_len (aCons (fV 3 nm_P_NumberForm_all_steps_lead rfl) (pa_nil) rfl) rfl) (fB cLen ng_P_NumberForm_all_steps_len T.b_len bb_len (aCons (fV 6 nm_P_NumberForm_all_steps_rest rfl) (pa_nil) rfl) rfl)) (pa_nil) rfl) rfl) rfl) (fun _ => rfl)))))) (pss_cons (sSetK (i := 7) sc_P_NumberForm_all_steps.nd rfl nl_P_NumberForm_all_steps_steps (fMet (fV 0 nm_P_NumberForm_all_steps_self rfl) (hr.mono (by decide)) pass0 (aCons (pe_slice slS1 (fV 6 nm_P_NumberForm_all_steps_rest rfl) po_none (oSome (pe_op oSub (fB cLen ng_P_NumberForm_all_steps_len T.b_len bb_len (aCons (fV 6 nm_P_NumberForm_all_steps_rest rfl) (pa_nil) rfl) rfl) (fB cLen ng_P_NumberForm_all_steps_len T.b_len bb_len (aCons (fV 4 nm_P_NumberForm_all_steps_tail rfl) (pa_nil) rfl) rfl)))) (pa_nil) rfl) rfl rfl) rfl (.inl rfl)) (sCut (ps_if (PW.pt (pw_and (tCmp1 (oNotN) (fV 7 nm_P_NumberForm_all_steps_steps rfl) (pe_non) (nomark _)) (pw_and1 (pt_not (tVal1 (fV 2 nm_P_NumberForm_all_steps_is_below rfl) (fun _ => rfl)))))) (pss_one (sExpr (fLm PySem.F.slot_list_append PySem.F.type_list_append mApp (fV 5 nm_P_NumberForm_all_steps_found rfl) (aCons (fV 7 nm_P_NumberForm_all_steps_steps rfl) (pa_nil) rfl) rfl rfl (by decide) rfl) rfl)) (pss_nil)) (pss_one (ps_if (PW.pt (pw_and (tCmp1 (oNotN) (fV 7 nm_P_NumberForm_all_steps_steps rfl) (pe_non) (nomark _)) (pw_and (tVal1 (fV 2 nm_P_NumberForm_all_steps_is_below rfl) (fun _ => rfl)) (pw_and1 (tCmp1 (oGt) (fV 7 nm_P_NumberForm_all_steps_steps rfl) (pe_int) (nomark _)))))) (pss_one (sExpr (fLm PySem.F.slot_list_append PySem.F.type_list_append mApp (fV 5 nm_P_NumberForm_all_steps_found rfl) (aCons (pe_un oNeg (fV 7 nm_P_NumberForm_all_steps_steps rfl)) (pa_nil) rfl) rfl rfl (by decide) rfl) rfl)) (pss_nil))))) (pss_nil)))) (pss_one (ps_ret (fV 5 nm_P_NumberForm_all_steps_found rfl)))))
/-- the rest r is that of k steps -/
def NS.Con (n : NS) (bl : Bool) (r : List Nat) (k : Nat) : Prop :=
  k < n.base ^ (n.fig + n.pl) ∧ (n.strict && decide (n.width < (endT n.sty bl).1.length + r.length)) = false ∧ r = n.body k ++ (endT n.sty bl).2
theorem decB (b : Bool) : decide (b = false) = !b := by cases b <;> rfl
theorem endT_len : ∀ s ∈ styles, ∀ bl : Bool, (endT s bl).1.length ≤ 1 ∧ (endT s bl).2.length ≤ 1 := by decide
theorem rise_lt {rs : List (List Nat)} (h : Rising rs) {i : Nat} {r r' : List Nat} (hi : rs[i]? = some r) (hm : r' ∈ rs.take i) : r'.length < r.length := by
  have e : rs = rs.take i ++ rs.drop i := (List.take_append_drop i rs).symm
  rw [e] at h
  refine (List.pairwise_append.mp h).2.2 r' hm r ?_
  have hlt : i < rs.length := (List.getElem?_eq_some_iff.mp hi).1
  have : rs.drop i = rs[i] :: rs.drop (i + 1) := (List.getElem_cons_drop hlt).symm
  rw [this]
  rw [List.getElem?_eq_getElem hlt] at hi
  injection hi with hi
  rw [hi]
  simp
theorem rd_P_NumberForm_all_steps (T : TX w K mg) (vs : List V) (H : Hp) (Q : VK) (E : XK) (h : sp_P_all_steps K vs H Q E) : t_P_NumberForm_all_steps P w K mg base { nx := fun _ H' => Q .non H', rt := Q } (start N_P_NumberForm_all_steps vs) H := by
  obtain ⟨a, n, t, bl, rfl, hF, ok, ht, q⟩ := h
  show t_P_NumberForm_all_steps P w K mg base _ [some (.ref a), some (.str (S t)), some (.bl bl), none, none, none, none, none] H
  obtain ⟨f1, f2, f3, f4, f5, f6, f7⟩ := nFld T hF
  obtain ⟨dx, hA⟩ := id hF
  have hel := endT_len n.sty ok.st bl
  generalize hld : (endT n.sty bl).1 = ld at hel
  generalize htl : (endT n.sty bl).2 = tl at hel
  refine ⟨_, f4, n.sty, bl, rfl, ok.st, fun p hs => ?_⟩
  rw [hld, htl] at hs
  refine ⟨p, _, rfl, hs, rfl, _, _, rfl, _, _, rfl, rfl, ?_⟩
  refine ⟨l100 rfl, fun D H1 hD e1 hd => ?_⟩
  refine ⟨_, dx, _, _, e1 _ _ hA, by kernel_rfl, ok_P_NumberForm_rests_in T, a, n, t, ld, rfl, Ex.formAt e1 hF, ok, ht, by omega, fun p2 H2 rs h2n e2 h3 h4 h5 => ?_⟩
  have hrl : ∀ r ∈ rs, r.length ≤ 200 := fun r hr => by
    have h6 := (h5 r).mp hr
    unfold NS.filled at h6
    split at h6
    · have := padI_len n.width n.fill ld r
      rw [h6] at this
      omega
    · have := padT_len n.width n.fill n.side (ld ++ r)
      rw [h6, List.length_append] at this
      omega
  have hrs : rs.length ≤ 300 := by
    have hr : ∀ (l : List (List Nat)) (k m : Nat), Rising l → (∀ x ∈ l, k ≤ x.length ∧ x.length ≤ m) → l.length ≤ m + 1 - k := by
      intro l
      induction l with
      | nil => intro k m _ _; simp
      | cons y s ih =>
        intro k m hr hb
        have h1 := List.pairwise_cons.mp hr
        have h2 := ih (k + 1) m h1.2 fun x hx => ⟨by have := h1.1 x hx; have := (hb y (by simp)).1; omega, (hb x (by simp [hx])).2⟩
        have := hb y (by simp)
        rw [List.length_cons]
        omega
    have := hr rs 0 200 h4 fun x hx => ⟨by omega, hrl x hx⟩
    omega
  have hsg : ∀ (k : Int) (j : Nat), k.natAbs = j → (if bl = true then k < 0 else 0 ≤ k) → k = if bl = true then -(j : Int) else (j : Int) := by
    intro k j hk hs
    cases bl with
    | true =>
      have hs' : k < 0 := hs
      show k = -(j : Int)
      omega
    | false =>
      have hs' : 0 ≤ k := hs
      show k = (j : Int)
      omega
  have nin : ∀ (ks : List Int) (i : Nat) (r : List Nat) (k : Int), rs[i]? = some r → (∀ k : Int, k ∈ ks ↔ ((if bl = true then k < 0 else 0 ≤ k) ∧ ∃ r ∈ rs.take i, n.Con bl r k.natAbs)) → n.Con bl r k.natAbs → k ∉ ks := fun ks i r k hr hm hc hk => by
    obtain ⟨_, r', hr', hc'⟩ := (hm k).mp hk
    have := rise_lt h4 hr hr'
    rw [hc.2.2, hc'.2.2] at this
    omega
  have stepY : ∀ (ks : List Int) (i : Nat) (r : List Nat) (k : Int), rs[i]? = some r → (∀ k : Int, k ∈ ks ↔ ((if bl = true then k < 0 else 0 ≤ k) ∧ ∃ r ∈ rs.take i, n.Con bl r k.natAbs)) → (if bl = true then k < 0 else 0 ≤ k) → n.Con bl r k.natAbs → (∀ j, n.Con bl r j → j = k.natAbs) →
      ∀ k' : Int, k' ∈ ks ++ [k] ↔ ((if bl = true then k' < 0 else 0 ≤ k') ∧ ∃ r ∈ rs.take (i + 1), n.Con bl r k'.natAbs) := fun ks i r k hr hm hsn hc hu k' => by
    rw [List.mem_append, List.mem_singleton, hm, take_snoc hr]
    constructor
    · rintro (⟨x, r', hr', hc'⟩ | rfl)
      · exact ⟨x, r', List.mem_append_left _ hr', hc'⟩
      · exact ⟨hsn, r, by simp, hc⟩
    · rintro ⟨x, r', hr', hc'⟩
      rcases List.mem_append.mp hr' with hr' | hr'
      · exact .inl ⟨x, r', hr', hc'⟩
      · rw [List.mem_singleton.mp hr'] at hc'
        have := hu _ hc'
        exact .inr ((hsg k' _ this x).trans (hsg k _ rfl hsn).symm)
  have stepN : ∀ (ks : List Int) (i : Nat) (r : List Nat), rs[i]? = some r → (∀ k : Int, k ∈ ks ↔ ((if bl = true then k < 0 else 0 ≤ k) ∧ ∃ r ∈ rs.take i, n.Con bl r k.natAbs)) → (∀ k : Int, (if bl = true then k < 0 else 0 ≤ k) → ¬ n.Con bl r k.natAbs) →
      ∀ k' : Int, k' ∈ ks ↔ ((if bl = true then k' < 0 else 0 ≤ k') ∧ ∃ r ∈ rs.take (i + 1), n.Con bl r k'.natAbs) := fun ks i r hr hm hno k' => by
    rw [hm, take_snoc hr]
    constructor
    · rintro ⟨x, r', hr', hc'⟩
      exact ⟨x, r', List.mem_append_left _ hr', hc'⟩
    · rintro ⟨x, r', hr', hc'⟩
      rcases List.mem_append.mp hr' with hr' | hr'
      · exact ⟨x, r', hr', hc'⟩
      · rw [List.mem_singleton.mp hr'] at hc'
        exact absurd hc' (hno k' x)
  have nodS : ∀ (ks : List Int) (k : Int), ks.Nodup → k ∉ ks → (ks ++ [k]).Nodup := fun ks k h1 h2 => List.nodup_append.mpr ⟨h1, by simp, fun x hx y hy e => h2 (by rw [List.mem_singleton.mp hy] at e; rw [← e]; exact hx)⟩
  have fD : H D = none := hD
  refine ⟨p2, rfl, ⟨_, SqL.of h3⟩, for_list (K := K) (a := p2) (xs := sVs rs) (fun i σ H' => Ex H H' ∧ H' p2 = some (.lst (sVs rs)) ∧ (∃ ks : List Int, H' D = some (.lst (ks.map V.int)) ∧ ks.length ≤ i ∧ ks.Nodup ∧ ∀ k : Int, k ∈ ks ↔ ((if bl = true then k < 0 else 0 ≤ k) ∧ ∃ r ∈ rs.take i, n.Con bl r k.natAbs)) ∧
    ∃ u v, σ = [some (.ref a), some (.str (S t)), some (.bl bl), some (.str (S ld)), some (.str (S tl)), some (.ref D), u, v]) ⟨Ex.trans e1 e2, h3, ⟨[], e2 _ _ hd, by simp, by simp, fun k => ⟨fun z => by simp at z, fun ⟨_, r, z, _⟩ => by simp at z⟩⟩, _, _, rfl⟩ (fun i σ H' _ hh => SqL.of hh.2.1) ?_ ?_⟩
  · rintro i x σ H3 hx ⟨x1, x2, ⟨ks, k1, k2, k3, k4⟩, u, v, rfl⟩
    obtain ⟨r, hr, rfl⟩ := sVs_get hx
    have hrm : r ∈ rs := List.mem_of_getElem? hr
    have hrl2 := hrl r hrm
    have hi300 : i < 300 := by
      have := (List.getElem?_eq_some_iff.mp hr).1
      omega
    obtain ⟨fw, ff, fs, fst⟩ := FormAt.com T (Ex.formAt x1 hF)
    have hD2 : p2 ≠ D := fun z => by
      rw [z, e2 _ _ hd] at h3
      injection h3 with h3
      injection h3 with h3
      have : rs = [] := List.map_eq_nil_iff.mp h3.symm
      rw [this] at hrm
      cases hrm
    dsimp only [gK, setK]
    refine ifP (p := (tl <:+ r) ∧ (n.strict && decide (n.width < ld.length + r.length)) = false) (fun Q' q' => andP q' (fun Q' q' => ⟨⟨_, rfl⟩, r, tl, rfl, rfl, q'⟩) fun _ Q' q' => ⟨ld, rfl, by omega, r, rfl, by omega, a, ld.length + r.length, n.width, n.strict, rfl, fst, fw, by rw [decB] at q'; exact q'⟩) (fun c => ?_) (fun c => ?_)
    · obtain ⟨⟨b, rfl⟩, hst⟩ := c
      have hcut : cutN (b ++ tl) none (some ((((b ++ tl).length : Nat) : Int) - ((tl.length : Nat) : Int))) = b := by
        rw [cutN_to (by rw [List.length_append]; omega), show ((((b ++ tl).length : Nat) : Int) - ((tl.length : Nat) : Int)).toNat = b.length by rw [List.length_append]; omega, List.take_left' rfl]
      rw [List.length_append] at hrl2
      refine ⟨_, dx, _, _, x1 _ _ hA, by kernel_rfl, ok_P_NumberForm_steps_in T, b ++ tl, rfl, by rw [List.length_append]; omega, tl, rfl, by omega, b ++ tl, rfl, by rw [List.length_append]; omega, ?_⟩
      rw [hcut]
      have conU : ∀ j, n.Con bl (b ++ tl) j → b = n.body j ∧ j < n.base ^ (n.fig + n.pl) := fun j hc => by
        have := hc.2.2
        rw [htl] at this
        exact ⟨List.append_cancel_right this, hc.1⟩
      have hf40 : n.fig ≤ 40 := Nat.le_trans ok.f2 (by decide)
      refine ⟨a, n, b, rfl, Ex.formAt x1 hF, ok, by omega, fun k hk hkb => ?_, fun hno => ?_⟩
      · have hbk : b = n.body k := body_of ok.b1 ok.b2 hk
        have hc : n.Con bl (b ++ tl) k := ⟨hkb, by rw [hld]; exact hst, by rw [htl, ← hbk]⟩
        have hu : ∀ j, n.Con bl (b ++ tl) j → j = k := fun j hj => by
          have h7 := conU j hj
          have h8 : n.IsB b j := by
            rw [h7.1]
            exact of_body ok.b1 ok.b2 ok.f1 hf40 h7.2
          exact isB_fun ok.b1 ok.b2 h8 hk
        cases bl with
        | false =>
          have hc' : n.Con false (b ++ tl) ((k : Nat) : Int).natAbs := by rw [Int.natAbs_natCast]; exact hc
          refine ⟨fun σ' H' => σ' = [some (.ref a), some (.str (S t)), some (.bl false), some (.str (S ld)), some (.str (S tl)), some (.ref D), some (.str (S (b ++ tl))), some (.int k)] ∧ H' = upd H3 D (.lst (ks.map V.int ++ [.int k])), ?_, ?_⟩
          · exact ⟨rfl, ⟨_, k1⟩, _, k1, by rw [List.length_map]; omega, rfl, rfl⟩
          · rintro _ _ ⟨rfl, rfl⟩
            refine ⟨rfl, Ex.mut x1 fD, by rw [upd_ne hD2]; exact x2, ⟨ks ++ [(k : Int)], by rw [upd_same, List.map_append]; rfl, by simp; omega, nodS _ _ k3 (nin ks i _ _ hr k4 hc'), stepY ks i _ _ hr k4 (by simp) hc' fun j hj => by rw [Int.natAbs_natCast]; exact hu j hj⟩, _, _, rfl⟩
        | true =>
          refine ⟨fun σ' H' => σ' = [some (.ref a), some (.str (S t)), some (.bl true), some (.str (S ld)), some (.str (S tl)), some (.ref D), some (.str (S (b ++ tl))), some (.int k)] ∧ H' = H3, ⟨rfl, rfl, rfl⟩, ?_⟩
          rintro _ _ ⟨rfl, rfl⟩
          refine ⟨rfl, ?_⟩
          refine iteD (fun c3 => ?_) (fun c3 => ?_)
          · have hc' : n.Con true (b ++ tl) (-(k : Int)).natAbs := by rw [Int.natAbs_neg, Int.natAbs_natCast]; exact hc
            exact ⟨⟨_, k1⟩, _, k1, by rw [List.length_map]; omega, Ex.mut x1 fD, by rw [upd_ne hD2]; exact x2, ⟨ks ++ [-(k : Int)], by rw [upd_same, List.map_append]; rfl, by simp; omega, nodS _ _ k3 (nin ks i _ _ hr k4 hc'), stepY ks i _ _ hr k4 (by simp; omega) hc' fun j hj => by rw [Int.natAbs_neg, Int.natAbs_natCast]; exact hu j hj⟩, _, _, rfl⟩
          · refine ⟨x1, x2, ⟨ks, k1, by omega, k3, stepN ks i _ hr k4 fun k' hs' hc' => ?_⟩, _, _, rfl⟩
            have := hu _ hc'
            have hs2 : k' < 0 := hs'
            omega
      · have noC : ∀ j, ¬ n.Con bl (b ++ tl) j := fun j hj => by
          have h7 := conU j hj
          have h8 : n.IsB b j := by
            rw [h7.1]
            exact of_body ok.b1 ok.b2 ok.f1 hf40 h7.2
          exact hno j h8 h7.2
        refine ⟨fun σ' H' => σ' = [some (.ref a), some (.str (S t)), some (.bl bl), some (.str (S ld)), some (.str (S tl)), some (.ref D), some (.str (S (b ++ tl))), some .non] ∧ H' = H3, ⟨rfl, rfl, rfl⟩, ?_⟩
        rintro _ _ ⟨rfl, rfl⟩
        exact ⟨rfl, x1, x2, ⟨ks, k1, by omega, k3, stepN ks i _ hr k4 fun k' _ => noC _⟩, _, _, rfl⟩
    · refine ⟨x1, x2, ⟨ks, k1, by omega, k3, stepN ks i _ hr k4 fun k' _ hc' => c ⟨?_, ?_⟩⟩, _, _, rfl⟩
      · have := hc'.2.2
        rw [htl] at this
        rw [this]
        exact List.suffix_append _ _
      · have := hc'.2.1
        rw [hld] at this
        exact this
  · rintro σ H3 ⟨x1, x2, ⟨ks, k1, k2, k3, k4⟩, u, v, rfl⟩
    rw [sVs_length, List.take_length] at k4
    rw [sVs_length] at k2
    refine q D H3 ks fD x1 k1 (by omega) k3 fun k => ?_
    rw [k4]
    refine and_congr_right fun _ => ?_
    unfold NS.Hit NS.Con
    rw [hld, htl]
    constructor
    · rintro ⟨r, hr, c1, c2, rfl⟩
      exact ⟨c1, c2, (h5 _).mp hr⟩
    · rintro ⟨c1, c2, c3⟩
      exact ⟨_, (h5 _).mpr c3, c1, c2, rfl⟩
theorem ok_P_NumberForm_all_steps {P : Program} {w : World} {K : PySem.W.Frag} {mg : Str → Option Value} {base : Heap} (T : TX w K mg) : Mt P w K mg base CX0 7 (He.ga K "NumberForm") "all_steps" (sp_P_all_steps K) := by
  obtain ⟨fd, F⟩ := T.d_P_NumberForm_all_steps
  refine ⟨_, fd, A_P_NumberForm_all_steps, T.cl_NumberForm, T.mt_NumberForm_all_steps, fnD F sc_P_NumberForm_all_steps (fun vs H Q E h => ?_) (fun cdv A outer s H vs Q E hr h => ⟨_, PSs.nox (der_P_NumberForm_all_steps T (ok_P_ends_of T) (ok_P_too_long T) hr), rd_P_NumberForm_all_steps T vs H Q E h⟩), F.bindsN fun _ _ _ _ _ _ us hl => match us, hl with | [_, _, _], _ => rfl⟩
  obtain ⟨_, _, _, _, rfl, _⟩ := h
  rfl
end
end K45
/-! the values as data -/
namespace K45
open PySem PySem.Spec PyProof.Rows L2 F
inductive Dat where
  | num (a b : Int)
  | txt (l : List Nat)
deriving DecidableEq
def Dat.py : Dat → PyData
  | .num a b => .tuple [.int a, .int b]
  | .txt l => .str (S l)
def VAt (H : Hp) (v : V) : Dat → Prop
  | .num a b => ∃ q, v = .ref q ∧ H q = some (.tup [.int a, .int b])
  | .txt l => v = .str (S l)
def VsAt (H : Hp) : List V → List Dat → Prop
  | [], [] => True
  | v :: vs, d :: ds => VAt H v d ∧ VsAt H vs ds
  | _, _ => False
def LAt (H : Hp) (p : Addr) (ds : List Dat) : Prop := ∃ vs, H p = some (.lst vs) ∧ VsAt H vs ds
theorem VAt.mono {H H' : Hp} {v : V} {d : Dat} (e : Ex H H') (h : VAt H v d) : VAt H' v d := by
  cases d with
  | num a b => obtain ⟨q, h1, h2⟩ := h; exact ⟨q, h1, e _ _ h2⟩
  | txt l => exact h
theorem VsAt.mono {H H' : Hp} (e : Ex H H') : ∀ {vs : List V} {ds : List Dat}, VsAt H vs ds → VsAt H' vs ds
  | [], [], _ => trivial
  | _ :: _, _ :: _, h => ⟨h.1.mono e, VsAt.mono e h.2⟩
  | [], _ :: _, h => h.elim
  | _ :: _, [], h => h.elim
theorem LAt.mono {H H' : Hp} {p : Addr} {ds : List Dat} (e : Ex H H') (h : LAt H p ds) : LAt H' p ds := by
  obtain ⟨vs, h1, h2⟩ := h
  exact ⟨vs, e _ _ h1, h2.mono e⟩
/-- a list written over -/
theorem VAt.over {H : Hp} {p : Addr} {o : HO} {v : V} {d : Dat} (hp : ∀ a b, H p ≠ some (.tup [.int a, .int b])) (h : VAt H v d) : VAt (upd H p o) v d := by
  cases d with
  | num a b =>
    obtain ⟨q, h1, h2⟩ := h
    refine ⟨q, h1, ?_⟩
    rw [upd_ne]
    · exact h2
    · intro z
      subst z
      exact hp a b h2
  | txt l => exact h
theorem VsAt.over {H : Hp} {p : Addr} {o : HO} (hp : ∀ a b, H p ≠ some (.tup [.int a, .int b])) : ∀ {vs : List V} {ds : List Dat}, VsAt H vs ds → VsAt (upd H p o) vs ds
  | [], [], _ => trivial
  | _ :: _, _ :: _, h => ⟨h.1.over hp, VsAt.over hp h.2⟩
  | [], _ :: _, h => h.elim
  | _ :: _, [], h => h.elim
theorem VsAt.len {H : Hp} : ∀ {vs : List V} {ds : List Dat}, VsAt H vs ds → vs.length = ds.length
  | [], [], _ => rfl
  | _ :: _, _ :: _, h => congrArg Nat.succ (VsAt.len h.2)
  | [], _ :: _, h => h.elim
  | _ :: _, [], h => h.elim
theorem VsAt.get {H : Hp} : ∀ {vs : List V} {ds : List Dat} {i : Nat} {v : V}, VsAt H vs ds → vs[i]? = some v → ∃ d, ds[i]? = some d ∧ VAt H v d
  | [], [], _, _, _, h => by simp at h
  | _ :: _, d :: _, 0, v, h, hv => by
    have e : v = _ := (Option.some.inj hv).symm
    subst e
    exact ⟨d, rfl, h.1⟩
  | _ :: _, _ :: _, i + 1, v, h, hv => VsAt.get (i := i) h.2 hv
  | [], _ :: _, _, _, h, _ => h.elim
  | _ :: _, [], _, _, h, _ => h.elim
theorem VsAt.app {H : Hp} {v : V} {d : Dat} : ∀ {vs : List V} {ds : List Dat}, VsAt H vs ds → VAt H v d → VsAt H (vs ++ [v]) (ds ++ [d])
  | [], [], _, h => ⟨h, trivial⟩
  | _ :: _, _ :: _, h, k => ⟨h.1, VsAt.app h.2 k⟩
  | [], _ :: _, h, _ => h.elim
  | _ :: _, [], h, _ => h.elim
theorem VsAt.drop {H : Hp} : ∀ {vs : List V} {ds : List Dat} (n : Nat), VsAt H vs ds → VsAt H (vs.drop n) (ds.drop n)
  | _, _, 0, h => h
  | [], [], _ + 1, _ => trivial
  | _ :: _, _ :: _, n + 1, h => VsAt.drop n h.2
  | [], _ :: _, _ + 1, h => h.elim
  | _ :: _, [], _ + 1, h => h.elim
theorem VsAt.txts {H : Hp} : ∀ (ls : List (List Nat)), VsAt H (ls.map fun l => V.str (S l)) (ls.map Dat.txt)
  | [] => trivial
  | _ :: r => ⟨rfl, VsAt.txts r⟩
variable {K : PySem.W.Frag}
theorem VAt.dp {H : Hp} {v : V} {d : Dat} (h : VAt H v d) : Dp K H v d.py := by
  cases d with
  | num a b =>
    obtain ⟨q, h1, h2⟩ := h
    subst h1
    exact .tup (SqT.of h2) (.cons (.int a) (.cons (.int b) .nil))
  | txt l =>
    have h' : v = .str (S l) := h
    subst h'
    exact .str _
theorem VsAt.dp {H : Hp} : ∀ {vs : List V} {ds : List Dat}, VsAt H vs ds → DpAll K H vs (ds.map Dat.py)
  | [], [], _ => .nil
  | _ :: _, _ :: _, h => .cons h.1.dp (VsAt.dp h.2)
  | [], _ :: _, h => h.elim
  | _ :: _, [], h => h.elim
theorem LAt.dp {H : Hp} {p : Addr} {ds : List Dat} (h : LAt H p ds) : Dp K H (.ref p) (.list (ds.map Dat.py)) := by
  obtain ⟨vs, h1, h2⟩ := h
  exact .lst (SqL.of h1) h2.dp
theorem eqv_py (d e : Dat) : PyData.eqv d.py e.py = decide (d = e) := by
  cases d with
  | num a b =>
    cases e with
    | num c f =>
      show ((a == c) && ((b == f) && true)) = _
      rw [Bool.and_true, Bool.eq_iff_iff, Bool.and_eq_true, beq_iff_eq, beq_iff_eq, decide_eq_true_eq]
      simp
    | txt l => rfl
  | txt l =>
    cases e with
    | num c f => rfl
    | txt m =>
      show (S l == S m) = _
      rw [Bool.eq_iff_iff, beq_iff_eq, decide_eq_true_eq]
      exact ⟨fun h => by rw [S_inj h], fun h => by injection h with h; rw [h]⟩
theorem eqvAll_py : ∀ (ds es : List Dat), PyData.eqvAll (ds.map Dat.py) (es.map Dat.py) = decide (ds = es)
  | [], [] => rfl
  | [], _ :: _ => rfl
  | _ :: _, [] => rfl
  | d :: ds, e :: es => by
    show (PyData.eqv d.py e.py && PyData.eqvAll (ds.map Dat.py) (es.map Dat.py)) = _
    rw [eqv_py, eqvAll_py ds es, Bool.eq_iff_iff, Bool.and_eq_true, decide_eq_true_eq, decide_eq_true_eq, decide_eq_true_eq]
    simp
theorem any_py (ds : List Dat) (d : Dat) : ((ds.map Dat.py).any fun z => PyData.eqv z d.py) = decide (d ∈ ds) := by
  rw [Bool.eq_iff_iff, List.any_eq_true, decide_eq_true_eq]
  constructor
  · rintro ⟨x, hx, h⟩
    obtain ⟨e, he, rfl⟩ := List.mem_map.mp hx
    rw [eqv_py, decide_eq_true_eq] at h
    rw [← h]
    exact he
  · intro h
    exact ⟨d.py, List.mem_map.mpr ⟨d, h, rfl⟩, by rw [eqv_py]; simp⟩
def Dat.Ok : Dat → Prop
  | .num _ _ => True
  | .txt l => ∀ c ∈ l, c < 1000
theorem lay_py (d : Dat) (h : d.Ok) : d.py.canLay0 = true ∧ d.py.depth ≤ 1 := by
  cases d with
  | num a b => exact ⟨by rfl, by show max 0 (max 0 0) + 1 ≤ 1; decide⟩
  | txt l =>
    refine ⟨?_, Nat.zero_le _⟩
    show PyData.strOk (S l) = true
    unfold PyData.strOk S
    rw [List.all_toArray, List.all_eq_true]
    intro c hc
    have := h c hc
    exact decide_eq_true (by omega)
theorem shaped_py (d : Dat) (k : d.Ok) : SeqAt.shaped d.py = true := by
  have h := lay_py d k
  unfold SeqAt.shaped
  rw [h.1, decide_eq_true (by omega)]
  rfl
theorem shaped_list (ds : List Dat) (k : ∀ d ∈ ds, d.Ok) : SeqAt.shaped (.list (ds.map Dat.py)) = true := by
  have h : PyData.canLayAll0 (ds.map Dat.py) = true ∧ PyData.depthAll (ds.map Dat.py) ≤ 1 := by
    induction ds with
    | nil => exact ⟨rfl, Nat.zero_le _⟩
    | cons d r ih =>
      have h1 := lay_py d (k d (by simp))
      have h2 := ih fun x hx => k x (by simp [hx])
      refine ⟨?_, ?_⟩
      · show (d.py.canLay0 && PyData.canLayAll0 (r.map Dat.py)) = true
        rw [h1.1, h2.1]
        rfl
      · show max d.py.depth (PyData.depthAll (r.map Dat.py)) ≤ 1
        omega
  unfold SeqAt.shaped
  have e1 : (PyData.list (ds.map Dat.py)).canLay0 = true := h.1
  have e2 : (PyData.list (ds.map Dat.py)).depth ≤ 64 := by
    show PyData.depthAll (ds.map Dat.py) + 1 ≤ 64
    omega
  rw [e1, decide_eq_true e2]
  rfl
end K45
namespace K45
open PySem PySem.Spec PyProof.Rows L2 F
/-! ### what is told -/
def Spec.fits (s : Spec) (x t : List Nat) : Prop := (s.strict && decide (s.width < x.length)) = false ∧ padT s.width s.fill s.side x = t
instance {s : Spec} {x t : List Nat} : Decidable (s.fits x t) := by unfold Spec.fits; infer_instance
def WS.isW (n : WS) (x : List Nat) : Prop := (n.least ≤ x.length ∧ x.length ≤ n.most) ∧ ∀ c ∈ x, c ∈ n.signs
instance {n : WS} {x : List Nat} : Decidable (n.isW x) := by unfold WS.isW; infer_instance
def NS.S (n : NS) : Int := ((n.base ^ n.pl : Nat) : Int)
def NS.dat (n : NS) (k : Int) : Dat := .num (frT k n.S) (frB k n.S)
def NS.HitK (n : NS) (t : List Nat) (k : Int) : Prop := n.Hit t (decide (k < 0)) k.natAbs
def Told : Spec → List Nat → List Dat → Prop
  | .num n, t, ds => ∃ ks : List Int, ks.Pairwise (· < ·) ∧ (∀ k, k ∈ ks ↔ n.HitK t k) ∧ ds = ks.map n.dat
  | .word n, t, ds => ∃ ls : List (List Nat), ls.Pairwise (· < ·) ∧ (∀ x, x ∈ ls ↔ n.isW x ∧ (Spec.word n).fits x t) ∧ ds = ls.map Dat.txt
  | .choice n, t, ds => ds = (n.names.filter fun x => decide ((Spec.choice n).fits x t)).map Dat.txt
section
variable {P : Program} {w : World} {K : PySem.W.Frag} {mg : Str → Option Value} {base : Heap}
/-! ### cores_in -/
def sp_P_cores_in (K : PySem.W.Frag) : Sp := fun vs H Q _ => ∃ (a : Addr) (s : Spec) (t : List Nat), vs = [.ref a, .str (S t)] ∧ FormAt K H a s ∧ s.width ≤ 40 ∧ t.length ≤ 200 ∧
  ∀ p H' ls, H p = none → Ex H H' → H' p = some (.lst (sVs ls)) → Rising ls → (∀ x, x ∈ ls ↔ s.fits x t) → Q (.ref p) H'
def t_P_cores_in (P : Program) (w : World) (K : PySem.W.Frag) (mg : Str → Option Value) (base : Heap) : TS := tSeq (tSetK 2 (tCall (sp_P_stripped) [] E0 (tCons (tV 1) (tCons (tFld1 K (tV 0) "width") (tCons (tFld1 K (tV 0) "fill") (tCons (tFld1 K (tV 0) "side") (tNil))))))) (tRet (tLc (iList K (tV 2)) (gName 3) (tNot (tB1 (tCall (sp_P_too_long K) [] E0 (tCons (tV 0) (tCons (tCB (rLen1 K) (tCons (tV 3) (tNil))) (tNil)))))) (tV 3) [3]))
theorem der_P_cores_in {P : Program} {w : World} {K : PySem.W.Frag} {mg : Str → Option Value} {base : Heap} (T : TX w K mg) (C_P_stripped : Fn P w K mg base CX0 3 "stripped" (sp_P_stripped)) (C_P_too_long : Fn P w K mg base CX0 1 "too_long" (sp_P_too_long K)) {f : Addr} {cdv : Value} {A : Around} {outer : List Env} {s : Shared} {H : Hp} {E : XK} (hr : Room 3 (A.deeper (envOfC "cores_in" (defScope s_P_cores_in) s.heap.objs.size f cdv))) :
    PSs (cxOf CX0 P w K mg base N_P_cores_in "cores_in" (defScope s_P_cores_in) f cdv A outer s H E).nox (defBody s_P_cores_in) (t_P_cores_in P w K mg base) :=
  pss_cons (sSetK (i := 2) sc_P_cores_in.nd rfl nl_P_cores_in_cores (fCall C_P_stripped (hr.mono (by decide)) ng_P_cores_in_stripped pass0 (aCons (fV 1 nm_P_cores_in_text rfl) (aCons (fFld (fV 0 nm_P_cores_in_form rfl) rfl) (aCons (fFld (fV 0 nm_P_cores_in_form rfl) rfl) (aCons (fFld (fV 0 nm_P_cores_in_form rfl) rfl) (pa_nil) rfl) rfl) rfl) rfl) rfl) rfl (.inl rfl)) (pss_one (ps_ret (pe_lc (own := [("core", 3)]) (g := gName 3) rfl sc_P_cores_in.nd (pi_list (fV 2 nm_P_cores_in_cores rfl)) (blkOk_by (N := N_P_cores_in) (sc := defScope s_P_cores_in) (by decide +kernel)) (fun _ _ _ _ _ => gN sc_P_cores_in.nd rfl (nl_of (by kernel_rfl)) (.inr (by kernel_rfl))) (fun _ _ _ _ _ => pts_one (pt_not (tVal1 (fCall C_P_too_long (hr.mono (by decide)) (ng_of (by kernel_rfl)) pass0 (aCons (fV 0 (nm_of (by kernel_rfl)) rfl) (aCons (fB cLen (ng_of (by kernel_rfl)) T.b_len bb_len (aCons (fV 3 (nm_of (by kernel_rfl)) rfl) (pa_nil) rfl) rfl) (pa_nil) rfl) rfl) rfl) (fun _ => rfl)))) (fun _ _ _ _ _ => fV 3 (nm_of (by kernel_rfl)) rfl))))
theorem notT {b : Bool} (h : (!b) = true) : b = false := by
  cases b
  · rfl
  · cases h
theorem rise_len : ∀ (l : List (List Nat)) (k m : Nat), Rising l → (∀ x ∈ l, k ≤ x.length ∧ x.length ≤ m) → l.length ≤ m + 1 - k := by
  intro l
  induction l with
  | nil => intro k m _ _; simp
  | cons y s ih =>
    intro k m hr hb
    have h1 := List.pairwise_cons.mp hr
    have h2 := ih (k + 1) m h1.2 fun x hx => ⟨by have := h1.1 x hx; have := (hb y (by simp)).1; omega, (hb x (by simp [hx])).2⟩
    have := hb y (by simp)
    rw [List.length_cons]
    omega
theorem rd_P_cores_in (T : TX w K mg) (vs : List V) (H : Hp) (Q : VK) (E : XK) (h : sp_P_cores_in K vs H Q E) : t_P_cores_in P w K mg base { nx := fun _ H' => Q .non H', rt := Q } (start N_P_cores_in vs) H := by
  obtain ⟨a, s, t, rfl, hF, hw, ht, q⟩ := h
  obtain ⟨fw, ff, fs, fst⟩ := FormAt.com T hF
  refine ⟨_, fw, _, ff, _, fs, t, s.width, s.fill, s.side, rfl, by omega, by omega, fun p H1 ls h1 e1 h3 h4 h5 => ?_⟩
  refine ⟨p, rfl, ⟨_, SqL.of h3⟩, fun D hD => ?_⟩
  let f : List Nat → Bool := fun x => !(s.strict && decide (s.width < x.length))
  have hlen : ∀ x ∈ ls, x.length ≤ 200 := fun x hx => by
    have := padT_len s.width s.fill s.side x
    rw [(h5 x).mp hx] at this
    omega
  have hls : ls.length ≤ 201 := rise_len ls 0 200 h4 fun x hx => ⟨by omega, hlen x hx⟩
  refine lc_list (K := K) (a := p) (xs := sVs ls) (fun i H' => Ex H1 H' ∧ H' D = some (.lst (sVs ((ls.take i).filter f)))) ⟨Ex.new hD, upd_same⟩ (fun i H' _ hh => SqL.of (hh.1 _ _ h3)) ?_ ?_
  · rintro i x H' hx ⟨e2, hd⟩
    obtain ⟨l, hl, rfl⟩ := sVs_get hx
    have et := take_snoc hl
    have hml : l ∈ ls := List.mem_of_getElem? hl
    obtain ⟨fw, ff, fs, fst⟩ := FormAt.com T (Ex.formAt (Ex.trans e1 e2) hF)
    refine ⟨rfl, l, rfl, by have := hlen l hml; omega, a, l.length, s.width, s.strict, rfl, fst, fw, ?_⟩
    refine iteB (fun c => ?_) (fun c => ?_)
    · refine ⟨_, hd, szT ?_, Ex.mut e2 hD, ?_⟩
      · rw [sVs_length]
        have h8 := List.length_filter_le f (ls.take i)
        rw [List.length_take] at h8
        omega
      · rw [upd_same, et, List.filter_append, List.filter_cons, if_pos (show f l = true from c)]
        exact congrArg (fun z => some (HO.lst z)) (sVs_snoc _ _).symm
    · refine ⟨e2, ?_⟩
      have c' : f l = false := c
      rw [hd, et, List.filter_append, List.filter_cons, c']
      show _ = some (HO.lst (sVs ((ls.take i).filter f ++ [])))
      rw [List.append_nil]
  · rintro H' ⟨e2, hd⟩
    rw [sVs_length, List.take_length] at hd
    refine q D H' _ (Ex.free e1 hD) (Ex.trans e1 e2) hd (h4.filter f) fun x => ?_
    rw [List.mem_filter, h5]
    unfold Spec.fits
    constructor
    · rintro ⟨x1, x2⟩
      exact ⟨notT x2, x1⟩
    · rintro ⟨x1, x2⟩
      exact ⟨x2, by show (!(s.strict && decide (s.width < x.length))) = true; rw [x1]; rfl⟩
theorem ok_P_cores_in {P : Program} {w : World} {K : PySem.W.Frag} {mg : Str → Option Value} {base : Heap} (T : TX w K mg) : Fn P w K mg base CX0 4 "cores_in" (sp_P_cores_in K) := by
  obtain ⟨fd, F⟩ := T.d_P_cores_in
  refine ⟨_, fd, A_P_cores_in, T.g_P_cores_in, F.kp, fnD F sc_P_cores_in (fun vs H Q E h => ?_) (fun cdv A outer s H vs Q E hr h => ⟨_, PSs.nox (der_P_cores_in T (ok_P_stripped T) (ok_P_too_long T) hr), rd_P_cores_in T vs H Q E h⟩), F.bindsN fun _ _ _ _ _ _ us hl => match us, hl with | [_, _], _ => rfl⟩
  obtain ⟨_, _, _, rfl, _⟩ := h
  rfl
/-! ### is_word -/
def sp_P_is_word (K : PySem.W.Frag) : Sp := fun vs H Q _ => ∃ (a : Addr) (n : WS) (x : List Nat), vs = [.ref a, .str (S x)] ∧ FormAt K H a (.word n) ∧ x.length ≤ 1000 ∧ Q (.bl (decide (n.isW x))) H
def t_P_WordForm_is_word (P : Program) (w : World) (K : PySem.W.Frag) (mg : Str → Option Value) (base : Heap) : TS := tSeq (tIfS (tOr (tNot (tB1 (tCB (rIsi1) (tCons (tV 1) (tCons (tC (.ty "str")) (tNil)))))) (tNot (tTest (tChain (rCmp fun i j => decide (i ≤ j)) (rCmp fun i j => decide (i ≤ j)) (tFld1 K (tV 0) "least") (tCB (rLen1 K) (tCons (tV 1) (tNil))) (tFld1 K (tV 0) "most"))))) (tRet (tC (.bl false))) (tNext)) (tSeq (tFor (iStr (tV 1)) (gK 2) (tIfS (tB1 (tOp (rNiC) (tV 2) (tFld1 K (tV 0) "signs"))) (tRet (tC (.bl false))) (tNext))) (tRet (tC (.bl true))))
theorem der_P_WordForm_is_word {P : Program} {w : World} {K : PySem.W.Frag} {mg : Str → Option Value} {base : Heap} (T : TX w K mg) {f : Addr} {cdv : Value} {A : Around} {outer : List Env} {s : Shared} {H : Hp} {E : XK} (hr : Room 0 (A.deeper (envOfC "WordForm.is_word" (defScope s_P_WordForm_is_word) s.heap.objs.size f cdv))) :
    PSs (cxOf CX0 P w K mg base N_P_WordForm_is_word "WordForm.is_word" (defScope s_P_WordForm_is_word) f cdv A outer s H E).nox (defBody s_P_WordForm_is_word) (t_P_WordForm_is_word P w K mg base) :=
  pss_cons (ps_if (PW.pt (pw_or (pt_not (tVal1 (fB cIsi ng_P_WordForm_is_word_isinstance T.b_isinstance bb_isinstance (aCons (fV 1 nm_P_WordForm_is_word_thing rfl) (aCons (fTy ng_P_WordForm_is_word_str T.b_str bb_str) (pa_nil) rfl) rfl) rfl) (fun _ => rfl))) (pw_or1 (pt_not (pt_chain oLe oLe (fFld (fV 0 nm_P_WordForm_is_word_self rfl) rfl) (fB cLen ng_P_WordForm_is_word_len T.b_len bb_len (aCons (fV 1 nm_P_WordForm_is_word_thing rfl) (pa_nil) rfl) rfl) (fFld (fV 0 nm_P_WordForm_is_word_self rfl) rfl)))))) (pss_one (ps_ret (pe_bl))) (pss_nil)) (pss_cons (ps_for PassesOwn.never rfl (pi_str (fV 1 nm_P_WordForm_is_word_thing rfl)) (gNK sc_P_WordForm_is_word.nd rfl nl_P_WordForm_is_word_sign (.inl rfl)) (pss_one (ps_if (tCmp1 (oNiC) (fV 2 nm_P_WordForm_is_word_sign rfl) (fFld (fV 0 nm_P_WordForm_is_word_self rfl) rfl) (by rfl)) (pss_one (ps_ret (pe_bl))) (pss_nil)))) (pss_one (ps_ret (pe_bl))))
theorem wFld (T : TX w K mg) {H : Hp} {a : Addr} {n : WS} (h : FormAt K H a (.word n)) : FldAt K H a "signs" (.str (S n.signs)) ∧ FldAt K H a "least" (.int n.least) ∧ FldAt K H a "most" (.int n.most) := by
  obtain ⟨dx, h⟩ := h
  exact ⟨⟨_, _, _, h, T.cl_WordForm, T.na_WordForm_signs, by kernel_rfl⟩, ⟨_, _, _, h, T.cl_WordForm, T.na_WordForm_least, by kernel_rfl⟩, ⟨_, _, _, h, T.cl_WordForm, T.na_WordForm_most, by kernel_rfl⟩⟩
theorem rd_P_WordForm_is_word (T : TX w K mg) (vs : List V) (H : Hp) (Q : VK) (E : XK) (h : sp_P_is_word K vs H Q E) : t_P_WordForm_is_word P w K mg base { nx := fun _ H' => Q .non H', rt := Q } (start N_P_WordForm_is_word vs) H := by
  obtain ⟨a, n, x, rfl, hF, hx, q⟩ := h
  obtain ⟨f1, f2, f3⟩ := wFld T hF
  refine ifP (p := ¬ (n.least ≤ x.length ∧ x.length ≤ n.most)) (fun Q' q' => ⟨_, true, .str _, kit_ss, _, f2, x, rfl, by omega, _, rfl, iteD (fun c1 => ⟨_, f3, _, rfl, ?_⟩) (fun c1 => ⟨_, rfl, ?_⟩)⟩) (fun c => ?_) (fun c => ?_)
  · have e : decide (((x.length : Nat) : Int) ≤ ((n.most : Nat) : Int)) = decide (n.least ≤ x.length ∧ x.length ≤ n.most) := decide_eq_decide.mpr (by omega)
    rw [decN, ← e] at q'
    exact q'
  · rw [decT (by omega)] at q'
    exact q'
  · have e : decide (n.isW x) = false := decF fun z => c z.1
    rw [e] at q
    exact q
  · refine ⟨S x, rfl, for_str (l := x) (fun i σ H' => H' = H ∧ (∀ c ∈ x.take i, c ∈ n.signs) ∧ ∃ u, σ = [some (.ref a), some (.str (S x)), u]) ⟨rfl, fun c hc => by simp at hc, _, rfl⟩ ?_ ?_⟩
    · rintro i z σ H' hz ⟨rfl, hm, u, rfl⟩
      refine ⟨_, f1, z, n.signs, rfl, rfl, ?_⟩
      refine iteB (fun c2 => ?_) (fun c2 => ?_)
      · have c3 : ¬ z ∈ n.signs := by simpa using c2
        have e : decide (n.isW x) = false := decF fun y => c3 (y.2 z (List.mem_of_getElem? hz))
        rw [e] at q
        exact q
      · have c3 : z ∈ n.signs := by simpa using c2
        refine ⟨rfl, fun y hy => ?_, _, rfl⟩
        rw [take_snoc hz] at hy
        rcases List.mem_append.mp hy with hy | hy
        · exact hm y hy
        · rw [List.mem_singleton.mp hy]
          exact c3
    · rintro σ H' ⟨rfl, hm, u, rfl⟩
      rw [List.take_length] at hm
      have e : decide (n.isW x) = true := decT ⟨by omega, hm⟩
      rw [e] at q
      exact q
theorem ok_P_WordForm_is_word {P : Program} {w : World} {K : PySem.W.Frag} {mg : Str → Option Value} {base : Heap} (T : TX w K mg) : Mt P w K mg base CX0 1 (He.ga K "WordForm") "is_word" (sp_P_is_word K) := by
  obtain ⟨fd, F⟩ := T.d_P_WordForm_is_word
  refine ⟨_, fd, A_P_WordForm_is_word, T.cl_WordForm, T.mt_WordForm_is_word, fnD F sc_P_WordForm_is_word (fun vs H Q E h => ?_) (fun cdv A outer s H vs Q E hr h => ⟨_, PSs.nox (der_P_WordForm_is_word T  hr), rd_P_WordForm_is_word T vs H Q E h⟩), F.bindsN fun _ _ _ _ _ _ us hl => match us, hl with | [_, _], _ => rfl⟩
  obtain ⟨_, _, _, rfl, _⟩ := h
  rfl
/-! ### values_for -/
def sp_P_values_for (K : PySem.W.Frag) (C : Spec → Prop) : Sp := fun vs H Q _ => ∃ (a : Addr) (s : Spec) (t : List Nat), vs = [.ref a, .str (S t)] ∧ C s ∧ FormAt K H a s ∧ s.Ok ∧ t.length ≤ 200 ∧
  ∀ p H' ds, H p = none → Ex H H' → LAt H' p ds → Told s t ds → ds.length ≤ 3000 → Q (.ref p) H'
def t_P_NumberForm_values_for (P : Program) (w : World) (K : PySem.W.Frag) (mg : Str → Option Value) (base : Heap) : TS := tSeq (tSetK 2 (tCB (rSortI1 K) (tCons (tOp qAdd (tMet1 P w K mg base CX0 7 "all_steps" E0 (tV 0) (tCons (tV 1) (tCons (tC (.bl false)) (tNil)))) (tMet1 P w K mg base CX0 7 "all_steps" E0 (tV 0) (tCons (tV 1) (tCons (tC (.bl true)) (tNil))))) (tNil)))) (tRet (tLc (iList K (tV 2)) (gName 3) (tYes) (tCall (sp_P_grid_value) [] E0 (tCons (tV 3) (tCons (tFld1 K (tV 0) "base") (tCons (tFld1 K (tV 0) "places") (tNil))))) [3]))
theorem der_P_NumberForm_values_for {P : Program} {w : World} {K : PySem.W.Frag} {mg : Str → Option Value} {base : Heap} (T : TX w K mg) (C_P_grid_value : Fn P w K mg base CX0 3 "grid_value" (sp_P_grid_value)) {f : Addr} {cdv : Value} {A : Around} {outer : List Env} {s : Shared} {H : Hp} {E : XK} (hr : Room 7 (A.deeper (envOfC "NumberForm.values_for" (defScope s_P_NumberForm_values_for) s.heap.objs.size f cdv))) :
    PSs (cxOf CX0 P w K mg base N_P_NumberForm_values_for "NumberForm.values_for" (defScope s_P_NumberForm_values_for) f cdv A outer s H E).nox (defBody s_P_NumberForm_values_for) (t_P_NumberForm_values_for P w K mg base) :=
  pss_cons (sSetK (i := 2) sc_P_NumberForm_values_for.nd rfl nl_P_NumberForm_values_for_found (fB cSortI ng_P_NumberForm_values_for_sorted T.b_sorted bb_sorted (aCons (pe_op oAdd (fMet (fV 0 nm_P_NumberForm_values_for_self rfl) (hr.mono (by decide)) pass0 (aCons (fV 1 nm_P_NumberForm_values_for_text rfl) (aCons (pe_bl) (pa_nil) rfl) rfl) rfl rfl) (fMet (fV 0 nm_P_NumberForm_values_for_self rfl) (hr.mono (by decide)) pass0 (aCons (fV 1 nm_P_NumberForm_values_for_text rfl) (aCons (pe_bl) (pa_nil) rfl) rfl) rfl rfl)) (pa_nil) rfl) rfl) rfl (.inl rfl)) (pss_one (ps_ret (pe_lc (own := [("steps", 3)]) (g := gName 3) rfl sc_P_NumberForm_values_for.nd (pi_list (fV 2 nm_P_NumberForm_values_for_found rfl)) (blkOk_by (N := N_P_NumberForm_values_for) (sc := defScope s_P_NumberForm_values_for) (by decide +kernel)) (fun _ _ _ _ _ => gN sc_P_NumberForm_values_for.nd rfl (nl_of (by kernel_rfl)) (.inr (by kernel_rfl))) (fun _ _ _ _ _ => pts_nil) (fun _ _ _ _ _ => fCall C_P_grid_value (hr.mono (by decide)) (ng_of (by kernel_rfl)) pass0 (aCons (fV 3 (nm_of (by kernel_rfl)) rfl) (aCons (fFld (fV 0 (nm_of (by kernel_rfl)) rfl) rfl) (aCons (fFld (fV 0 (nm_of (by kernel_rfl)) rfl) rfl) (pa_nil) rfl) rfl) rfl) rfl))))
theorem rd_P_NumberForm_values_for (T : TX w K mg) (vs : List V) (H : Hp) (Q : VK) (E : XK) (h : sp_P_values_for K (fun s => clsOf s = "NumberForm") vs H Q E) : t_P_NumberForm_values_for P w K mg base { nx := fun _ H' => Q .non H', rt := Q } (start N_P_NumberForm_values_for vs) H := by
  obtain ⟨a, s, t, rfl, hC, hF, ok, ht, q⟩ := h
  cases s with
  | word n => exact absurd hC (by show ¬ (("WordForm" : Str) = "NumberForm"); decide +kernel)
  | choice n => exact absurd hC (by show ¬ (("ChoiceForm" : Str) = "NumberForm"); decide +kernel)
  | num n =>
  obtain ⟨dx, hA⟩ := id hF
  have ok' : n.Ok := ok
  refine ⟨_, dx, _, _, hA, by kernel_rfl, ok_P_NumberForm_all_steps T, a, n, t, false, rfl, hF, ok, ht, fun p1 H1 k1 h1 e1 l1 s1 n1 m1 => ?_⟩
  refine ⟨_, dx, _, _, e1 _ _ hA, by kernel_rfl, ok_P_NumberForm_all_steps T, a, n, t, true, rfl, Ex.formAt e1 hF, ok, ht, fun p2 H2 k2 h2 e2 l2 s2 n2 m2 => ?_⟩
  refine ⟨_, _, e2 _ _ l1, l2, by rw [List.length_map, List.length_map]; omega, fun p3 H3 h3 e3 l3 => ?_⟩
  rw [← List.map_append] at l3
  refine ⟨_, SqL.of l3, fun ks p4 H4 pm pw h4 e4 l4 => ?_⟩
  refine ⟨p4, rfl, ⟨_, SqL.of l4⟩, fun D hD => ?_⟩
  have e04 : Ex H H4 := Ex.trans e1 (Ex.trans e2 (Ex.trans e3 e4))
  have hkl : ks.length ≤ 2000 := by
    rw [pm.length_eq, List.length_append]
    omega
  refine lc_list (K := K) (a := p4) (xs := ks.map V.int) (fun i H' => Ex H4 H' ∧ LAt H' D ((ks.take i).map n.dat)) ⟨Ex.new hD, [], upd_same, trivial⟩ (fun i H' _ hh => SqL.of (hh.1 _ _ l4)) ?_ ?_
  · rintro i x H' hx ⟨e5, ws, hd, hws⟩
    rw [List.getElem?_map] at hx
    obtain ⟨k, hk, rfl⟩ : ∃ k, ks[i]? = some k ∧ x = .int k := by
      cases hq : ks[i]? with
      | none => rw [hq] at hx; cases hx
      | some k => rw [hq] at hx; injection hx with hx; exact ⟨k, rfl, hx.symm⟩
    obtain ⟨f1, f2, f3, f4, f5, f6, f7⟩ := nFld T (Ex.formAt (Ex.trans e04 e5) hF)
    refine ⟨rfl, _, f3, _, f2, k, n.base, n.pl, rfl, ok'.b1, ok'.b2, by have := ok'.p; omega, fun p6 H6 h6 e6 l6 => ?_⟩
    have hd6 := e6 _ _ hd
    refine ⟨ws, hd6, szT ?_, Ex.mut (Ex.trans e5 e6) hD, ws ++ [.ref p6], upd_same, ?_⟩
    · rw [hws.len, List.length_map, List.length_take]
      omega
    · have hne : ∀ a b, H6 D ≠ some (.tup [.int a, .int b]) := fun a b z => by
        rw [hd6] at z
        cases z
      rw [take_snoc hk, List.map_append]
      exact VsAt.app ((hws.mono e6).over hne) (VAt.over hne ⟨p6, rfl, l6⟩)
  · rintro H' ⟨e5, hL⟩
    rw [List.length_map, List.take_length] at hL
    refine q D H' _ (Ex.free e04 hD) (Ex.trans e04 e5) hL ⟨ks, ?_, fun k => ?_, rfl⟩ (by rw [List.length_map]; omega)
    · have nd : ks.Nodup := pm.nodup_iff.mpr (List.nodup_append.mpr ⟨n1, n2, fun x hx y hy e => by
        have a1 := ((m1 x).mp hx).1
        have a2 := ((m2 y).mp hy).1
        have a1' : 0 ≤ x := a1
        have a2' : y < 0 := a2
        omega⟩)
      exact (List.Pairwise.and pw nd).imp fun h => by omega
    · rw [pm.mem_iff, List.mem_append, m1, m2]
      unfold NS.HitK
      by_cases hk : k < 0
      · rw [decide_eq_true hk]
        constructor
        · rintro (⟨x, _⟩ | ⟨_, y⟩)
          · have x' : 0 ≤ k := x
            omega
          · exact y
        · exact fun y => .inr ⟨hk, y⟩
      · rw [decide_eq_false hk]
        constructor
        · rintro (⟨_, y⟩ | ⟨x, _⟩)
          · exact y
          · exact absurd x hk
        · exact fun y => .inl ⟨by show 0 ≤ k; omega, y⟩
theorem ok_P_NumberForm_values_for {P : Program} {w : World} {K : PySem.W.Frag} {mg : Str → Option Value} {base : Heap} (T : TX w K mg) : Mt P w K mg base CX0 8 (He.ga K "NumberForm") "values_for" (sp_P_values_for K (fun s => clsOf s = "NumberForm")) := by
  obtain ⟨fd, F⟩ := T.d_P_NumberForm_values_for
  refine ⟨_, fd, A_P_NumberForm_values_for, T.cl_NumberForm, T.mt_NumberForm_values_for, fnD F sc_P_NumberForm_values_for (fun vs H Q E h => ?_) (fun cdv A outer s H vs Q E hr h => ⟨_, PSs.nox (der_P_NumberForm_values_for T (ok_P_grid_value T) hr), rd_P_NumberForm_values_for T vs H Q E h⟩), F.bindsN fun _ _ _ _ _ _ us hl => match us, hl with | [_, _], _ => rfl⟩
  obtain ⟨_, _, _, rfl, _⟩ := h
  rfl
theorem list_lt {a b : List Nat} (h : ¬ b < a) (hne : a ≠ b) : a < b := by
  rcases List.le_iff_lt_or_eq.mp (List.not_lt.mp h) with h | h
  · exact h
  · exact absurd h hne
def t_P_WordForm_values_for (P : Program) (w : World) (K : PySem.W.Frag) (mg : Str → Option Value) (base : Heap) : TS := tRet (tCB (rSortS1 K) (tCons (tLc (iList K (tCall (sp_P_cores_in K) [] E0 (tCons (tV 0) (tCons (tV 1) (tNil))))) (gName 2) (tB1 (tMet1 P w K mg base CX0 1 "is_word" E0 (tV 0) (tCons (tV 2) (tNil)))) (tV 2) [2]) (tNil)))
theorem der_P_WordForm_values_for {P : Program} {w : World} {K : PySem.W.Frag} {mg : Str → Option Value} {base : Heap} (T : TX w K mg) (C_P_cores_in : Fn P w K mg base CX0 4 "cores_in" (sp_P_cores_in K)) {f : Addr} {cdv : Value} {A : Around} {outer : List Env} {s : Shared} {H : Hp} {E : XK} (hr : Room 7 (A.deeper (envOfC "WordForm.values_for" (defScope s_P_WordForm_values_for) s.heap.objs.size f cdv))) :
    PSs (cxOf CX0 P w K mg base N_P_WordForm_values_for "WordForm.values_for" (defScope s_P_WordForm_values_for) f cdv A outer s H E).nox (defBody s_P_WordForm_values_for) (t_P_WordForm_values_for P w K mg base) :=
  pss_one (ps_ret (fB cSortS ng_P_WordForm_values_for_sorted T.b_sorted bb_sorted (aCons (pe_lc (own := [("core", 2)]) (g := gName 2) rfl sc_P_WordForm_values_for.nd (pi_list (fCall C_P_cores_in (hr.mono (by decide)) ng_P_WordForm_values_for_cores_in pass0 (aCons (fV 0 nm_P_WordForm_values_for_self rfl) (aCons (fV 1 nm_P_WordForm_values_for_text rfl) (pa_nil) rfl) rfl) rfl)) (blkOk_by (N := N_P_WordForm_values_for) (sc := defScope s_P_WordForm_values_for) (by decide +kernel)) (fun _ _ _ _ _ => gN sc_P_WordForm_values_for.nd rfl (nl_of (by kernel_rfl)) (.inr (by kernel_rfl))) (fun _ _ _ _ _ => pts_one (tVal1 (fMet (fV 0 (nm_of (by kernel_rfl)) rfl) (hr.mono (by decide)) pass0 (aCons (fV 2 (nm_of (by kernel_rfl)) rfl) (pa_nil) rfl) rfl rfl) (fun _ => rfl))) (fun _ _ _ _ _ => fV 2 (nm_of (by kernel_rfl)) rfl)) (pa_nil) rfl) rfl))
theorem rd_P_WordForm_values_for (T : TX w K mg) (vs : List V) (H : Hp) (Q : VK) (E : XK) (h : sp_P_values_for K (fun s => clsOf s = "WordForm") vs H Q E) : t_P_WordForm_values_for P w K mg base { nx := fun _ H' => Q .non H', rt := Q } (start N_P_WordForm_values_for vs) H := by
  obtain ⟨a, s, t, rfl, hC, hF, ok, ht, q⟩ := h
  cases s with
  | num n => exact absurd hC (by show ¬ (("NumberForm" : Str) = "WordForm"); decide +kernel)
  | choice n => exact absurd hC (by show ¬ (("ChoiceForm" : Str) = "WordForm"); decide +kernel)
  | word n =>
  obtain ⟨dx, hA⟩ := id hF
  have ok' : n.Ok := ok
  refine ⟨a, .word n, t, rfl, hF, ok'.wd, ht, fun p H1 ls h1 e1 h3 h4 h5 => ?_⟩
  refine ⟨p, rfl, ⟨_, SqL.of h3⟩, fun D hD => ?_⟩
  let f : List Nat → Bool := fun x => decide (n.isW x)
  have hlen : ∀ x ∈ ls, x.length ≤ 200 := fun x hx => by
    have := padT_len n.width n.fill n.side x
    rw [show padT n.width n.fill n.side x = t from ((h5 x).mp hx).2] at this
    omega
  have hls : ls.length ≤ 201 := rise_len ls 0 200 h4 fun x hx => ⟨by omega, hlen x hx⟩
  refine lc_list (K := K) (a := p) (xs := sVs ls) (fun i H' => Ex H1 H' ∧ H' D = some (.lst (sVs ((ls.take i).filter f)))) ⟨Ex.new hD, upd_same⟩ (fun i H' _ hh => SqL.of (hh.1 _ _ h3)) ?_ ?_
  · rintro i x H' hx ⟨e2, hd⟩
    obtain ⟨l, hl, rfl⟩ := sVs_get hx
    have et := take_snoc hl
    have hml : l ∈ ls := List.mem_of_getElem? hl
    refine ⟨rfl, _, dx, _, _, e2 _ _ (e1 _ _ hA), by kernel_rfl, ok_P_WordForm_is_word T, a, n, l, rfl, Ex.formAt (Ex.trans e1 e2) hF, by have := hlen l hml; omega, ?_⟩
    refine iteD (fun c => ?_) (fun c => ?_)
    · refine ⟨_, hd, szT ?_, Ex.mut e2 hD, ?_⟩
      · rw [sVs_length]
        have h8 := List.length_filter_le f (ls.take i)
        rw [List.length_take] at h8
        omega
      · rw [upd_same, et, List.filter_append, List.filter_cons, if_pos (show f l = true from decide_eq_true c)]
        exact congrArg (fun z => some (HO.lst z)) (sVs_snoc _ _).symm
    · refine ⟨e2, ?_⟩
      have c' : f l = false := decide_eq_false c
      rw [hd, et, List.filter_append, List.filter_cons, c']
      show _ = some (HO.lst (sVs ((ls.take i).filter f ++ [])))
      rw [List.append_nil]
  · rintro H' ⟨e2, hd⟩
    rw [sVs_length, List.take_length] at hd
    have hfl : (ls.filter f).length ≤ 25 := rise_len _ 0 24 (h4.filter f) fun x hx => by
      have h6 : n.isW x := of_decide_eq_true (List.mem_filter.mp hx).2
      have h7 := h6.1.2
      have h8 := ok'.l2
      omega
    refine ⟨_, SqL.of hd, by omega, fun ls' p5 H5 pm pw h5' e5 l5 => ?_⟩
    have e05 : Ex H H' := Ex.trans e1 e2
    refine q p5 H5 (ls'.map Dat.txt) (Ex.free e05 h5') (Ex.trans e05 e5) ⟨_, l5, VsAt.txts ls'⟩ ⟨ls', ?_, fun x => ?_, rfl⟩ (by rw [List.length_map, pm.length_eq]; omega)
    · have nd0 : (ls.filter f).Nodup := (h4.filter f).imp fun h e => by rw [e] at h; omega
      have nd : ls'.Nodup := pm.nodup_iff.mpr nd0
      exact (List.Pairwise.and pw nd).imp fun h => list_lt h.1 h.2
    · rw [pm.mem_iff, List.mem_filter, h5]
      exact ⟨fun ⟨x1, x2⟩ => ⟨of_decide_eq_true x2, x1⟩, fun ⟨x1, x2⟩ => ⟨x2, decide_eq_true x1⟩⟩
theorem ok_P_WordForm_values_for {P : Program} {w : World} {K : PySem.W.Frag} {mg : Str → Option Value} {base : Heap} (T : TX w K mg) : Mt P w K mg base CX0 8 (He.ga K "WordForm") "values_for" (sp_P_values_for K (fun s => clsOf s = "WordForm")) := by
  obtain ⟨fd, F⟩ := T.d_P_WordForm_values_for
  refine ⟨_, fd, A_P_WordForm_values_for, T.cl_WordForm, T.mt_WordForm_values_for, fnD F sc_P_WordForm_values_for (fun vs H Q E h => ?_) (fun cdv A outer s H vs Q E hr h => ⟨_, PSs.nox (der_P_WordForm_values_for T (ok_P_cores_in T) hr), rd_P_WordForm_values_for T vs H Q E h⟩), F.bindsN fun _ _ _ _ _ _ us hl => match us, hl with | [_, _], _ => rfl⟩
  obtain ⟨_, _, _, rfl, _⟩ := h
  rfl
def t_P_ChoiceForm_values_for (P : Program) (w : World) (K : PySem.W.Frag) (mg : Str → Option Value) (base : Heap) : TS := tSeq (tSetK 2 (tCall (sp_P_cores_in K) [] E0 (tCons (tV 0) (tCons (tV 1) (tNil))))) (tRet (tLc (iList K (tFld1 K (tV 0) "names")) (gName 3) (tB1 (tOp (rInL K) (tV 3) (tV 2))) (tV 3) [3]))
theorem der_P_ChoiceForm_values_for {P : Program} {w : World} {K : PySem.W.Frag} {mg : Str → Option Value} {base : Heap} (T : TX w K mg) (C_P_cores_in : Fn P w K mg base CX0 4 "cores_in" (sp_P_cores_in K)) {f : Addr} {cdv : Value} {A : Around} {outer : List Env} {s : Shared} {H : Hp} {E : XK} (hr : Room 7 (A.deeper (envOfC "ChoiceForm.values_for" (defScope s_P_ChoiceForm_values_for) s.heap.objs.size f cdv))) :
    PSs (cxOf CX0 P w K mg base N_P_ChoiceForm_values_for "ChoiceForm.values_for" (defScope s_P_ChoiceForm_values_for) f cdv A outer s H E).nox (defBody s_P_ChoiceForm_values_for) (t_P_ChoiceForm_values_for P w K mg base) :=
  pss_cons (sSetK (i := 2) sc_P_ChoiceForm_values_for.nd rfl nl_P_ChoiceForm_values_for_cores (fCall C_P_cores_in (hr.mono (by decide)) ng_P_ChoiceForm_values_for_cores_in pass0 (aCons (fV 0 nm_P_ChoiceForm_values_for_self rfl) (aCons (fV 1 nm_P_ChoiceForm_values_for_text rfl) (pa_nil) rfl) rfl) rfl) rfl (.inl rfl)) (pss_one (ps_ret (pe_lc (own := [("name", 3)]) (g := gName 3) rfl sc_P_ChoiceForm_values_for.nd (pi_list (fFld (fV 0 nm_P_ChoiceForm_values_for_self rfl) rfl)) (blkOk_by (N := N_P_ChoiceForm_values_for) (sc := defScope s_P_ChoiceForm_values_for) (by decide +kernel)) (fun _ _ _ _ _ => gN sc_P_ChoiceForm_values_for.nd rfl (nl_of (by kernel_rfl)) (.inr (by kernel_rfl))) (fun _ _ _ _ _ => pts_one (tCmp1 (oInL) (fV 3 (nm_of (by kernel_rfl)) rfl) (fV 2 (nm_of (by kernel_rfl)) rfl) (by rfl))) (fun _ _ _ _ _ => fV 3 (nm_of (by kernel_rfl)) rfl))))
theorem rd_P_ChoiceForm_values_for (T : TX w K mg) (vs : List V) (H : Hp) (Q : VK) (E : XK) (h : sp_P_values_for K (fun s => clsOf s = "ChoiceForm") vs H Q E) : t_P_ChoiceForm_values_for P w K mg base { nx := fun _ H' => Q .non H', rt := Q } (start N_P_ChoiceForm_values_for vs) H := by
  obtain ⟨a, s, t, rfl, hC, hF, ok, ht, q⟩ := h
  cases s with
  | num n => exact absurd hC (by show ¬ (("NumberForm" : Str) = "ChoiceForm"); decide +kernel)
  | word n => exact absurd hC (by show ¬ (("WordForm" : Str) = "ChoiceForm"); decide +kernel)
  | choice n =>
  obtain ⟨dx, na, hN, hA⟩ := id hF
  have ok' : n.Ok := ok
  refine ⟨a, .choice n, t, rfl, hF, ok'.wd, ht, fun p H1 ls h1 e1 h3 h4 h5 => ?_⟩
  refine ⟨_, ⟨_, _, _, e1 _ _ hA, T.cl_ChoiceForm, T.na_ChoiceForm_names, by kernel_rfl⟩, na, rfl, ⟨_, SqL.of (e1 _ _ hN)⟩, fun D hD => ?_⟩
  let f : List Nat → Bool := fun x => decide ((Spec.choice n).fits x t)
  have hn12 := ok'.n2
  refine lc_list (K := K) (a := na) (xs := sVs n.names) (fun i H' => Ex H1 H' ∧ H' D = some (.lst (sVs ((n.names.take i).filter f)))) ⟨Ex.new hD, upd_same⟩ (fun i H' _ hh => SqL.of (hh.1 _ _ (e1 _ _ hN))) ?_ ?_
  · rintro i x H' hx ⟨e2, hd⟩
    obtain ⟨l, hl, rfl⟩ := sVs_get hx
    have et := take_snoc hl
    refine ⟨rfl, l, p, ls, rfl, rfl, SqL.of (e2 _ _ h3), ?_⟩
    refine iteD (fun c => ?_) (fun c => ?_)
    · refine ⟨_, hd, szT ?_, Ex.mut e2 hD, ?_⟩
      · rw [sVs_length]
        have h8 := List.length_filter_le f (n.names.take i)
        rw [List.length_take] at h8
        omega
      · rw [upd_same, et, List.filter_append, List.filter_cons, if_pos (show f l = true from decide_eq_true ((h5 l).mp c))]
        exact congrArg (fun z => some (HO.lst z)) (sVs_snoc _ _).symm
    · refine ⟨e2, ?_⟩
      have c' : f l = false := decide_eq_false fun z => c ((h5 l).mpr z)
      rw [hd, et, List.filter_append, List.filter_cons, c']
      show _ = some (HO.lst (sVs ((n.names.take i).filter f ++ [])))
      rw [List.append_nil]
  · rintro H' ⟨e2, hd⟩
    rw [sVs_length, List.take_length] at hd
    have h8 := List.length_filter_le f n.names
    exact q D H' _ (Ex.free e1 hD) (Ex.trans e1 e2) ⟨_, hd, VsAt.txts _⟩ rfl (by rw [List.length_map]; omega)
theorem ok_P_ChoiceForm_values_for {P : Program} {w : World} {K : PySem.W.Frag} {mg : Str → Option Value} {base : Heap} (T : TX w K mg) : Mt P w K mg base CX0 8 (He.ga K "ChoiceForm") "values_for" (sp_P_values_for K (fun s => clsOf s = "ChoiceForm")) := by
  obtain ⟨fd, F⟩ := T.d_P_ChoiceForm_values_for
  refine ⟨_, fd, A_P_ChoiceForm_values_for, T.cl_ChoiceForm, T.mt_ChoiceForm_values_for, fnD F sc_P_ChoiceForm_values_for (fun vs H Q E h => ?_) (fun cdv A outer s H vs Q E hr h => ⟨_, PSs.nox (der_P_ChoiceForm_values_for T (ok_P_cores_in T) hr), rd_P_ChoiceForm_values_for T vs H Q E h⟩), F.bindsN fun _ _ _ _ _ _ us hl => match us, hl with | [_, _], _ => rfl⟩
  obtain ⟨_, _, _, rfl, _⟩ := h
  rfl
end
end K45
namespace K45
open PySem PySem.Spec PyProof.Rows L2 F
section
variable {P : Program} {w : World} {K : PySem.W.Frag} {mg : Str → Option Value} {base : Heap}
/-! ### TwoValues.__init__ -/
def sp_P_Two_init (K : PySem.W.Frag) : Sp := fun vs H Q _ => ∃ (a p : Addr) (xs : List V), vs = [.ref a, .ref p] ∧ H a = some (exo a (He.ga K "TwoValues") none) ∧ H p = some (.lst xs) ∧
  ∀ q dx H', H q = none → H dx = none → q ≠ dx → q ≠ a → dx ≠ a → H' a = some (exo a (He.ga K "TwoValues") (some dx)) → H' dx = some (exd dx [("told", .ref q)]) → H' q = some (.lst xs) → (∀ b o, b ≠ a → H b = some o → H' b = some o) → Q .non H'
def t_P_TwoValues___init__ (P : Program) (w : World) (K : PySem.W.Frag) (mg : Str → Option Value) (base : Heap) : TS := tSeq (tDrop (tVeI K (tCons (tV 0) (tCons (tC (.str (S [115, 101, 118, 101, 114, 97, 108, 32, 118, 97, 108, 117, 101, 115, 32, 97, 114, 101, 32, 112, 117, 116, 32, 115, 111]))) (tNil))))) (tOst K "told" (tV 0) (tCB (rList1 K) (tCons (tV 1) (tNil))))
theorem der_P_TwoValues___init__ {P : Program} {w : World} {K : PySem.W.Frag} {mg : Str → Option Value} {base : Heap} (T : TX w K mg) {f : Addr} {cdv : Value} {A : Around} {outer : List Env} {s : Shared} {H : Hp} {E : XK} (hr : Room 0 (A.deeper (envOfC "TwoValues.__init__" (defScope s_P_TwoValues___init__) s.heap.objs.size f cdv))) :
    PSs (cxOf CX0 P w K mg base N_P_TwoValues___init__ "TwoValues.__init__" (defScope s_P_TwoValues___init__) f cdv A outer s H E).nox (defBody s_P_TwoValues___init__) (t_P_TwoValues___init__ P w K mg base) :=
  pss_cons (sExpr ((let ⟨mc, r, hf⟩ := T.ci_PadError; fInitV T.g_PadError ng_P_TwoValues___init___PadError r hf (aCons (fV 0 nm_P_TwoValues___init___self rfl) (aCons (fS rfl) (pa_nil) rfl) rfl) rfl rfl)) rfl) (pss_one (ps_ost (fV 0 nm_P_TwoValues___init___self rfl) (fBT cList ng_P_TwoValues___init___list T.b_list bb_list (aCons (fV 1 nm_P_TwoValues___init___told rfl) (pa_nil) rfl) rfl)))
theorem rd_P_TwoValues___init__ (T : TX w K mg) (vs : List V) (H : Hp) (Q : VK) (E : XK) (h : sp_P_Two_init K vs H Q E) : t_P_TwoValues___init__ P w K mg base { nx := fun _ H' => Q .non H', rt := Q } (start N_P_TwoValues___init__ vs) H := by
  obtain ⟨a, p, xs, rfl, ha, hp, q⟩ := h
  refine ⟨a, _, _, rfl, by show 1 ≤ 1000; decide, T.o_TwoValues, ha, ?_⟩
  refine ⟨xs, .inl (SqL.of hp), fun l H1 hl e1 h1 => ?_⟩
  refine ⟨a, _, rfl, T.o_TwoValues, T.xn_told, .inl ⟨e1 _ _ ha, fun dx hdx hne => ?_⟩⟩
  have hla : l ≠ a := fun z => by
    rw [z, ha] at hl
    cases hl
  have hld : l ≠ dx := fun z => by
    rw [z, hdx] at h1
    cases h1
  have hHd : H dx = none := Ex.free e1 hdx
  refine q l dx _ hl hHd hld hla hne upd_same ?_ ?_ fun b o hb ho => ?_
  · rw [upd_ne hne, upd_same]
  · rw [upd_ne hla, upd_ne hld]
    exact h1
  · rw [upd_ne hb, upd_ne]
    · exact e1 _ _ ho
    · intro z
      rw [z, hHd] at ho
      cases ho
theorem ok_P_TwoValues___init__ {P : Program} {w : World} {K : PySem.W.Frag} {mg : Str → Option Value} {base : Heap} (T : TX w K mg) : In P w K mg base 1 (He.ma K (He.ga K "TwoValues") "__init__") (sp_P_Two_init K) := by
  obtain ⟨fd, F⟩ := T.d_P_TwoValues___init__
  refine ⟨fd, A_P_TwoValues___init__, F.ok sc_P_TwoValues___init__ (fun vs H Q E h => ?_) (fun cdv A outer s H vs Q E hr h => ⟨_, PSs.nox (der_P_TwoValues___init__ T  hr), rd_P_TwoValues___init__ T vs H Q E h⟩), F.bindsN fun _ _ _ _ _ _ us hl => match us, hl with | [_, _], _ => rfl⟩
  obtain ⟨_, _, _, rfl, _⟩ := h
  rfl
/-! ### only_one -/
def sp_P_only_one (K : PySem.W.Frag) : Sp := fun vs H Q E => ∃ (p : Addr) (ds : List Dat), vs = [.ref p] ∧ LAt H p ds ∧ (∀ d ∈ ds, d.Ok) ∧ ds.length ≤ 5000 ∧
  (∀ d v H', ds = [d] → Ex H H' → VAt H' v d → Q v H') ∧ (ds = [] → ∀ H', Ex H H' → E (.ref (He.ga K "NoText")) none H') ∧
  (2 ≤ ds.length → ∀ dd q H', Ex H H' → H q = none → H' dd = some (.xd [("told", .ref q)]) → LAt H' q ds → E (.ref (He.ga K "TwoValues")) (some dd) H')
def t_P_only_one (P : Program) (w : World) (K : PySem.W.Frag) (mg : Str → Option Value) (base : Heap) (E : XK) : TS := tSeq (tIfS (tB1 (tOp (rEqD K) (tV 0) (tLst1 (tNil)))) (tRs E (.ref (He.ga K "NoText"))) (tNext)) (tSeq (tIfS (tB1 (tOp (rCmp fun i j => decide (j < i)) (tCB (rLen1 K) (tCons (tV 0) (tNil))) (tC (.int 1)))) (tRsO E (He.ga K "TwoValues") (sp_P_Two_init K) (tCons (tV 0) (tNil))) (tNext)) (tRet (tOp (rIx1 K) (tV 0) (tC (.int 0)))))
theorem der_P_only_one {P : Program} {w : World} {K : PySem.W.Frag} {mg : Str → Option Value} {base : Heap} (T : TX w K mg) (I_TwoValues : In P w K mg base 1 (He.ma K (He.ga K "TwoValues") "__init__") (sp_P_Two_init K)) {f : Addr} {cdv : Value} {A : Around} {outer : List Env} {s : Shared} {H : Hp} {E : XK} (hr : Room 2 (A.deeper (envOfC "only_one" (defScope s_P_only_one) s.heap.objs.size f cdv))) :
    PSs (cxOf ((L2.CX P w)) P w K mg base N_P_only_one "only_one" (defScope s_P_only_one) f cdv A outer s H E) (defBody s_P_only_one) (t_P_only_one P w K mg base E) :=
  pss_cons (ps_if (tCmp1 (op_eqD (hu_of1 hr)) (fV 0 nm_P_only_one_told rfl) (fLst (pa_nil)) (nomark _)) (pss_one (fRaiseL rfl (L2.takes_of rfl rfl rfl rfl) T.e_NoText T.g_NoText ng_P_only_one_NoText)) (pss_nil)) (pss_cons (ps_if (tCmp1 (oGt) (fB cLen ng_P_only_one_len T.b_len bb_len (aCons (fV 0 nm_P_only_one_told rfl) (pa_nil) rfl) rfl) (pe_int) (nomark _)) (pss_one (fRaiseO rfl (L2.takes_of rfl rfl rfl rfl) T.o_TwoValues T.oi_TwoValues I_TwoValues (hr.mono (by decide)) ng_P_only_one_TwoValues T.g_TwoValues (aCons (fV 0 nm_P_only_one_told rfl) (pa_nil) rfl) rfl)) (pss_nil)) (pss_one (ps_ret (fIx (fV 0 nm_P_only_one_told rfl) (pe_int) (fun _ _ => rfl)))))
theorem rd_P_only_one (T : TX w K mg) (vs : List V) (H : Hp) (Q : VK) (E : XK) (h : sp_P_only_one K vs H Q E) : t_P_only_one P w K mg base E { nx := fun _ H' => Q .non H', rt := Q } (start N_P_only_one vs) H := by
  obtain ⟨p, ds, rfl, hL, hok, hlen, q1, q0, q2⟩ := h
  refine ⟨l100 rfl, fun p1 H1 h1 e1 l1 => ?_⟩
  have hL1 := hL.mono e1
  refine ⟨.list (ds.map Dat.py), .list ([].map Dat.py), hL1.dp, LAt.dp ⟨[], l1, trivial⟩, shaped_list ds hok, rfl, ?_⟩
  have ee : PyData.eqv (.list (ds.map Dat.py)) (.list (([] : List Dat).map Dat.py)) = decide (ds = []) := eqvAll_py ds []
  rw [ee]
  refine iteD (fun c => q0 c H1 e1) (fun c => ?_)
  obtain ⟨ws, hws, hv⟩ := id hL1
  have hlw := hv.len
  refine ⟨ws, .inl (SqL.of hws), ?_⟩
  refine iteD (fun c2 => ?_) (fun c2 => ?_)
  · refine ⟨by show 1 ≤ 1000; decide, fun a ha => ?_⟩
    have hpa : p ≠ a := fun z => by
      rw [z, ha] at hws
      cases hws
    refine ⟨a, p, ws, rfl, upd_same, by rw [upd_ne hpa]; exact hws, fun q dx H2 hq hdx hqd hqa hda g1 g2 g3 g4 => ?_⟩
    refine ⟨rfl, dx, _, g1, g2, by rw [upd_ne hda] at hdx; exact hdx, ?_⟩
    have hd1 : H1 dx = none := by rw [upd_ne hda] at hdx; exact hdx
    have hq1 : H1 q = none := by rw [upd_ne hqa] at hq; exact hq
    have e2 : Ex H1 (upd (del H2 a) dx (.xd [("told", .ref q)])) := fun b o hb => by
      have b1 : b ≠ a := fun z => by rw [z, ha] at hb; cases hb
      have b2 : b ≠ dx := fun z => by rw [z, hd1] at hb; cases hb
      rw [upd_ne b2, del_ne b1]
      exact g4 b o b1 (by rw [upd_ne b1]; exact hb)
    refine q2 (by omega) dx q _ (Ex.trans e1 e2) (Ex.free e1 hq1) upd_same ⟨ws, ?_, hv.mono e2⟩
    rw [upd_ne hqd, del_ne hqa]
    exact g3
  · obtain ⟨d, rfl⟩ : ∃ d, ds = [d] := by
      cases ds with
      | nil => exact absurd rfl c
      | cons d r =>
        cases r with
        | nil => exact ⟨d, rfl⟩
        | cons _ _ => simp at hlw; omega
    cases ws with
    | nil => cases hv
    | cons v r => exact ⟨_, v, .inl (SqL.of hws), at0, q1 d v H1 rfl e1 hv.1⟩
theorem ok_P_only_one {P : Program} {w : World} {K : PySem.W.Frag} {mg : Str → Option Value} {base : Heap} (T : TX w K mg) : Fn P w K mg base (L2.CX P w) 3 "only_one" (sp_P_only_one K) := by
  obtain ⟨fd, F⟩ := T.d_P_only_one
  refine ⟨_, fd, A_P_only_one, T.g_P_only_one, F.kp, fnD F sc_P_only_one (fun vs H Q E h => ?_) (fun cdv A outer s H vs Q E hr h => ⟨_, der_P_only_one T (ok_P_TwoValues___init__ T) hr, rd_P_only_one T vs H Q E h⟩), F.bindsN fun _ _ _ _ _ _ us hl => match us, hl with | [_], _ => rfl⟩
  obtain ⟨_, _, rfl, _⟩ := h
  rfl
/-! ### value_of -/
theorem told_ok {s : Spec} (ok : s.Ok) {t : List Nat} {ds : List Dat} (h : Told s t ds) : ∀ d ∈ ds, d.Ok := by
  intro d hd
  cases s with
  | num n =>
    obtain ⟨ks, _, _, rfl⟩ := h
    obtain ⟨k, _, rfl⟩ := List.mem_map.mp hd
    trivial
  | word n =>
    obtain ⟨ls, _, h2, rfl⟩ := h
    obtain ⟨x, hx, rfl⟩ := List.mem_map.mp hd
    have ok' : n.Ok := ok
    exact fun c hc => ok'.sb c (((h2 x).mp hx).1.2 c hc)
  | choice n =>
    have h' : ds = _ := h
    rw [h'] at hd
    obtain ⟨x, hx, rfl⟩ := List.mem_map.mp hd
    have ok' : n.Ok := ok
    exact fun c hc => ok'.nb x (List.mem_filter.mp hx).1 c hc
def sp_P_value_of (K : PySem.W.Frag) (C : Spec → Prop) : Sp := fun vs H Q E => ∃ (a : Addr) (s : Spec) (t : List Nat), vs = [.ref a, .str (S t)] ∧ C s ∧ FormAt K H a s ∧ s.Ok ∧ t.length ≤ 200 ∧ ∀ ds, Told s t ds →
  (∀ d v H', ds = [d] → Ex H H' → VAt H' v d → Q v H') ∧ (ds = [] → ∀ H', Ex H H' → E (.ref (He.ga K "NoText")) none H') ∧
  (2 ≤ ds.length → ∀ dd q H', Ex H H' → H q = none → H' dd = some (.xd [("told", .ref q)]) → LAt H' q ds → E (.ref (He.ga K "TwoValues")) (some dd) H')
def t_P_NumberForm_value_of (P : Program) (w : World) (K : PySem.W.Frag) (mg : Str → Option Value) (base : Heap) (E : XK) : TS := tRet (tCall (sp_P_only_one K) [] E (tCons (tMet1 P w K mg base CX0 8 "values_for" E0 (tV 0) (tCons (tV 1) (tNil))) (tNil)))
theorem der_P_NumberForm_value_of {P : Program} {w : World} {K : PySem.W.Frag} {mg : Str → Option Value} {base : Heap} (T : TX w K mg) (C_P_only_one : Fn P w K mg base (L2.CX P w) 3 "only_one" (sp_P_only_one K)) {f : Addr} {cdv : Value} {A : Around} {outer : List Env} {s : Shared} {H : Hp} {E : XK} (hr : Room 9 (A.deeper (envOfC "NumberForm.value_of" (defScope s_P_NumberForm_value_of) s.heap.objs.size f cdv))) :
    PSs (cxOf ((L2.CX P w)) P w K mg base N_P_NumberForm_value_of "NumberForm.value_of" (defScope s_P_NumberForm_value_of) f cdv A outer s H E) (defBody s_P_NumberForm_value_of) (t_P_NumberForm_value_of P w K mg base E) :=
  pss_one (ps_ret (fCall C_P_only_one (hr.mono (by decide)) ng_P_NumberForm_value_of_only_one (L2.passes_call (L2.takes_of rfl rfl rfl rfl) (fun _ _ _ _ h => h)) (aCons (fMet (fV 0 nm_P_NumberForm_value_of_self rfl) (hr.mono (by decide)) pass0 (aCons (fV 1 nm_P_NumberForm_value_of_text rfl) (pa_nil) rfl) rfl rfl) (pa_nil) rfl) rfl))
theorem rd_P_NumberForm_value_of (T : TX w K mg) (vs : List V) (H : Hp) (Q : VK) (E : XK) (h : sp_P_value_of K (fun s => clsOf s = "NumberForm") vs H Q E) : t_P_NumberForm_value_of P w K mg base E { nx := fun _ H' => Q .non H', rt := Q } (start N_P_NumberForm_value_of vs) H := by
  obtain ⟨a, s, t, rfl, hC, hF, ok, ht, q⟩ := h
  cases s with
  | word n => exact absurd hC (by show ¬ (("WordForm" : Str) = "NumberForm"); decide +kernel)
  | choice n => exact absurd hC (by show ¬ (("ChoiceForm" : Str) = "NumberForm"); decide +kernel)
  | num n =>
  obtain ⟨dx, hA⟩ := id hF
  refine ⟨_, dx, _, _, hA, by kernel_rfl, ok_P_NumberForm_values_for T, a, .num n, t, rfl, rfl, hF, ok, ht, fun p H1 ds h1 e1 hL hT hl => ?_⟩
  obtain ⟨q1, q0, q2⟩ := q ds hT
  exact ⟨p, ds, rfl, hL, told_ok ok hT, by omega, fun d v H' x y z => q1 d v H' x (Ex.trans e1 y) z, fun x H' y => q0 x H' (Ex.trans e1 y), fun x dd u H' y z w1 w2 => q2 x dd u H' (Ex.trans e1 y) (Ex.free e1 z) w1 w2⟩
theorem ok_P_NumberForm_value_of {P : Program} {w : World} {K : PySem.W.Frag} {mg : Str → Option Value} {base : Heap} (T : TX w K mg) : Mt P w K mg base (L2.CX P w) 10 (He.ga K "NumberForm") "value_of" (sp_P_value_of K (fun s => clsOf s = "NumberForm")) := by
  obtain ⟨fd, F⟩ := T.d_P_NumberForm_value_of
  refine ⟨_, fd, A_P_NumberForm_value_of, T.cl_NumberForm, T.mt_NumberForm_value_of, fnD F sc_P_NumberForm_value_of (fun vs H Q E h => ?_) (fun cdv A outer s H vs Q E hr h => ⟨_, der_P_NumberForm_value_of T (ok_P_only_one T) hr, rd_P_NumberForm_value_of T vs H Q E h⟩), F.bindsN fun _ _ _ _ _ _ us hl => match us, hl with | [_, _], _ => rfl⟩
  obtain ⟨_, _, _, rfl, _⟩ := h
  rfl
def t_P_WordForm_value_of (P : Program) (w : World) (K : PySem.W.Frag) (mg : Str → Option Value) (base : Heap) (E : XK) : TS := tRet (tCall (sp_P_only_one K) [] E (tCons (tMet1 P w K mg base CX0 8 "values_for" E0 (tV 0) (tCons (tV 1) (tNil))) (tNil)))
theorem der_P_WordForm_value_of {P : Program} {w : World} {K : PySem.W.Frag} {mg : Str → Option Value} {base : Heap} (T : TX w K mg) (C_P_only_one : Fn P w K mg base (L2.CX P w) 3 "only_one" (sp_P_only_one K)) {f : Addr} {cdv : Value} {A : Around} {outer : List Env} {s : Shared} {H : Hp} {E : XK} (hr : Room 9 (A.deeper (envOfC "WordForm.value_of" (defScope s_P_WordForm_value_of) s.heap.objs.size f cdv))) :
    PSs (cxOf ((L2.CX P w)) P w K mg base N_P_WordForm_value_of "WordForm.value_of" (defScope s_P_WordForm_value_of) f cdv A outer s H E) (defBody s_P_WordForm_value_of) (t_P_WordForm_value_of P w K mg base E) :=
  pss_one (ps_ret (fCall C_P_only_one (hr.mono (by decide)) ng_P_WordForm_value_of_only_one (L2.passes_call (L2.takes_of rfl rfl rfl rfl) (fun _ _ _ _ h => h)) (aCons (fMet (fV 0 nm_P_WordForm_value_of_self rfl) (hr.mono (by decide)) pass0 (aCons (fV 1 nm_P_WordForm_value_of_text rfl) (pa_nil) rfl) rfl rfl) (pa_nil) rfl) rfl))
theorem rd_P_WordForm_value_of (T : TX w K mg) (vs : List V) (H : Hp) (Q : VK) (E : XK) (h : sp_P_value_of K (fun s => clsOf s = "WordForm") vs H Q E) : t_P_WordForm_value_of P w K mg base E { nx := fun _ H' => Q .non H', rt := Q } (start N_P_WordForm_value_of vs) H := by
  obtain ⟨a, s, t, rfl, hC, hF, ok, ht, q⟩ := h
  cases s with
  | num n => exact absurd hC (by show ¬ (("NumberForm" : Str) = "WordForm"); decide +kernel)
  | choice n => exact absurd hC (by show ¬ (("ChoiceForm" : Str) = "WordForm"); decide +kernel)
  | word n =>
  obtain ⟨dx, hA⟩ := id hF
  refine ⟨_, dx, _, _, hA, by kernel_rfl, ok_P_WordForm_values_for T, a, .word n, t, rfl, rfl, hF, ok, ht, fun p H1 ds h1 e1 hL hT hl => ?_⟩
  obtain ⟨q1, q0, q2⟩ := q ds hT
  exact ⟨p, ds, rfl, hL, told_ok ok hT, by omega, fun d v H' x y z => q1 d v H' x (Ex.trans e1 y) z, fun x H' y => q0 x H' (Ex.trans e1 y), fun x dd u H' y z w1 w2 => q2 x dd u H' (Ex.trans e1 y) (Ex.free e1 z) w1 w2⟩
theorem ok_P_WordForm_value_of {P : Program} {w : World} {K : PySem.W.Frag} {mg : Str → Option Value} {base : Heap} (T : TX w K mg) : Mt P w K mg base (L2.CX P w) 10 (He.ga K "WordForm") "value_of" (sp_P_value_of K (fun s => clsOf s = "WordForm")) := by
  obtain ⟨fd, F⟩ := T.d_P_WordForm_value_of
  refine ⟨_, fd, A_P_WordForm_value_of, T.cl_WordForm, T.mt_WordForm_value_of, fnD F sc_P_WordForm_value_of (fun vs H Q E h => ?_) (fun cdv A outer s H vs Q E hr h => ⟨_, der_P_WordForm_value_of T (ok_P_only_one T) hr, rd_P_WordForm_value_of T vs H Q E h⟩), F.bindsN fun _ _ _ _ _ _ us hl => match us, hl with | [_, _], _ => rfl⟩
  obtain ⟨_, _, _, rfl, _⟩ := h
  rfl
def t_P_ChoiceForm_value_of (P : Program) (w : World) (K : PySem.W.Frag) (mg : Str → Option Value) (base : Heap) (E : XK) : TS := tRet (tCall (sp_P_only_one K) [] E (tCons (tMet1 P w K mg base CX0 8 "values_for" E0 (tV 0) (tCons (tV 1) (tNil))) (tNil)))
theorem der_P_ChoiceForm_value_of {P : Program} {w : World} {K : PySem.W.Frag} {mg : Str → Option Value} {base : Heap} (T : TX w K mg) (C_P_only_one : Fn P w K mg base (L2.CX P w) 3 "only_one" (sp_P_only_one K)) {f : Addr} {cdv : Value} {A : Around} {outer : List Env} {s : Shared} {H : Hp} {E : XK} (hr : Room 9 (A.deeper (envOfC "ChoiceForm.value_of" (defScope s_P_ChoiceForm_value_of) s.heap.objs.size f cdv))) :
    PSs (cxOf ((L2.CX P w)) P w K mg base N_P_ChoiceForm_value_of "ChoiceForm.value_of" (defScope s_P_ChoiceForm_value_of) f cdv A outer s H E) (defBody s_P_ChoiceForm_value_of) (t_P_ChoiceForm_value_of P w K mg base E) :=
  pss_one (ps_ret (fCall C_P_only_one (hr.mono (by decide)) ng_P_ChoiceForm_value_of_only_one (L2.passes_call (L2.takes_of rfl rfl rfl rfl) (fun _ _ _ _ h => h)) (aCons (fMet (fV 0 nm_P_ChoiceForm_value_of_self rfl) (hr.mono (by decide)) pass0 (aCons (fV 1 nm_P_ChoiceForm_value_of_text rfl) (pa_nil) rfl) rfl rfl) (pa_nil) rfl) rfl))
theorem rd_P_ChoiceForm_value_of (T : TX w K mg) (vs : List V) (H : Hp) (Q : VK) (E : XK) (h : sp_P_value_of K (fun s => clsOf s = "ChoiceForm") vs H Q E) : t_P_ChoiceForm_value_of P w K mg base E { nx := fun _ H' => Q .non H', rt := Q } (start N_P_ChoiceForm_value_of vs) H := by
  obtain ⟨a, s, t, rfl, hC, hF, ok, ht, q⟩ := h
  cases s with
  | num n => exact absurd hC (by show ¬ (("NumberForm" : Str) = "ChoiceForm"); decide +kernel)
  | word n => exact absurd hC (by show ¬ (("WordForm" : Str) = "ChoiceForm"); decide +kernel)
  | choice n =>
  obtain ⟨dx, na, hN, hA⟩ := id hF
  refine ⟨_, dx, _, _, hA, by kernel_rfl, ok_P_ChoiceForm_values_for T, a, .choice n, t, rfl, rfl, hF, ok, ht, fun p H1 ds h1 e1 hL hT hl => ?_⟩
  obtain ⟨q1, q0, q2⟩ := q ds hT
  exact ⟨p, ds, rfl, hL, told_ok ok hT, by omega, fun d v H' x y z => q1 d v H' x (Ex.trans e1 y) z, fun x H' y => q0 x H' (Ex.trans e1 y), fun x dd u H' y z w1 w2 => q2 x dd u H' (Ex.trans e1 y) (Ex.free e1 z) w1 w2⟩
theorem ok_P_ChoiceForm_value_of {P : Program} {w : World} {K : PySem.W.Frag} {mg : Str → Option Value} {base : Heap} (T : TX w K mg) : Mt P w K mg base (L2.CX P w) 10 (He.ga K "ChoiceForm") "value_of" (sp_P_value_of K (fun s => clsOf s = "ChoiceForm")) := by
  obtain ⟨fd, F⟩ := T.d_P_ChoiceForm_value_of
  refine ⟨_, fd, A_P_ChoiceForm_value_of, T.cl_ChoiceForm, T.mt_ChoiceForm_value_of, fnD F sc_P_ChoiceForm_value_of (fun vs H Q E h => ?_) (fun cdv A outer s H vs Q E hr h => ⟨_, der_P_ChoiceForm_value_of T (ok_P_only_one T) hr, rd_P_ChoiceForm_value_of T vs H Q E h⟩), F.bindsN fun _ _ _ _ _ _ us hl => match us, hl with | [_, _], _ => rfl⟩
  obtain ⟨_, _, _, rfl, _⟩ := h
  rfl
end
end K45
namespace K45
open PySem PySem.Spec PyProof.Rows L2 F
section
variable {P : Program} {w : World} {K : PySem.W.Frag} {mg : Str → Option Value} {base : Heap}
/-! ### forms -/
theorem ex_made {H H' : Hp} {x dx : Addr} {o : HO} {o2 : HO} (hx : H x = none) (hd : H dx = none) (h : ∀ b, b ≠ x → H' b = upd (upd H dx o) x o2 b) : Ex H H' := fun b u hb => by
  have b1 : b ≠ x := fun z => by rw [z, hx] at hb; cases hb
  have b2 : b ≠ dx := fun z => by rw [z, hd] at hb; cases hb
  rw [h b b1, upd_ne b1, upd_ne b2]
  exact hb
def sp_L_number_form (K : PySem.W.Frag) : Sp := fun vs H Q _ => ∃ (a : Addr) (n : NS), vs = [.ref a] ∧ SpecAt H a (.num n) ∧ ∀ p H', Ex H H' → FormAt K H' p (.num n) → Q (.ref p) H'
def t_L_number_form (P : Program) (w : World) (K : PySem.W.Frag) (mg : Str → Option Value) (base : Heap) : TS := tSeq (tAsg (tSl (rSlT1 K) (tV 0) (tPart1 (tC (.int 1))) (tPart1 (tC (.int 8)))) (gTup K 7 (gCons (gK 1) (gCons (gK 2) (gCons (gK 3) (gCons (gK 4) (gCons (gK 5) (gCons (gK 6) (gCons (gK 7) (gNil)))))))))) (tSeq (tAsg (tSl (rSlT1 K) (tV 0) (tPart1 (tC (.int 8))) tNoPart) (gTup K 5 (gCons (gK 8) (gCons (gK 9) (gCons (gK 10) (gCons (gK 11) (gCons (gK 12) (gNil)))))))) (tRet (tMake (He.ga K "NumberForm") (sp_P_Number_init K) [] E0 (tCons (tV 1) (tCons (tV 2) (tCons (tV 3) (tCons (tV 4) (tCons (tV 5) (tCons (tV 6) (tCons (tV 7) (tCons (tV 8) (tCons (tV 9) (tCons (tV 10) (tCons (tV 11) (tCons (tV 12) (tNil))))))))))))))))
theorem der_L_number_form {P : Program} {w : World} {K : PySem.W.Frag} {mg : Str → Option Value} {base : Heap} (T : TX w K mg) (I_NumberForm : In P w K mg base 2 (He.ma K (He.ga K "NumberForm") "__init__") (sp_P_Number_init K)) {f : Addr} {cdv : Value} {A : Around} {outer : List Env} {s : Shared} {H : Hp} {E : XK} (hr : Room 3 (A.deeper (envOfC "_law_number_form" (defScope s_L_number_form) s.heap.objs.size f cdv))) :
    PSs (cxOf CX0 P w K mg base N_L_number_form "_law_number_form" (defScope s_L_number_form) f cdv A outer s H E).nox (defBody s_L_number_form) (t_L_number_form P w K mg base) :=
  pss_cons (ps_asg (pe_slice slT1 (fV 0 nm_L_number_form__law_spec_here rfl) (oSome (pe_int)) (oSome (pe_int))) (pg_tup rfl (pgs_cons (gNK sc_L_number_form.nd rfl nl_L_number_form__law_figures_here (.inl rfl)) (pgs_cons (gNK sc_L_number_form.nd rfl nl_L_number_form__law_places (.inl rfl)) (pgs_cons (gNK sc_L_number_form.nd rfl nl_L_number_form__law_base (.inl rfl)) (pgs_cons (gNK sc_L_number_form.nd rfl nl_L_number_form__law_sign_here (.inl rfl)) (pgs_cons (gNK sc_L_number_form.nd rfl nl_L_number_form__law_size (.inl rfl)) (pgs_cons (gNK sc_L_number_form.nd rfl nl_L_number_form__law_mark (.inl rfl)) (pgs_cons (gNK sc_L_number_form.nd rfl nl_L_number_form__law_point (.inl rfl)) (pgs_nil)))))))))) (pss_cons (ps_asg (pe_slice slT1 (fV 0 nm_L_number_form__law_spec_here rfl) (oSome (pe_int)) po_none) (pg_tup rfl (pgs_cons (gNK sc_L_number_form.nd rfl nl_L_number_form__law_way (.inl rfl)) (pgs_cons (gNK sc_L_number_form.nd rfl nl_L_number_form__law_width (.inl rfl)) (pgs_cons (gNK sc_L_number_form.nd rfl nl_L_number_form__law_fill (.inl rfl)) (pgs_cons (gNK sc_L_number_form.nd rfl nl_L_number_form__law_side (.inl rfl)) (pgs_cons (gNK sc_L_number_form.nd rfl nl_L_number_form__law_strict (.inl rfl)) (pgs_nil)))))))) (pss_one (ps_ret (fMake T.mk_NumberForm I_NumberForm (hr.mono (by decide)) ng_L_number_form_NumberForm T.g_NumberForm (aCons (fV 1 nm_L_number_form__law_figures_here rfl) (aCons (fV 2 nm_L_number_form__law_places rfl) (aCons (fV 3 nm_L_number_form__law_base rfl) (aCons (fV 4 nm_L_number_form__law_sign_here rfl) (aCons (fV 5 nm_L_number_form__law_size rfl) (aCons (fV 6 nm_L_number_form__law_mark rfl) (aCons (fV 7 nm_L_number_form__law_point rfl) (aCons (fV 8 nm_L_number_form__law_way rfl) (aCons (fV 9 nm_L_number_form__law_width rfl) (aCons (fV 10 nm_L_number_form__law_fill rfl) (aCons (fV 11 nm_L_number_form__law_side rfl) (aCons (fV 12 nm_L_number_form__law_strict rfl) (pa_nil) rfl) rfl) rfl) rfl) rfl) rfl) rfl) rfl) rfl) rfl) rfl) rfl) rfl))))
theorem rd_L_number_form (T : TX w K mg) (vs : List V) (H : Hp) (Q : VK) (E : XK) (h : sp_L_number_form K vs H Q E) : t_L_number_form P w K mg base { nx := fun _ H' => Q .non H', rt := Q } (start N_L_number_form vs) H := by
  obtain ⟨a, n, rfl, hS, q⟩ := h
  have hS' : H a = some (.tup n.vals) := hS
  show t_L_number_form P w K mg base _ [some (.ref a), none, none, none, none, none, none, none, none, none, none, none, none] H
  refine ⟨n.vals, SqT.of hS', by show ¬ (1 = 0 ∧ _); simp, fun p1 H1 h1 e1 l1 => ?_⟩
  refine ⟨p1, _, rfl, SqT.of l1, rfl, _, _, rfl, _, _, rfl, _, _, rfl, _, _, rfl, _, _, rfl, _, _, rfl, _, _, rfl, rfl, ?_⟩
  refine ⟨n.vals, SqT.of (e1 _ _ hS'), by show ¬ (8 = 0 ∧ _); simp, fun p2 H2 h2 e2 l2 => ?_⟩
  refine ⟨p2, _, rfl, SqT.of l2, rfl, _, _, rfl, _, _, rfl, _, _, rfl, _, _, rfl, _, _, rfl, rfl, ?_⟩
  refine fun x dx hx hd hne => ⟨x, dx, n, rfl, upd_same, fun H3 g1 g2 => ⟨rfl, q x H3 ?_ ⟨dx, g1⟩⟩⟩
  exact Ex.trans e1 (Ex.trans e2 (ex_made hx hd g2))
theorem ok_L_number_form {P : Program} {w : World} {K : PySem.W.Frag} {mg : Str → Option Value} {base : Heap} (T : TX w K mg) : Fn P w K mg base CX0 4 "_law_number_form" (sp_L_number_form K) := by
  obtain ⟨fd, F⟩ := T.d_L_number_form
  refine ⟨_, fd, A_L_number_form, T.g_L_number_form, F.kp, fnD F sc_L_number_form (fun vs H Q E h => ?_) (fun cdv A outer s H vs Q E hr h => ⟨_, PSs.nox (der_L_number_form T (ok_P_NumberForm___init__ T) hr), rd_L_number_form T vs H Q E h⟩), F.bindsN fun _ _ _ _ _ _ us hl => match us, hl with | [_], _ => rfl⟩
  obtain ⟨_, _, rfl, _⟩ := h
  rfl
def sp_L_form (K : PySem.W.Frag) : Sp := fun vs H Q _ => ∃ (a : Addr) (s : Spec), vs = [.ref a] ∧ SpecAt H a s ∧ ∀ p H', Ex H H' → FormAt K H' p s → Q (.ref p) H'
def t_L_form (P : Program) (w : World) (K : PySem.W.Frag) (mg : Str → Option Value) (base : Heap) : TS := tSeq (tIfS (tB1 (tOp (rEq1) (tOp (rIx1 K) (tV 0) (tC (.int 0))) (tC (.str (S [110, 117, 109, 98, 101, 114]))))) (tRet (tCall (sp_L_number_form K) [] E0 (tCons (tV 0) (tNil)))) (tNext)) (tSeq (tIfS (tB1 (tOp (rEq1) (tOp (rIx1 K) (tV 0) (tC (.int 0))) (tC (.str (S [119, 111, 114, 100]))))) (tRet (tMake (He.ga K "WordForm") (sp_P_Word_init K) [] E0 (tCons (tOp (rIx1 K) (tV 0) (tC (.int 1))) (tCons (tOp (rIx1 K) (tV 0) (tC (.int 2))) (tCons (tOp (rIx1 K) (tV 0) (tC (.int 3))) (tCons (tOp (rIx1 K) (tV 0) (tC (.int 4))) (tCons (tOp (rIx1 K) (tV 0) (tC (.int 5))) (tCons (tOp (rIx1 K) (tV 0) (tC (.int 6))) (tCons (tOp (rIx1 K) (tV 0) (tC (.int 7))) (tNil)))))))))) (tNext)) (tRet (tMake (He.ga K "ChoiceForm") (sp_P_Choice_init K) [] E0 (tCons (tCB (rList1 K) (tCons (tOp (rIx1 K) (tV 0) (tC (.int 1))) (tNil))) (tCons (tOp (rIx1 K) (tV 0) (tC (.int 2))) (tCons (tOp (rIx1 K) (tV 0) (tC (.int 3))) (tCons (tOp (rIx1 K) (tV 0) (tC (.int 4))) (tCons (tOp (rIx1 K) (tV 0) (tC (.int 5))) (tNil)))))))))
theorem der_L_form {P : Program} {w : World} {K : PySem.W.Frag} {mg : Str → Option Value} {base : Heap} (T : TX w K mg) (C_L_number_form : Fn P w K mg base CX0 4 "_law_number_form" (sp_L_number_form K)) (I_WordForm : In P w K mg base 2 (He.ma K (He.ga K "WordForm") "__init__") (sp_P_Word_init K)) (I_ChoiceForm : In P w K mg base 2 (He.ma K (He.ga K "ChoiceForm") "__init__") (sp_P_Choice_init K)) {f : Addr} {cdv : Value} {A : Around} {outer : List Env} {s : Shared} {H : Hp} {E : XK} (hr : Room 4 (A.deeper (envOfC "_law_form" (defScope s_L_form) s.heap.objs.size f cdv))) :
    PSs (cxOf CX0 P w K mg base N_L_form "_law_form" (defScope s_L_form) f cdv A outer s H E).nox (defBody s_L_form) (t_L_form P w K mg base) :=
  pss_cons (ps_if (tCmp1 (oEq) (fIx (fV 0 nm_L_form__law_spec_here rfl) (pe_int) (fun _ _ => rfl)) (fS rfl) (nomark _)) (pss_one (ps_ret (fCall C_L_number_form (hr.mono (by decide)) ng_L_form__law_number_form pass0 (aCons (fV 0 nm_L_form__law_spec_here rfl) (pa_nil) rfl) rfl))) (pss_nil)) (pss_cons (ps_if (tCmp1 (oEq) (fIx (fV 0 nm_L_form__law_spec_here rfl) (pe_int) (fun _ _ => rfl)) (fS rfl) (nomark _)) (pss_one (ps_ret (fMake T.mk_WordForm I_WordForm (hr.mono (by decide)) ng_L_form_WordForm T.g_WordForm (aCons (fIx (fV 0 nm_L_form__law_spec_here rfl) (pe_int) (fun _ _ => rfl)) (aCons (fIx (fV 0 nm_L_form__law_spec_here rfl) (pe_int) (fun _ _ => rfl)) (aCons (fIx (fV 0 nm_L_form__law_spec_here rfl) (pe_int) (fun _ _ => rfl)) (aCons (fIx (fV 0 nm_L_form__law_spec_here rfl) (pe_int) (fun _ _ => rfl)) (aCons (fIx (fV 0 nm_L_form__law_spec_here rfl) (pe_int) (fun _ _ => rfl)) (aCons (fIx (fV 0 nm_L_form__law_spec_here rfl) (pe_int) (fun _ _ => rfl)) (aCons (fIx (fV 0 nm_L_form__law_spec_here rfl) (pe_int) (fun _ _ => rfl)) (pa_nil) rfl) rfl) rfl) rfl) rfl) rfl) rfl) rfl))) (pss_nil)) (pss_one (ps_ret (fMake T.mk_ChoiceForm I_ChoiceForm (hr.mono (by decide)) ng_L_form_ChoiceForm T.g_ChoiceForm (aCons (fBT cList ng_L_form_list T.b_list bb_list (aCons (fIx (fV 0 nm_L_form__law_spec_here rfl) (pe_int) (fun _ _ => rfl)) (pa_nil) rfl) rfl) (aCons (fIx (fV 0 nm_L_form__law_spec_here rfl) (pe_int) (fun _ _ => rfl)) (aCons (fIx (fV 0 nm_L_form__law_spec_here rfl) (pe_int) (fun _ _ => rfl)) (aCons (fIx (fV 0 nm_L_form__law_spec_here rfl) (pe_int) (fun _ _ => rfl)) (aCons (fIx (fV 0 nm_L_form__law_spec_here rfl) (pe_int) (fun _ _ => rfl)) (pa_nil) rfl) rfl) rfl) rfl) rfl) rfl))))
theorem kinds_ne : S sWord ≠ S sNumber ∧ S sChoice ≠ S sNumber ∧ S sChoice ≠ S sWord ∧ S sWord ≠ S sChoice := by
  refine ⟨fun h => ?_, fun h => ?_, fun h => ?_, fun h => ?_⟩ <;> exact absurd (S_inj h) (by decide)
theorem rd_L_form (T : TX w K mg) (vs : List V) (H : Hp) (Q : VK) (E : XK) (h : sp_L_form K vs H Q E) : t_L_form P w K mg base { nx := fun _ H' => Q .non H', rt := Q } (start N_L_form vs) H := by
  obtain ⟨a, s, rfl, hS, q⟩ := h
  obtain ⟨xs, hx, k0, _⟩ := hS.com
  refine ⟨xs, _, .inr (SqT.of hx), k0, ?_⟩
  cases s with
  | num n =>
    exact ⟨a, n, rfl, hS, fun p H' e f => q p H' e f⟩
  | word n =>
    refine ⟨xs, _, .inr (SqT.of hx), k0, ?_⟩
    have t : SqT K H a n.vals := SqT.of hS
    refine ⟨_, _, .inr t, at1, _, _, .inr t, at2, _, _, .inr t, atI_nat (j := 3) rfl, _, _, .inr t, atI_nat (j := 4) rfl, _, _, .inr t, atI_nat (j := 5) rfl, _, _, .inr t, atI_nat (j := 6) rfl, _, _, .inr t, atI_nat (j := 7) rfl, ?_⟩
    refine fun x dx hx hd hne => ⟨x, dx, n, rfl, upd_same, fun H3 g1 g2 => ⟨rfl, q x H3 (ex_made hx hd g2) ⟨dx, g1⟩⟩⟩
  | choice n =>
    refine ⟨xs, _, .inr (SqT.of hx), k0, ?_⟩
    obtain ⟨na, hn, hv⟩ := hS
    have t : SqT K H a (n.vals na) := SqT.of hv
    refine ⟨_, _, .inr t, at1, _, .inl (SqL.of hn), fun p1 H1 h1 e1 l1 => ?_⟩
    have t1 : SqT K H1 a (n.vals na) := SqT.of (e1 _ _ hv)
    refine ⟨_, _, .inr t1, at2, _, _, .inr t1, atI_nat (j := 3) rfl, _, _, .inr t1, atI_nat (j := 4) rfl, _, _, .inr t1, atI_nat (j := 5) rfl, ?_⟩
    refine fun x dx hx hd hne => ⟨x, dx, p1, n, rfl, upd_same, ?_, fun H3 nb g1 g3 g2 => ⟨rfl, q x H3 ?_ ⟨dx, nb, g3, g1⟩⟩⟩
    · rw [upd_ne (fun z => by rw [z, hx] at l1; cases l1), upd_ne (fun z => by rw [z, hd] at l1; cases l1)]
      exact l1
    · refine Ex.trans e1 fun b u hb => ?_
      have b1 : b ≠ x := fun z => by rw [z, hx] at hb; cases hb
      have b2 : b ≠ dx := fun z => by rw [z, hd] at hb; cases hb
      refine g2 b u b1 ?_
      rw [upd_ne b1, upd_ne b2]
      exact hb
theorem ok_L_form {P : Program} {w : World} {K : PySem.W.Frag} {mg : Str → Option Value} {base : Heap} (T : TX w K mg) : Fn P w K mg base CX0 5 "_law_form" (sp_L_form K) := by
  obtain ⟨fd, F⟩ := T.d_L_form
  refine ⟨_, fd, A_L_form, T.g_L_form, F.kp, fnD F sc_L_form (fun vs H Q E h => ?_) (fun cdv A outer s H vs Q E hr h => ⟨_, PSs.nox (der_L_form T (ok_L_number_form T) (ok_P_WordForm___init__ T) (ok_P_ChoiceForm___init__ T) hr), rd_L_form T vs H Q E h⟩), F.bindsN fun _ _ _ _ _ _ us hl => match us, hl with | [_], _ => rfl⟩
  obtain ⟨_, _, rfl, _⟩ := h
  rfl
/-! ### body -/
theorem drop_at {α : Type} {l : List α} {i : Nat} {x : α} (h : l[i]? = some x) : l.drop i = x :: l.drop (i + 1) := by
  have hlt := (List.getElem?_eq_some_iff.mp h).1
  rw [List.getElem?_eq_getElem hlt] at h
  injection h with h
  rw [← h]
  exact (List.getElem_cons_drop hlt).symm
def sp_L_body : Sp := fun vs H Q _ => ∃ (k : Nat) (a : Addr) (n : NS), vs = [.int k, .ref a] ∧ SpecAt H a (.num n) ∧ n.Ok ∧ k < n.base ^ (n.fig + n.pl) ∧ ∀ H', Ex H H' → Q (.str (S (n.body k))) H'
def t_L_body (P : Program) (w : World) (K : PySem.W.Frag) (mg : Str → Option Value) (base : Heap) : TS := tSeq (tAsg (tSl (rSlT1 K) (tV 1) (tPart1 (tC (.int 2))) (tPart1 (tC (.int 4)))) (gTup K 2 (gCons (gK 2) (gCons (gK 3) (gNil))))) (tSeq (tAsg (tSl (rSlT1 K) (tV 1) (tPart1 (tC (.int 5))) (tPart1 (tC (.int 8)))) (gTup K 3 (gCons (gK 4) (gCons (gK 5) (gCons (gK 6) (gNil)))))) (tSeq (tSetK 7 (tCall (sp_L_power) [] E0 (tCons (tV 3) (tCons (tV 2) (tNil))))) (tSeq (tSetK 8 (tCall (sp_L_figures) [] E0 (tCons (tOp qDiv (tV 0) (tV 7)) (tCons (tV 3) (tNil))))) (tSeq (tSetK 9 (tOp (rIx1 K) (tV 8) (tUn qNeg (tC (.int 1))))) (tSeq (tFor (iRng2 (tCons (tC (.int 1)) (tCons (tCB (rLen1 K) (tCons (tV 8) (tNil))) (tNil)))) (gK 10) (tCut (tIfS (tAnd (tB1 (tOp (rCmp fun i j => decide (j < i)) (tV 4) (tC (.int 0)))) (tB1 (tOp (rEq1) (tOp qMod (tV 10) (tV 4)) (tC (.int 0))))) (tSetK 9 (tOp qAdd (tV 5) (tV 9))) (tNext)) (tSetK 9 (tOp qAdd (tOp (rIx1 K) (tV 8) (tOp qSub (tOp qSub (tCB (rLen1 K) (tCons (tV 8) (tNil))) (tC (.int 1))) (tV 10))) (tV 9))))) (tSeq (tIfS (tB1 (tOp (rEq1) (tV 2) (tC (.int 0)))) (tRet (tV 9)) (tNext)) (tSeq (tSetK 11 (tCall (sp_L_figures) [] E0 (tCons (tOp qMod (tV 0) (tV 7)) (tCons (tV 3) (tNil))))) (tRet (tOp qAdd (tOp qAdd (tOp qAdd (tV 9) (tV 6)) (tOp qMul (tC (.str (S [48]))) (tOp qSub (tV 2) (tCB (rLen1 K) (tCons (tV 11) (tNil)))))) (tV 11))))))))))
theorem der_L_body {P : Program} {w : World} {K : PySem.W.Frag} {mg : Str → Option Value} {base : Heap} (T : TX w K mg) (C_L_power : Fn P w K mg base CX0 1 "_law_power" (sp_L_power)) (C_L_figures : Fn P w K mg base CX0 1 "_law_figures" (sp_L_figures)) {f : Addr} {cdv : Value} {A : Around} {outer : List Env} {s : Shared} {H : Hp} {E : XK} (hr : Room 1 (A.deeper (envOfC "_law_body" (defScope s_L_body) s.heap.objs.size f cdv))) :
    PSs (cxOf CX0 P w K mg base N_L_body "_law_body" (defScope s_L_body) f cdv A outer s H E).nox (defBody s_L_body) (t_L_body P w K mg base) :=
  pss_cons (ps_asg (pe_slice slT1 (fV 1 nm_L_body__law_spec_here rfl) (oSome (pe_int)) (oSome (pe_int))) (pg_tup rfl (pgs_cons (gNK sc_L_body.nd rfl nl_L_body__law_places (.inl rfl)) (pgs_cons (gNK sc_L_body.nd rfl nl_L_body__law_base (.inl rfl)) (pgs_nil))))) (pss_cons (ps_asg (pe_slice slT1 (fV 1 nm_L_body__law_spec_here rfl) (oSome (pe_int)) (oSome (pe_int))) (pg_tup rfl (pgs_cons (gNK sc_L_body.nd rfl nl_L_body__law_size (.inl rfl)) (pgs_cons (gNK sc_L_body.nd rfl nl_L_body__law_mark (.inl rfl)) (pgs_cons (gNK sc_L_body.nd rfl nl_L_body__law_point (.inl rfl)) (pgs_nil)))))) (pss_cons (sSetK (i := 7) sc_L_body.nd rfl nl_L_body__law_step (fCall C_L_power (hr.mono (by decide)) ng_L_body__law_power pass0 (aCons (fV 3 nm_L_body__law_base rfl) (aCons (fV 2 nm_L_body__law_places rfl) (pa_nil) rfl) rfl) rfl) rfl (.inl rfl)) (pss_cons (sSetK (i := 8) sc_L_body.nd rfl nl_L_body__law_figures_here (fCall C_L_figures (hr.mono (by decide)) ng_L_body__law_figures pass0 (aCons (pe_op oDiv (fV 0 nm_L_body__law_steps_here rfl) (fV 7 nm_L_body__law_step rfl)) (aCons (fV 3 nm_L_body__law_base rfl) (pa_nil) rfl) rfl) rfl) rfl (.inl rfl)) (pss_cons (sSetK (i := 9) sc_L_body.nd rfl nl_L_body__law_whole_here (fIx (fV 8 nm_L_body__law_figures_here rfl) (pe_un oNeg (pe_int)) (fun _ _ => rfl)) rfl (.inl rfl)) (pss_cons (ps_for PassesOwn.never rfl (pi_range2 (ng_L_body_range).gl T.b_range (aCons (pe_int) (aCons (fB cLen ng_L_body_len T.b_len bb_len (aCons (fV 8 nm_L_body__law_figures_here rfl) (pa_nil) rfl) rfl) (pa_nil) rfl) rfl)) (gNK sc_L_body.nd rfl nl_L_body__law_k (.inl rfl)) (sCut (ps_if (PW.pt (pw_and (tCmp1 (oGt) (fV 4 nm_L_body__law_size rfl) (pe_int) (nomark _)) (pw_and1 (tCmp1 (oEq) (pe_op oMod (fV 10 nm_L_body__law_k rfl) (fV 4 nm_L_body__law_size rfl)) (pe_int) (nomark _))))) (pss_one (sSetK (i := 9) sc_L_body.nd rfl nl_L_body__law_whole_here (pe_op oAdd (fV 5 nm_L_body__law_mark rfl) (fV 9 nm_L_body__law_whole_here rfl)) rfl (.inl rfl))) (pss_nil)) (pss_one (sSetK (i := 9) sc_L_body.nd rfl nl_L_body__law_whole_here (pe_op oAdd (fIx (fV 8 nm_L_body__law_figures_here rfl) (pe_op oSub (pe_op oSub (fB cLen ng_L_body_len T.b_len bb_len (aCons (fV 8 nm_L_body__law_figures_here rfl) (pa_nil) rfl) rfl) (pe_int)) (fV 10 nm_L_body__law_k rfl)) (fun _ _ => rfl)) (fV 9 nm_L_body__law_whole_here rfl)) rfl (.inl rfl))))) (pss_cons (ps_if (tCmp1 (oEq) (fV 2 nm_L_body__law_places rfl) (pe_int) (nomark _)) (pss_one (ps_ret (fV 9 nm_L_body__law_whole_here rfl))) (pss_nil)) (pss_cons (sSetK (i := 11) sc_L_body.nd rfl nl_L_body__law_rest (fCall C_L_figures (hr.mono (by decide)) ng_L_body__law_figures pass0 (aCons (pe_op oMod (fV 0 nm_L_body__law_steps_here rfl) (fV 7 nm_L_body__law_step rfl)) (aCons (fV 3 nm_L_body__law_base rfl) (pa_nil) rfl) rfl) rfl) rfl (.inl rfl)) (pss_one (ps_ret (pe_op oAdd (pe_op oAdd (pe_op oAdd (fV 9 nm_L_body__law_whole_here rfl) (fV 6 nm_L_body__law_point rfl)) (pe_op oMul (fS rfl) (pe_op oSub (fV 2 nm_L_body__law_places rfl) (fB cLen ng_L_body_len T.b_len bb_len (aCons (fV 11 nm_L_body__law_rest rfl) (pa_nil) rfl) rfl)))) (fV 11 nm_L_body__law_rest rfl)))))))))))
theorem rd_L_body (T : TX w K mg) (vs : List V) (H : Hp) (Q : VK) (E : XK) (h : sp_L_body vs H Q E) : t_L_body P w K mg base { nx := fun _ H' => Q .non H', rt := Q } (start N_L_body vs) H := by
  obtain ⟨k, a, n, rfl, hS, ok, hk, q⟩ := h
  have hS' : H a = some (.tup n.vals) := hS
  have hb1 := ok.b1
  have hb2 := ok.b2
  have hp6 := ok.p
  have hf1 := ok.f1
  have hf2 := ok.f2
  show t_L_body P w K mg base _ [some (.int k), some (.ref a), none, none, none, none, none, none, none, none, none, none] H
  refine ⟨n.vals, SqT.of hS', by show ¬ (2 = 0 ∧ _); simp, fun p1 H1 h1 e1 l1 => ?_⟩
  refine ⟨p1, _, rfl, SqT.of l1, rfl, _, _, rfl, _, _, rfl, rfl, ?_⟩
  refine ⟨n.vals, SqT.of (e1 _ _ hS'), by show ¬ (5 = 0 ∧ _); simp, fun p2 H2 h2 e2 l2 => ?_⟩
  refine ⟨p2, _, rfl, SqT.of l2, rfl, _, _, rfl, _, _, rfl, _, _, rfl, rfl, ?_⟩
  refine ⟨n.base, n.pl, rfl, hb2, by omega, ?_⟩
  have e12 := Ex.trans e1 e2
  have hpos : 0 < n.base ^ n.pl := Nat.pow_pos (by omega)
  have hbd : n.base ^ n.pl < 2 ^ 200 := pow_bd hb2 (by omega)
  have hcd : ∀ x : Int, CDivW x ((n.base ^ n.pl : Nat) : Int) := fun x => wide_div (b := 200) (by omega) (by rw [Int.natAbs_natCast]; exact hbd) (by decide) (by decide)
  have hw1 : k / n.base ^ n.pl < n.base ^ n.fig := Nat.div_lt_of_lt_mul (by rw [← Nat.pow_add, Nat.add_comm]; exact hk)
  have hw2 : k % n.base ^ n.pl < n.base ^ n.pl := Nat.mod_lt _ hpos
  have hl1 := figs_len hb1 hf1 hw1
  refine ⟨hcd _, k / n.base ^ n.pl, n.base, by rw [Int.natCast_ediv]; rfl, hb1, hb2, by omega, ?_⟩
  have hne := (figs_val hb1 hb2 (k / n.base ^ n.pl)).2.ne
  generalize hF : figs n.base (k / n.base ^ n.pl) = F at hl1 hne
  have hLp : 0 < F.length := List.length_pos_iff.mpr hne
  refine ⟨F, _, rfl, by omega, atI_last hne, F, rfl, by omega, 1, _, rfl, by omega, ?_⟩
  obtain ⟨L, hL⟩ : ∃ L, F.length = L + 1 := ⟨F.length - 1, by omega⟩
  rw [show (((F.length : Nat) : Int) - 1).toNat = L by omega]
  refine for_range (lo := 1) (n := L) (fun i σ H' => H' = H2 ∧ i ≤ L ∧ ∃ u v, σ = [some (.int k), some (.ref a), some (.int n.pl), some (.int n.base), some (.int n.size), some (.str (S [n.mark])), some (.str (S [n.point])), some (.int ((n.base ^ n.pl : Nat) : Int)), some (.str (S F)), some (.str (S (grp n.size n.mark (F.drop (L - i))))), u, v]) ⟨rfl, Nat.zero_le _, none, none, ?_⟩ ?_ ?_
  · have e : F.drop (L - 0) = [F.getLast hne] := by
      rw [Nat.sub_zero, drop_at (i := L) (x := F.getLast hne) (by rw [List.getLast_eq_getElem, List.getElem?_eq_getElem (by omega)]; simp [hL]), List.drop_eq_nil_of_le (by omega)]
    rw [e]
    have e2 : grp n.size n.mark [F.getLast hne] = [F.getLast hne] := by simp [grp]
    rw [e2]
  · rintro i σ H' hi ⟨rfl, _, u, v, rfl⟩
    have hlt : L - (i + 1) < F.length := by omega
    have hdr : F.drop (L - (i + 1)) = F[L - (i + 1)] :: F.drop (L - i) := by
      rw [drop_at (List.getElem?_eq_getElem hlt), show L - (i + 1) + 1 = L - i by omega]
    have hrl : (F.drop (L - i)).length = i + 1 := by rw [List.length_drop]; omega
    have hgl : (grp n.size n.mark (F.drop (L - i))).length ≤ 1000 := by
      have h7 := grp_len n.size n.mark (F.drop (L - i)) (fun z => by rw [z] at hrl; simp at hrl)
      have h8 : marksN (F.drop (L - i)).length n.size ≤ 100 := by
        unfold marksN
        split
        · omega
        · exact Nat.le_trans (Nat.div_le_self _ _) (by omega)
      omega
    refine ⟨fun σ' H1 => H1 = H' ∧ σ' = [some (.int k), some (.ref a), some (.int n.pl), some (.int n.base), some (.int n.size), some (.str (S [n.mark])), some (.str (S [n.point])), some (.int ((n.base ^ n.pl : Nat) : Int)), some (.str (S F)), some (.str (S (if 0 < n.size ∧ (i + 1) % n.size = 0 then n.mark :: grp n.size n.mark (F.drop (L - i)) else grp n.size n.mark (F.drop (L - i))))), some (.int (1 + (i : Int))), v], ?_, ?_⟩
    · dsimp only [gK, setK]
      refine ifP (p := 0 < n.size ∧ (i + 1) % n.size = 0) (fun Q' q' => andP q' (fun Q' q' => by
          have e : decide (0 < n.size) = decide ((0 : Int) < (n.size : Int)) := decide_eq_decide.mpr (by omega)
          rw [e] at q'
          exact q') fun hz Q' q' => ⟨by omega, ?_⟩) (fun c => ?_) (fun c => ?_)
      · have e : decide ((i + 1) % n.size = 0) = decide ((1 + (i : Int)) % (n.size : Int) = 0) := decide_eq_decide.mpr (by
          have : (1 + (i : Int)) % (n.size : Int) = (((i + 1) % n.size : Nat) : Int) := by rw [Int.natCast_emod, Int.natCast_add]; congr 1; omega
          rw [this]
          omega)
        rw [e] at q'
        exact q'
      · refine ⟨_, _, rfl, rfl, by show 1 + _ ≤ 100000; omega, rfl, ?_⟩
        rw [if_pos c]
        rfl
      · refine ⟨rfl, ?_⟩
        rw [if_neg c]
    · rintro σ' H1 ⟨rfl, rfl⟩
      refine ⟨F, rfl, by omega, F, F[L - (i + 1)], rfl, by omega, atI_eq (j := L - (i + 1)) (by omega) (List.getElem?_eq_getElem hlt), ?_⟩
      refine ⟨_, _, rfl, rfl, ?_, rfl, by omega, some (.int (1 + (i : Int))), v, ?_⟩
      · split
        · show 1 + (_ + 1) ≤ 100000
          omega
        · show 1 + _ ≤ 100000
          omega
      · have eg : grp n.size n.mark (F.drop (L - (i + 1))) = [F[L - (i + 1)]] ++ (if 0 < n.size ∧ (i + 1) % n.size = 0 then n.mark :: grp n.size n.mark (F.drop (L - i)) else grp n.size n.mark (F.drop (L - i))) := by
          rw [hdr]
          show F[L - (i + 1)] :: (if 0 < n.size ∧ F.drop (L - i) ≠ [] ∧ (F.drop (L - i)).length % n.size = 0 then n.mark :: grp n.size n.mark (F.drop (L - i)) else grp n.size n.mark (F.drop (L - i))) = _
          rw [hrl]
          have hnn : F.drop (L - i) ≠ [] := fun z => by rw [z] at hrl; simp at hrl
          have : (0 < n.size ∧ F.drop (L - i) ≠ [] ∧ (i + 1) % n.size = 0) ↔ (0 < n.size ∧ (i + 1) % n.size = 0) := ⟨fun h => ⟨h.1, h.2.2⟩, fun h => ⟨h.1, hnn, h.2⟩⟩
          by_cases c : 0 < n.size ∧ (i + 1) % n.size = 0
          · rw [if_pos c, if_pos (this.mpr c)]
            rfl
          · rw [if_neg c, if_neg (fun z => c (this.mp z))]
            rfl
        rw [eg]
  · rintro σ H' ⟨rfl, _, u, v, rfl⟩
    rw [Nat.sub_self, List.drop_zero]
    have hgl : (grp n.size n.mark F).length ≤ 1000 := by
      have h7 := grp_len n.size n.mark F hne
      have h8 : marksN F.length n.size ≤ 100 := by
        unfold marksN
        split
        · omega
        · exact Nat.le_trans (Nat.div_le_self _ _) (by omega)
      omega
    refine iteD (fun c => ?_) (fun c => ?_)
    · have c' : n.pl = 0 := by omega
      have := q H' e12
      unfold NS.body bodyOf at this
      rw [if_pos c'] at this
      rw [c', Nat.pow_zero, Nat.div_one] at hF
      rw [hF] at this
      exact this
    · have hl2 := figs_len hb1 (show 1 ≤ n.pl by omega) hw2
      refine ⟨by omega, k % n.base ^ n.pl, n.base, by rw [Int.natCast_emod]; rfl, hb1, hb2, by omega, ?_⟩
      refine ⟨_, _, rfl, rfl, by show _ + 1 ≤ 100000; omega, _, rfl, by omega, 48, rfl, by omega, by omega, ?_⟩
      have er : (((n.pl : Nat) : Int) - (((figs n.base (k % n.base ^ n.pl)).length : Nat) : Int)).toNat = n.pl - (figs n.base (k % n.base ^ n.pl)).length := by omega
      rw [er]
      refine ⟨_, _, rfl, rfl, ?_, _, _, rfl, rfl, ?_, ?_⟩
      · rw [List.length_append, List.length_replicate]
        show _ + 1 + _ ≤ 100000
        omega
      · rw [List.length_append, List.length_append, List.length_replicate]
        show _ + 1 + _ + _ ≤ 100000
        omega
      · have := q H' e12
        unfold NS.body bodyOf fixF at this
        rw [if_neg (by omega), hF] at this
        have ea : grp n.size n.mark F ++ n.point :: (List.replicate (n.pl - (figs n.base (k % n.base ^ n.pl)).length) 48 ++ figs n.base (k % n.base ^ n.pl)) = grp n.size n.mark F ++ [n.point] ++ List.replicate (n.pl - (figs n.base (k % n.base ^ n.pl)).length) 48 ++ figs n.base (k % n.base ^ n.pl) := by
          rw [List.append_assoc, List.append_assoc]
          rfl
        rw [ea] at this
        exact this
theorem ok_L_body {P : Program} {w : World} {K : PySem.W.Frag} {mg : Str → Option Value} {base : Heap} (T : TX w K mg) : Fn P w K mg base CX0 2 "_law_body" (sp_L_body) := by
  obtain ⟨fd, F⟩ := T.d_L_body
  refine ⟨_, fd, A_L_body, T.g_L_body, F.kp, fnD F sc_L_body (fun vs H Q E h => ?_) (fun cdv A outer s H vs Q E hr h => ⟨_, PSs.nox (der_L_body T (ok_L_power T) (ok_L_figures T) hr), rd_L_body T vs H Q E h⟩), F.bindsN fun _ _ _ _ _ _ us hl => match us, hl with | [_, _], _ => rfl⟩
  obtain ⟨_, _, _, rfl, _⟩ := h
  rfl
end
end K45
namespace K45
open PySem PySem.Spec PyProof.Rows L2 F
theorem body_len {n : NS} (ok : n.Ok) {k : Nat} (hk : k < n.base ^ (n.fig + n.pl)) : (n.body k).length ≤ 100 := by
  have hb1 := ok.b1
  have hb2 := ok.b2
  have hf1 := ok.f1
  have hf2 := ok.f2
  have hp6 := ok.p
  have hpos : 0 < n.base ^ n.pl := Nat.pow_pos (by omega)
  have hw1 : k / n.base ^ n.pl < n.base ^ n.fig := Nat.div_lt_of_lt_mul (by rw [← Nat.pow_add, Nat.add_comm]; exact hk)
  have hw2 : k % n.base ^ n.pl < n.base ^ n.pl := Nat.mod_lt _ hpos
  have gl : ∀ j, j < n.base ^ n.fig → (grp n.size n.mark (figs n.base j)).length ≤ 24 := fun j hj => by
    have h1 := figs_len hb1 hf1 hj
    have h2 := (figs_val hb1 hb2 j).2.ne
    have h3 := grp_len n.size n.mark _ h2
    have h4 : marksN (figs n.base j).length n.size ≤ (figs n.base j).length := by
      unfold marksN
      split
      · omega
      · exact Nat.le_trans (Nat.div_le_self _ _) (by omega)
    omega
  unfold NS.body bodyOf
  split
  · rename_i h0
    rw [h0] at hk
    have := gl k hk
    omega
  · have h1 := gl _ hw1
    have h2 := (fixF_ok hb1 hb2 (show 1 ≤ n.pl by omega) hw2).1
    rw [List.length_append, List.length_cons, h2]
    omega
def NS.parts (n : NS) (k : Int) : List Nat × List Nat := ((endT n.sty (decide (k < 0))).1, n.body k.natAbs ++ (endT n.sty (decide (k < 0))).2)
def Spec.filled (s : Spec) (ld r : List Nat) : List Nat := if s.side = sInside then padI s.width s.fill ld r else padT s.width s.fill s.side (ld ++ r)
theorem Spec.Ok.sd {s : Spec} (ok : s.Ok) : s.side ∈ sides4 := by
  have h34 : ∀ x ∈ sides3, x ∈ sides4 := by decide
  cases s with
  | num n => exact NS.Ok.sd ok
  | word n => exact h34 _ (WS.Ok.sd ok)
  | choice n => exact h34 _ (CS.Ok.sd ok)
theorem Spec.Ok.wd {s : Spec} (ok : s.Ok) : s.width ≤ 40 := by
  cases s with
  | num n => exact NS.Ok.wd ok
  | word n => exact WS.Ok.wd ok
  | choice n => exact CS.Ok.wd ok
section
variable {P : Program} {w : World} {K : PySem.W.Frag} {mg : Str → Option Value} {base : Heap}
/-! ### _law_parts -/
def sp_L_parts : Sp := fun vs H Q _ => ∃ (k : Int) (a : Addr) (n : NS), vs = [.int k, .ref a] ∧ SpecAt H a (.num n) ∧ n.Ok ∧ k.natAbs < n.base ^ (n.fig + n.pl) ∧
  ∀ p H', Ex H H' → H' p = some (.tup [.str (S (n.parts k).1), .str (S (n.parts k).2)]) → Q (.ref p) H'
def t_L_parts (P : Program) (w : World) (K : PySem.W.Frag) (mg : Str → Option Value) (base : Heap) : TS := tSeq (tSetK 2 (tCall (sp_L_body) [] E0 (tCons (tCB (rAbs1) (tCons (tV 0) (tNil))) (tCons (tV 1) (tNil))))) (tSeq (tIfS (tAnd (tB1 (tOp (rEq1) (tOp (rIx1 K) (tV 1) (tC (.int 4))) (tC (.str (S [98, 114, 97, 99, 107, 101, 116, 115]))))) (tB1 (tOp (rCmp fun i j => decide (i < j)) (tV 0) (tC (.int 0))))) (tRet (tTup1 (tCons (tC (.str (S [40]))) (tCons (tOp qAdd (tV 2) (tC (.str (S [41])))) (tNil))))) (tNext)) (tSeq (tIfS (tAnd (tB1 (tOp (rEq1) (tOp (rIx1 K) (tV 1) (tC (.int 4))) (tC (.str (S [98, 101, 104, 105, 110, 100]))))) (tB1 (tOp (rCmp fun i j => decide (i < j)) (tV 0) (tC (.int 0))))) (tRet (tTup1 (tCons (tC (.str (S []))) (tCons (tOp qAdd (tV 2) (tC (.str (S [45])))) (tNil))))) (tNext)) (tSeq (tIfS (tB1 (tOp (rCmp fun i j => decide (i < j)) (tV 0) (tC (.int 0)))) (tRet (tTup1 (tCons (tC (.str (S [45]))) (tCons (tV 2) (tNil))))) (tNext)) (tSeq (tIfS (tB1 (tOp (rEq1) (tOp (rIx1 K) (tV 1) (tC (.int 4))) (tC (.str (S [112, 108, 117, 115]))))) (tRet (tTup1 (tCons (tC (.str (S [43]))) (tCons (tV 2) (tNil))))) (tNext)) (tSeq (tIfS (tB1 (tOp (rEq1) (tOp (rIx1 K) (tV 1) (tC (.int 4))) (tC (.str (S [98, 108, 97, 110, 107]))))) (tRet (tTup1 (tCons (tC (.str (S [32]))) (tCons (tV 2) (tNil))))) (tNext)) (tRet (tTup1 (tCons (tC (.str (S []))) (tCons (tV 2) (tNil))))))))))
theorem der_L_parts {P : Program} {w : World} {K : PySem.W.Frag} {mg : Str → Option Value} {base : Heap} (T : TX w K mg) (C_L_body : Fn P w K mg base CX0 2 "_law_body" (sp_L_body)) {f : Addr} {cdv : Value} {A : Around} {outer : List Env} {s : Shared} {H : Hp} {E : XK} (hr : Room 2 (A.deeper (envOfC "_law_parts" (defScope s_L_parts) s.heap.objs.size f cdv))) :
    PSs (cxOf CX0 P w K mg base N_L_parts "_law_parts" (defScope s_L_parts) f cdv A outer s H E).nox (defBody s_L_parts) (t_L_parts P w K mg base) :=
  pss_cons (sSetK (i := 2) sc_L_parts.nd rfl nl_L_parts__law_body_here (fCall C_L_body (hr.mono (by decide)) ng_L_parts__law_body pass0 (aCons (fB cAbs ng_L_parts_abs T.b_abs bb_abs (aCons (fV 0 nm_L_parts__law_steps_here rfl) (pa_nil) rfl) rfl) (aCons (fV 1 nm_L_parts__law_spec_here rfl) (pa_nil) rfl) rfl) rfl) rfl (.inl rfl)) (pss_cons (ps_if (PW.pt (pw_and (tCmp1 (oEq) (fIx (fV 1 nm_L_parts__law_spec_here rfl) (pe_int) (fun _ _ => rfl)) (fS rfl) (nomark _)) (pw_and1 (tCmp1 (oLt) (fV 0 nm_L_parts__law_steps_here rfl) (pe_int) (nomark _))))) (pss_one (ps_ret (fTup (aCons (fS rfl) (aCons (pe_op oAdd (fV 2 nm_L_parts__law_body_here rfl) (fS rfl)) (pa_nil) rfl) rfl)))) (pss_nil)) (pss_cons (ps_if (PW.pt (pw_and (tCmp1 (oEq) (fIx (fV 1 nm_L_parts__law_spec_here rfl) (pe_int) (fun _ _ => rfl)) (fS rfl) (nomark _)) (pw_and1 (tCmp1 (oLt) (fV 0 nm_L_parts__law_steps_here rfl) (pe_int) (nomark _))))) (pss_one (ps_ret (fTup (aCons (fS rfl) (aCons (pe_op oAdd (fV 2 nm_L_parts__law_body_here rfl) (fS rfl)) (pa_nil) rfl) rfl)))) (pss_nil)) (pss_cons (ps_if (tCmp1 (oLt) (fV 0 nm_L_parts__law_steps_here rfl) (pe_int) (nomark _)) (pss_one (ps_ret (fTup (aCons (fS rfl) (aCons (fV 2 nm_L_parts__law_body_here rfl) (pa_nil) rfl) rfl)))) (pss_nil)) (pss_cons (ps_if (tCmp1 (oEq) (fIx (fV 1 nm_L_parts__law_spec_here rfl) (pe_int) (fun _ _ => rfl)) (fS rfl) (nomark _)) (pss_one (ps_ret (fTup (aCons (fS rfl) (aCons (fV 2 nm_L_parts__law_body_here rfl) (pa_nil) rfl) rfl)))) (pss_nil)) (pss_cons (ps_if (tCmp1 (oEq) (fIx (fV 1 nm_L_parts__law_spec_here rfl) (pe_int) (fun _ _ => rfl)) (fS rfl) (nomark _)) (pss_one (ps_ret (fTup (aCons (fS rfl) (aCons (fV 2 nm_L_parts__law_body_here rfl) (pa_nil) rfl) rfl)))) (pss_nil)) (pss_one (ps_ret (fTup (aCons (fS rfl) (aCons (fV 2 nm_L_parts__law_body_here rfl) (pa_nil) rfl) rfl)))))))))
theorem rd_L_parts (T : TX w K mg) (vs : List V) (H : Hp) (Q : VK) (E : XK) (h : sp_L_parts vs H Q E) : t_L_parts P w K mg base { nx := fun _ H' => Q .non H', rt := Q } (start N_L_parts vs) H := by
  obtain ⟨k, a, n, rfl, hS, ok, hk, q⟩ := h
  show t_L_parts P w K mg base _ [some (.int k), some (.ref a), none] H
  have hbl := body_len ok hk
  refine ⟨k.natAbs, a, n, rfl, hS, ok, hk, fun H1 e1 => ?_⟩
  have t : SqT K H1 a n.vals := SqT.of (e1 _ _ hS)
  have fin : ∀ (ld r : List Nat), endT n.sty (decide (k < 0)) = (ld, r) → ∀ p H', Ex H1 H' → H' p = some (.tup [.str (S ld), .str (S (n.body k.natAbs ++ r))]) → Q (.ref p) H' := fun ld r he p H' e2 l => by
    refine q p H' (Ex.trans e1 e2) ?_
    unfold NS.parts
    rw [he]
    exact l
  have fin0 : ∀ (ld : List Nat), endT n.sty (decide (k < 0)) = (ld, []) → ∀ p H', Ex H1 H' → H' p = some (.tup [.str (S ld), .str (S (n.body k.natAbs))]) → Q (.ref p) H' := fun ld he p H' e2 l => by
    refine fin ld [] he p H' e2 ?_
    rw [List.append_nil]
    exact l
  dsimp only [setK]
  refine ifP (p := S n.sty = S [98, 114, 97, 99, 107, 101, 116, 115] ∧ k < 0) (fun Q' q' => andP q' (fun Q' q' => ⟨_, _, .inr t, atI_nat (j := 4) rfl, q'⟩) fun _ Q' q' => q') (fun c => ?_) (fun c => ?_)
  · refine ⟨_, _, rfl, rfl, by show _ + 1 ≤ 100000; omega, l100 rfl, fun p H2 _ e2 l2 => fin [40] [41] ?_ p H2 e2 l2⟩
    rw [S_inj c.1, decide_eq_true c.2]
    rfl
  dsimp only [tNext, tSeq]
  refine ifP (p := S n.sty = S [98, 101, 104, 105, 110, 100] ∧ k < 0) (fun Q' q' => andP q' (fun Q' q' => ⟨_, _, .inr t, atI_nat (j := 4) rfl, q'⟩) fun _ Q' q' => q') (fun c2 => ?_) (fun c2 => ?_)
  · refine ⟨_, _, rfl, rfl, by show _ + 1 ≤ 100000; omega, l100 rfl, fun p H2 _ e2 l2 => fin [] [45] ?_ p H2 e2 l2⟩
    rw [S_inj c2.1, decide_eq_true c2.2]
    rfl
  refine iteD (fun c3 => ?_) (fun c3 => ?_)
  · refine ⟨l100 rfl, fun p H2 _ e2 l2 => fin0 [45] ?_ p H2 e2 l2⟩
    rw [decide_eq_true c3]
    unfold endT
    rw [if_pos rfl, if_neg (fun z => c ⟨by rw [z], c3⟩), if_neg (fun z => c2 ⟨by rw [z], c3⟩)]
  refine ⟨_, _, .inr t, atI_nat (j := 4) rfl, ?_⟩
  refine iteD (fun c4 => ?_) (fun c4 => ?_)
  · refine ⟨l100 rfl, fun p H2 _ e2 l2 => fin0 [43] ?_ p H2 e2 l2⟩
    rw [decide_eq_false c3, S_inj c4]
    rfl
  refine ⟨_, _, .inr t, atI_nat (j := 4) rfl, ?_⟩
  refine iteD (fun c5 => ?_) (fun c5 => ?_)
  · refine ⟨l100 rfl, fun p H2 _ e2 l2 => fin0 [32] ?_ p H2 e2 l2⟩
    rw [decide_eq_false c3, S_inj c5]
    rfl
  · refine ⟨l100 rfl, fun p H2 _ e2 l2 => fin0 [] ?_ p H2 e2 l2⟩
    rw [decide_eq_false c3]
    unfold endT
    rw [if_neg (by decide), if_neg (fun z => c4 (by show S n.sty = _; rw [z])), if_neg (fun z => c5 (by show S n.sty = _; rw [z]))]
theorem ok_L_parts {P : Program} {w : World} {K : PySem.W.Frag} {mg : Str → Option Value} {base : Heap} (T : TX w K mg) : Fn P w K mg base CX0 3 "_law_parts" (sp_L_parts) := by
  obtain ⟨fd, F⟩ := T.d_L_parts
  refine ⟨_, fd, A_L_parts, T.g_L_parts, F.kp, fnD F sc_L_parts (fun vs H Q E h => ?_) (fun cdv A outer s H vs Q E hr h => ⟨_, PSs.nox (der_L_parts T (ok_L_body T) hr), rd_L_parts T vs H Q E h⟩), F.bindsN fun _ _ _ _ _ _ us hl => match us, hl with | [_, _], _ => rfl⟩
  obtain ⟨_, _, _, rfl, _⟩ := h
  rfl
/-! ### _law_filled -/
def sp_L_filled : Sp := fun vs H Q _ => ∃ (a : Addr) (s : Spec) (ld r : List Nat), vs = [.str (S ld), .str (S r), .ref a] ∧ SpecAt H a s ∧ s.Ok ∧ ld.length ≤ 10 ∧ r.length ≤ 300 ∧ ∀ H', Ex H H' → Q (.str (S (s.filled ld r))) H'
def t_L_filled (P : Program) (w : World) (K : PySem.W.Frag) (mg : Str → Option Value) (base : Heap) : TS := tSeq (tPar3 3 4 5 (tCons (tOp (rIx1 K) (tV 2) (tUn qNeg (tC (.int 4)))) (tCons (tOp (rIx1 K) (tV 2) (tUn qNeg (tC (.int 3)))) (tCons (tOp (rIx1 K) (tV 2) (tUn qNeg (tC (.int 2)))) (tNil))))) (tSeq (tSetK 6 (tCB (rMax1) (tCons (tC (.int 0)) (tCons (tOp qSub (tOp qSub (tV 3) (tCB (rLen1 K) (tCons (tV 0) (tNil)))) (tCB (rLen1 K) (tCons (tV 1) (tNil)))) (tNil))))) (tSeq (tIfS (tB1 (tOp (rEq1) (tV 5) (tC (.str (S [105, 110, 115, 105, 100, 101]))))) (tRet (tOp qAdd (tOp qAdd (tV 0) (tOp qMul (tV 4) (tV 6))) (tV 1))) (tNext)) (tSeq (tSetK 7 (tOp (rIx1 K) (tLst1 (tCons (tC (.int 0)) (tCons (tV 6) (tCons (tOp qDiv (tV 6) (tC (.int 2))) (tNil))))) (tLm (rIndex1 K) (tLst1 (tCons (tC (.str (S [108, 101, 102, 116]))) (tCons (tC (.str (S [114, 105, 103, 104, 116]))) (tCons (tC (.str (S [109, 105, 100, 100, 108, 101]))) (tNil))))) (tCons (tV 5) (tNil))))) (tRet (tOp qAdd (tOp qAdd (tOp qAdd (tOp qMul (tV 4) (tV 7)) (tV 0)) (tV 1)) (tOp qMul (tV 4) (tOp qSub (tV 6) (tV 7))))))))
theorem der_L_filled {P : Program} {w : World} {K : PySem.W.Frag} {mg : Str → Option Value} {base : Heap} (T : TX w K mg) {f : Addr} {cdv : Value} {A : Around} {outer : List Env} {s : Shared} {H : Hp} {E : XK} (hr : Room 1 (A.deeper (envOfC "_law_filled" (defScope s_L_filled) s.heap.objs.size f cdv))) :
    PSs (cxOf CX0 P w K mg base N_L_filled "_law_filled" (defScope s_L_filled) f cdv A outer s H E).nox (defBody s_L_filled) (t_L_filled P w K mg base) :=
  pss_cons (ps_par3 (i := 3) (j := 4) (l := 5) rfl sc_L_filled.nd rfl rfl rfl (by decide) (by decide) (by decide) lo_L_filled__law_width lo_L_filled__law_fill lo_L_filled__law_side (aCons (fIx (fV 2 nm_L_filled__law_spec_here rfl) (pe_un oNeg (pe_int)) (fun _ _ => rfl)) (aCons (fIx (fV 2 nm_L_filled__law_spec_here rfl) (pe_un oNeg (pe_int)) (fun _ _ => rfl)) (aCons (fIx (fV 2 nm_L_filled__law_spec_here rfl) (pe_un oNeg (pe_int)) (fun _ _ => rfl)) (pa_nil) rfl) rfl) rfl) (by rfl)) (pss_cons (sSetK (i := 6) sc_L_filled.nd rfl nl_L_filled__law_lacks (fB (cMax rfl) ng_L_filled_max T.b_max bb_max (aCons (pe_int) (aCons (pe_op oSub (pe_op oSub (fV 3 nm_L_filled__law_width rfl) (fB cLen ng_L_filled_len T.b_len bb_len (aCons (fV 0 nm_L_filled__law_lead rfl) (pa_nil) rfl) rfl)) (fB cLen ng_L_filled_len T.b_len bb_len (aCons (fV 1 nm_L_filled__law_rest rfl) (pa_nil) rfl) rfl)) (pa_nil) rfl) rfl) rfl) rfl (.inl rfl)) (pss_cons (ps_if (tCmp1 (oEq) (fV 5 nm_L_filled__law_side rfl) (fS rfl) (nomark _)) (pss_one (ps_ret (pe_op oAdd (pe_op oAdd (fV 0 nm_L_filled__law_lead rfl) (pe_op oMul (fV 4 nm_L_filled__law_fill rfl) (fV 6 nm_L_filled__law_lacks rfl))) (fV 1 nm_L_filled__law_rest rfl)))) (pss_nil)) (pss_cons (sSetK (i := 7) sc_L_filled.nd rfl nl_L_filled__law_ahead_here (fIx (fLst (aCons (pe_int) (aCons (fV 6 nm_L_filled__law_lacks rfl) (aCons (pe_op oDiv (fV 6 nm_L_filled__law_lacks rfl) (pe_int)) (pa_nil) rfl) rfl) rfl)) (fLm PySem.F.slot_list_index PySem.F.type_list_index mIndex (fLst (aCons (fS rfl) (aCons (fS rfl) (aCons (fS rfl) (pa_nil) rfl) rfl) rfl)) (aCons (fV 5 nm_L_filled__law_side rfl) (pa_nil) rfl) rfl rfl (by decide) rfl) (fun _ _ => rfl)) rfl (.inl rfl)) (pss_one (ps_ret (pe_op oAdd (pe_op oAdd (pe_op oAdd (pe_op oMul (fV 4 nm_L_filled__law_fill rfl) (fV 7 nm_L_filled__law_ahead_here rfl)) (fV 0 nm_L_filled__law_lead rfl)) (fV 1 nm_L_filled__law_rest rfl)) (pe_op oMul (fV 4 nm_L_filled__law_fill rfl) (pe_op oSub (fV 6 nm_L_filled__law_lacks rfl) (fV 7 nm_L_filled__law_ahead_here rfl)))))))))
theorem rd_L_filled (T : TX w K mg) (vs : List V) (H : Hp) (Q : VK) (E : XK) (h : sp_L_filled vs H Q E) : t_L_filled P w K mg base { nx := fun _ H' => Q .non H', rt := Q } (start N_L_filled vs) H := by
  obtain ⟨a, s, ld, r, rfl, hS, ok, hld, hr, q⟩ := h
  obtain ⟨xs, hx, k0, k4, k3, k2, k1⟩ := hS.com
  have hwd := ok.wd
  have hsd := ok.sd
  have t : SqT K H a xs := SqT.of hx
  refine ⟨_, _, .inr t, k4, _, _, .inr t, k3, _, _, .inr t, k2, _, _, _, rfl, ?_⟩
  refine ⟨ld, rfl, by omega, r, rfl, by omega, ?_⟩
  have em : (max 0 (((s.width : Nat) : Int) - ((ld.length : Nat) : Int) - ((r.length : Nat) : Int))).toNat = s.width - (ld.length + r.length) := by omega
  refine iteD (fun c => ?_) (fun c => ?_)
  · have c' : s.side = sInside := S_inj c
    refine ⟨s.fill, rfl, by omega, by omega, ?_⟩
    rw [em]
    refine ⟨_, _, rfl, rfl, ?_, _, _, rfl, rfl, ?_, ?_⟩
    · rw [List.length_replicate]; omega
    · rw [List.length_append, List.length_replicate]; omega
    · have := q H (Ex.refl H)
      unfold Spec.filled padI at this
      rw [if_pos c'] at this
      exact this
  · have c' : ¬ s.side = sInside := fun z => c (by show S s.side = S sInside; rw [z])
    obtain ⟨i, hA, v, hv, hi⟩ : ∃ i : Nat, sides3[i]? = some s.side ∧ ∃ v : Nat, [V.int 0, V.int (max 0 (((s.width : Nat) : Int) - ((ld.length : Nat) : Int) - ((r.length : Nat) : Int))), V.int (max 0 (((s.width : Nat) : Int) - ((ld.length : Nat) : Int) - ((r.length : Nat) : Int)) / 2)][i]? = some (.int (v : Nat)) ∧ sides3.idxOf s.side = i ∧ v = padA s.width s.side (ld ++ r).length := by
      have hm : s.side = sRight ∨ s.side = sLeft ∨ s.side = sMiddle := by
        have h4 : s.side = sRight ∨ s.side = sLeft ∨ s.side = sMiddle ∨ s.side = sInside := by simpa [sides4] using hsd
        rcases h4 with h | h | h | h
        · exact .inl h
        · exact .inr (.inl h)
        · exact .inr (.inr h)
        · exact absurd h c'
      rcases hm with h | h | h
      · refine ⟨1, by rw [h]; rfl, padA s.width s.side (ld ++ r).length, ?_, by rw [h]; decide, rfl⟩
        rw [h]
        unfold padA
        rw [if_neg (by decide), if_pos rfl, List.length_append]
        show some (V.int _) = some (V.int _)
        congr 2
        omega
      · refine ⟨0, by rw [h]; rfl, padA s.width s.side (ld ++ r).length, ?_, by rw [h]; decide, rfl⟩
        rw [h]
        rfl
      · refine ⟨2, by rw [h]; rfl, padA s.width s.side (ld ++ r).length, ?_, by rw [h]; decide, rfl⟩
        rw [h]
        unfold padA
        rw [if_neg (by decide), if_neg (by decide), List.length_append]
        show some (V.int _) = some (V.int _)
        congr 2
        omega
    have hle := padA_le s.width s.side (ld ++ r).length
    refine ⟨⟨by decide, by decide⟩, l100 rfl, fun p1 H1 h1 e1 l1 => ⟨l100 rfl, fun p2 H2 h2 e2 l2 => ⟨⟨_, l2⟩, p2, sides3, s.side, rfl, rfl, SqL.of l2, List.mem_of_getElem? hA, _, .int (v : Nat), .inl (SqL.of (e2 _ _ l1)), ?_, ?_⟩⟩⟩
    · rw [hi.1]
      exact atI_nat hv
    rw [List.length_append] at hle
    refine ⟨s.fill, rfl, by omega, by rw [hi.2, List.length_append]; omega, _, _, rfl, rfl, ?_, _, _, rfl, rfl, ?_, ?_⟩
    · rw [List.length_replicate, hi.2, List.length_append]; omega
    · rw [List.length_append, List.length_replicate, hi.2, List.length_append]; omega
    refine ⟨s.fill, rfl, by rw [hi.2, List.length_append]; omega, by rw [hi.2, List.length_append]; omega, _, _, rfl, rfl, ?_, ?_⟩
    · rw [List.length_append, List.length_append, List.length_replicate, List.length_replicate, hi.2, List.length_append]; omega
    · have := q H2 (Ex.trans e1 e2)
      unfold Spec.filled padT at this
      rw [if_neg c', ← hi.2] at this
      have ev : ((v : Nat) : Int).toNat = v := by omega
      have ew : (max 0 (((s.width : Nat) : Int) - ((ld.length : Nat) : Int) - ((r.length : Nat) : Int)) - ((v : Nat) : Int)).toNat = s.width - (ld ++ r).length - v := by rw [List.length_append]; omega
      rw [ev, ew]
      rw [← List.append_assoc] at this
      exact this
theorem ok_L_filled {P : Program} {w : World} {K : PySem.W.Frag} {mg : Str → Option Value} {base : Heap} (T : TX w K mg) : Fn P w K mg base CX0 2 "_law_filled" (sp_L_filled) := by
  obtain ⟨fd, F⟩ := T.d_L_filled
  refine ⟨_, fd, A_L_filled, T.g_L_filled, F.kp, fnD F sc_L_filled (fun vs H Q E h => ?_) (fun cdv A outer s H vs Q E hr h => ⟨_, PSs.nox (der_L_filled T  hr), rd_L_filled T vs H Q E h⟩), F.bindsN fun _ _ _ _ _ _ us hl => match us, hl with | [_, _, _], _ => rfl⟩
  obtain ⟨_, _, _, _, rfl, _⟩ := h
  rfl
/-! ### values, their parts, their texts -/
theorem dat_back {k s : Int} (hs : 0 < s) : frT k s * s / frB k s = k ∧ 0 < frB k s ∧ frB k s ≤ s ∧ (frT k s).natAbs ≤ k.natAbs := by
  have hg : 0 < Int.gcd k s := Int.gcd_pos_of_ne_zero_right _ (by omega)
  obtain ⟨a, ha⟩ := Int.gcd_dvd_left k s
  obtain ⟨b, hb⟩ := Int.gcd_dvd_right k s
  have e1 : frT k s = a := by
    unfold frT
    exact Int.ediv_eq_of_eq_mul_right (by omega) ha
  have e2 : frB k s = b := by
    unfold frB
    exact Int.ediv_eq_of_eq_mul_right (by omega) hb
  rw [e1, e2]
  have hg2 : 0 < (Int.gcd k s : Int) := by omega
  generalize (Int.gcd k s : Int) = g at ha hb hg2
  have hbp : 0 < b := by
    rcases Int.lt_trichotomy b 0 with c | c | c
    · have : g * b < 0 := Int.mul_neg_of_pos_of_neg hg2 c
      omega
    · subst c
      omega
    · exact c
  refine ⟨?_, hbp, ?_, ?_⟩
  · rw [hb, show a * (g * b) = a * g * b by rw [Int.mul_assoc], Int.mul_ediv_cancel _ (by omega), ha, Int.mul_comm]
  · have : 1 * b ≤ g * b := Int.mul_le_mul_of_nonneg_right (by omega) (by omega)
    omega
  · rw [ha, Int.natAbs_mul]
    have : 1 ≤ g.natAbs := by omega
    exact Nat.le_mul_of_pos_left _ this
end
end K45
namespace K45
open PySem PySem.Spec PyProof.Rows L2 F
def NS.B (n : NS) : Nat := n.base ^ (n.fig + n.pl)
theorem NS.Ok.Spos {n : NS} (ok : n.Ok) : 0 < n.S ∧ n.S < 2 ^ 200 := by
  have h1 : 0 < n.base ^ n.pl := Nat.pow_pos (by have := ok.b1; omega)
  have h2 := pow_bdI (b := n.base) (n := n.pl) ok.b2 (by have := ok.p; omega)
  unfold NS.S
  exact ⟨by omega, h2⟩
theorem NS.Ok.Bbd {n : NS} (ok : n.Ok) : n.B < 2 ^ 80 := by
  have h1 : n.base ^ (n.fig + n.pl) ≤ 16 ^ (n.fig + n.pl) := Nat.pow_le_pow_left ok.b2 _
  have h2 : 16 ^ (n.fig + n.pl) ≤ 16 ^ 18 := Nat.pow_le_pow_right (by decide) (by have := ok.f2; have := ok.p; omega)
  have h3 : 16 ^ 18 < 2 ^ 80 := by decide
  unfold NS.B
  omega
def Spec.partsOf : Spec → Dat → List Nat × List Nat
  | .num n, .num a b => n.parts (a * n.S / b)
  | _, .txt l => ([], l)
  | _, _ => ([], [])
theorem parts_dat {n : NS} (ok : n.Ok) (k : Int) : (Spec.num n).partsOf (n.dat k) = n.parts k := by
  show n.parts (frT k n.S * n.S / frB k n.S) = _
  rw [(dat_back ok.Spos.1).1]
def Spec.textOf (s : Spec) (d : Dat) : Option (List Nat) :=
  if (s.strict && decide (s.width < (s.partsOf d).1.length + (s.partsOf d).2.length)) = true then none else some (s.filled (s.partsOf d).1 (s.partsOf d).2)
def optV : Option (List Nat) → V
  | none => .non
  | some t => .str (S t)
def IsVal : Spec → Dat → Prop
  | .num n, d => ∃ k : Int, k.natAbs < n.B ∧ d = n.dat k
  | .word n, d => ∃ x, d = .txt x ∧ n.isW x
  | .choice n, d => ∃ x, d = .txt x ∧ x ∈ n.names
/-- what may be asked after -/
def Cand : Spec → Dat → Prop
  | .num n, d => ∃ k : Int, k.natAbs < 2 ^ 190 ∧ d = n.dat k
  | _, d => ∃ x, d = .txt x ∧ x.length ≤ 200 ∧ ∀ c ∈ x, c < 1000
def Spec.isVal : Spec → Dat → Bool
  | .num n, .num a b => decide ((a * n.S / b).natAbs < n.B)
  | .word n, .txt x => decide (n.isW x)
  | .choice n, .txt x => decide (x ∈ n.names)
  | _, _ => false
theorem isVal_iff {s : Spec} (ok : s.Ok) {d : Dat} (h : s.isVal d = true) (c : Cand s d) : IsVal s d := by
  cases s with
  | num n =>
    have ok' : n.Ok := ok
    obtain ⟨k, _, rfl⟩ := c
    have h2 : (frT k n.S * n.S / frB k n.S).natAbs < n.B := of_decide_eq_true h
    rw [(dat_back ok'.Spos.1).1] at h2
    exact ⟨k, h2, rfl⟩
  | word n =>
    obtain ⟨x, rfl, _⟩ := c
    exact ⟨x, rfl, of_decide_eq_true h⟩
  | choice n =>
    obtain ⟨x, rfl, _⟩ := c
    exact ⟨x, rfl, of_decide_eq_true h⟩
theorem isVal_of {s : Spec} (ok : s.Ok) {d : Dat} (h : IsVal s d) : s.isVal d = true := by
  cases s with
  | num n =>
    have ok' : n.Ok := ok
    obtain ⟨k, hk, rfl⟩ := h
    have h2 : (frT k n.S * n.S / frB k n.S).natAbs < n.B := by rw [(dat_back ok'.Spos.1).1]; exact hk
    exact decide_eq_true h2
  | word n =>
    obtain ⟨x, rfl, hx⟩ := h
    exact decide_eq_true hx
  | choice n =>
    obtain ⟨x, rfl, hx⟩ := h
    exact decide_eq_true hx
theorem isVal_cand {s : Spec} (ok : s.Ok) {d : Dat} (h : IsVal s d) : Cand s d := by
  cases s with
  | num n =>
    have ok' : n.Ok := ok
    obtain ⟨k, hk, rfl⟩ := h
    have h3 : (2 : Nat) ^ 80 ≤ 2 ^ 190 := by decide
    exact ⟨k, by have := ok'.Bbd; omega, rfl⟩
  | word n =>
    have ok' : n.Ok := ok
    obtain ⟨x, rfl, hx⟩ := h
    exact ⟨x, rfl, by have := hx.1.2; have := ok'.l2; omega, fun c hc => ok'.sb c (hx.2 c hc)⟩
  | choice n =>
    have ok' : n.Ok := ok
    obtain ⟨x, rfl, hx⟩ := h
    exact ⟨x, rfl, by have := (ok'.l1 x hx).2; omega, ok'.nb x hx⟩
theorem parts_len {s : Spec} (ok : s.Ok) {d : Dat} (h : IsVal s d) : (s.partsOf d).1.length ≤ 1 ∧ (s.partsOf d).2.length ≤ 110 := by
  cases s with
  | num n =>
    have ok' : n.Ok := ok
    obtain ⟨k, hk, rfl⟩ := h
    rw [parts_dat ok']
    have h1 := endT_len n.sty ok'.st (decide (k < 0))
    have h2 := body_len ok' hk
    unfold NS.parts
    refine ⟨h1.1, ?_⟩
    rw [List.length_append]
    omega
  | word n =>
    have ok' : n.Ok := ok
    obtain ⟨x, rfl, hx⟩ := h
    exact ⟨by show 0 ≤ 1; omega, by show x.length ≤ 110; have := hx.1.2; have := ok'.l2; omega⟩
  | choice n =>
    have ok' : n.Ok := ok
    obtain ⟨x, rfl, hx⟩ := h
    exact ⟨by show 0 ≤ 1; omega, by show x.length ≤ 110; have := (ok'.l1 x hx).2; omega⟩
section
variable {P : Program} {w : World} {K : PySem.W.Frag} {mg : Str → Option Value} {base : Heap}
theorem mulOk {a b : Int} (ha : a.natAbs < 2 ^ 200) (hb : b.natAbs < 2 ^ 200) : CMul a b ∨ CMulW a b := .inr (wide_mul (a := 200) (b := 200) ha hb (by decide) (by decide) (by decide))
/-! ### _law_parts_of -/
def sp_L_parts_of : Sp := fun vs H Q _ => ∃ (a : Addr) (s : Spec) (v : V) (d : Dat), vs = [v, .ref a] ∧ SpecAt H a s ∧ s.Ok ∧ VAt H v d ∧ IsVal s d ∧
  ∀ p H', Ex H H' → H' p = some (.tup [.str (S (s.partsOf d).1), .str (S (s.partsOf d).2)]) → Q (.ref p) H'
def t_L_parts_of (P : Program) (w : World) (K : PySem.W.Frag) (mg : Str → Option Value) (base : Heap) : TS := tSeq (tIfS (tB1 (tOp (rEq1) (tOp (rIx1 K) (tV 1) (tC (.int 0))) (tC (.str (S [110, 117, 109, 98, 101, 114]))))) (tRet (tCall (sp_L_parts) [] E0 (tCons (tOp qDiv (tOp qMul (tOp (rIx1 K) (tV 0) (tC (.int 0))) (tCall (sp_L_power) [] E0 (tCons (tOp (rIx1 K) (tV 1) (tC (.int 3))) (tCons (tOp (rIx1 K) (tV 1) (tC (.int 2))) (tNil))))) (tOp (rIx1 K) (tV 0) (tC (.int 1)))) (tCons (tV 1) (tNil))))) (tNext)) (tRet (tTup1 (tCons (tC (.str (S []))) (tCons (tV 0) (tNil)))))
theorem der_L_parts_of {P : Program} {w : World} {K : PySem.W.Frag} {mg : Str → Option Value} {base : Heap} (T : TX w K mg) (C_L_parts : Fn P w K mg base CX0 3 "_law_parts" (sp_L_parts)) (C_L_power : Fn P w K mg base CX0 1 "_law_power" (sp_L_power)) {f : Addr} {cdv : Value} {A : Around} {outer : List Env} {s : Shared} {H : Hp} {E : XK} (hr : Room 3 (A.deeper (envOfC "_law_parts_of" (defScope s_L_parts_of) s.heap.objs.size f cdv))) :
    PSs (cxOf CX0 P w K mg base N_L_parts_of "_law_parts_of" (defScope s_L_parts_of) f cdv A outer s H E).nox (defBody s_L_parts_of) (t_L_parts_of P w K mg base) :=
  pss_cons (ps_if (tCmp1 (oEq) (fIx (fV 1 nm_L_parts_of__law_spec_here rfl) (pe_int) (fun _ _ => rfl)) (fS rfl) (nomark _)) (pss_one (ps_ret (fCall C_L_parts (hr.mono (by decide)) ng_L_parts_of__law_parts pass0 (aCons (pe_op oDiv (pe_op oMul (fIx (fV 0 nm_L_parts_of__law_value_here rfl) (pe_int) (fun _ _ => rfl)) (fCall C_L_power (hr.mono (by decide)) ng_L_parts_of__law_power pass0 (aCons (fIx (fV 1 nm_L_parts_of__law_spec_here rfl) (pe_int) (fun _ _ => rfl)) (aCons (fIx (fV 1 nm_L_parts_of__law_spec_here rfl) (pe_int) (fun _ _ => rfl)) (pa_nil) rfl) rfl) rfl)) (fIx (fV 0 nm_L_parts_of__law_value_here rfl) (pe_int) (fun _ _ => rfl))) (aCons (fV 1 nm_L_parts_of__law_spec_here rfl) (pa_nil) rfl) rfl) rfl))) (pss_nil)) (pss_one (ps_ret (fTup (aCons (fS rfl) (aCons (fV 0 nm_L_parts_of__law_value_here rfl) (pa_nil) rfl) rfl))))
theorem rd_L_parts_of (T : TX w K mg) (vs : List V) (H : Hp) (Q : VK) (E : XK) (h : sp_L_parts_of vs H Q E) : t_L_parts_of P w K mg base { nx := fun _ H' => Q .non H', rt := Q } (start N_L_parts_of vs) H := by
  obtain ⟨a, s, v, d, rfl, hS, ok, hv, hd, q⟩ := h
  obtain ⟨xs, hx, k0, _⟩ := hS.com
  refine ⟨xs, _, .inr (SqT.of hx), k0, ?_⟩
  cases s with
  | num n =>
    have ok' : n.Ok := ok
    obtain ⟨k, hk, rfl⟩ := hd
    obtain ⟨p, rfl, hp⟩ := hv
    obtain ⟨b1, b2, b3, b4⟩ := dat_back (k := k) ok'.Spos.1
    have hs2 := ok'.Spos
    have hB := ok'.Bbd
    have t : SqT K H a n.vals := SqT.of hS
    have tp : SqT K H p _ := SqT.of hp
    have g2 : (2 : Nat) ^ 80 < 2 ^ 200 := by decide
    refine ⟨_, _, .inr tp, at0, _, _, .inr t, atI_nat (j := 3) rfl, _, _, .inr t, at2, n.base, n.pl, rfl, ok'.b2, by have := ok'.p; omega, ?_⟩
    refine ⟨mulOk (by omega) (by have e : (n.S).natAbs < 2 ^ 200 := (by omega); exact e), _, _, .inr tp, at1, ?_⟩
    refine ⟨wide_div (b := 200) b2 (by omega) (by decide) (by decide), ?_⟩
    refine ⟨_, a, n, rfl, hS, ok', by rw [show (frT k n.S * ((n.base ^ n.pl : Nat) : Int) / frB k n.S) = k from b1]; exact hk, fun q1 H1 e1 l1 => q q1 H1 e1 l1⟩
  | word n =>
    obtain ⟨x, rfl, hx2⟩ := hd
    obtain rfl : v = .str (S x) := hv
    exact ⟨l100 rfl, fun p H1 _ e1 l1 => q p H1 e1 l1⟩
  | choice n =>
    obtain ⟨x, rfl, hx2⟩ := hd
    obtain rfl : v = .str (S x) := hv
    exact ⟨l100 rfl, fun p H1 _ e1 l1 => q p H1 e1 l1⟩
theorem ok_L_parts_of {P : Program} {w : World} {K : PySem.W.Frag} {mg : Str → Option Value} {base : Heap} (T : TX w K mg) : Fn P w K mg base CX0 4 "_law_parts_of" (sp_L_parts_of) := by
  obtain ⟨fd, F⟩ := T.d_L_parts_of
  refine ⟨_, fd, A_L_parts_of, T.g_L_parts_of, F.kp, fnD F sc_L_parts_of (fun vs H Q E h => ?_) (fun cdv A outer s H vs Q E hr h => ⟨_, PSs.nox (der_L_parts_of T (ok_L_parts T) (ok_L_power T) hr), rd_L_parts_of T vs H Q E h⟩), F.bindsN fun _ _ _ _ _ _ us hl => match us, hl with | [_, _], _ => rfl⟩
  obtain ⟨_, _, _, _, rfl, _⟩ := h
  rfl
/-! ### _law_text -/
def sp_L_text : Sp := fun vs H Q _ => ∃ (a : Addr) (s : Spec) (v : V) (d : Dat), vs = [v, .ref a] ∧ SpecAt H a s ∧ s.Ok ∧ VAt H v d ∧ IsVal s d ∧ ∀ H', Ex H H' → Q (optV (s.textOf d)) H'
def t_L_text (P : Program) (w : World) (K : PySem.W.Frag) (mg : Str → Option Value) (base : Heap) : TS := tSeq (tAsg (tCall (sp_L_parts_of) [] E0 (tCons (tV 0) (tCons (tV 1) (tNil)))) (gTup K 2 (gCons (gK 2) (gCons (gK 3) (gNil))))) (tSeq (tIfS (tAnd (tB1 (tOp (rIx1 K) (tV 1) (tUn qNeg (tC (.int 1))))) (tB1 (tOp (rCmp fun i j => decide (j < i)) (tOp qAdd (tCB (rLen1 K) (tCons (tV 2) (tNil))) (tCB (rLen1 K) (tCons (tV 3) (tNil)))) (tOp (rIx1 K) (tV 1) (tUn qNeg (tC (.int 4))))))) (tRet (tC .non)) (tNext)) (tRet (tCall (sp_L_filled) [] E0 (tCons (tV 2) (tCons (tV 3) (tCons (tV 1) (tNil)))))))
theorem der_L_text {P : Program} {w : World} {K : PySem.W.Frag} {mg : Str → Option Value} {base : Heap} (T : TX w K mg) (C_L_parts_of : Fn P w K mg base CX0 4 "_law_parts_of" (sp_L_parts_of)) (C_L_filled : Fn P w K mg base CX0 2 "_law_filled" (sp_L_filled)) {f : Addr} {cdv : Value} {A : Around} {outer : List Env} {s : Shared} {H : Hp} {E : XK} (hr : Room 4 (A.deeper (envOfC "_law_text" (defScope s_L_text) s.heap.objs.size f cdv))) :
    PSs (cxOf CX0 P w K mg base N_L_text "_law_text" (defScope s_L_text) f cdv A outer s H E).nox (defBody s_L_text) (t_L_text P w K mg base) :=
  pss_cons (ps_asg (fCall C_L_parts_of (hr.mono (by decide)) ng_L_text__law_parts_of pass0 (aCons (fV 0 nm_L_text__law_value_here rfl) (aCons (fV 1 nm_L_text__law_spec_here rfl) (pa_nil) rfl) rfl) rfl) (pg_tup rfl (pgs_cons (gNK sc_L_text.nd rfl nl_L_text__law_lead (.inl rfl)) (pgs_cons (gNK sc_L_text.nd rfl nl_L_text__law_rest (.inl rfl)) (pgs_nil))))) (pss_cons (ps_if (PW.pt (pw_and (tVal1 (fIx (fV 1 nm_L_text__law_spec_here rfl) (pe_un oNeg (pe_int)) (fun _ _ => rfl)) (fun _ => rfl)) (pw_and1 (tCmp1 (oGt) (pe_op oAdd (fB cLen ng_L_text_len T.b_len bb_len (aCons (fV 2 nm_L_text__law_lead rfl) (pa_nil) rfl) rfl) (fB cLen ng_L_text_len T.b_len bb_len (aCons (fV 3 nm_L_text__law_rest rfl) (pa_nil) rfl) rfl)) (fIx (fV 1 nm_L_text__law_spec_here rfl) (pe_un oNeg (pe_int)) (fun _ _ => rfl)) (nomark _))))) (pss_one (ps_ret (pe_non))) (pss_nil)) (pss_one (ps_ret (fCall C_L_filled (hr.mono (by decide)) ng_L_text__law_filled pass0 (aCons (fV 2 nm_L_text__law_lead rfl) (aCons (fV 3 nm_L_text__law_rest rfl) (aCons (fV 1 nm_L_text__law_spec_here rfl) (pa_nil) rfl) rfl) rfl) rfl))))
theorem rd_L_text (T : TX w K mg) (vs : List V) (H : Hp) (Q : VK) (E : XK) (h : sp_L_text vs H Q E) : t_L_text P w K mg base { nx := fun _ H' => Q .non H', rt := Q } (start N_L_text vs) H := by
  obtain ⟨a, s, v, d, rfl, hS, ok, hv, hd, q⟩ := h
  show t_L_text P w K mg base _ [some v, some (.ref a), none, none] H
  have hpl := parts_len ok hd
  refine ⟨a, s, v, d, rfl, hS, ok, hv, hd, fun p H1 e1 l1 => ?_⟩
  refine ⟨p, _, rfl, SqT.of l1, rfl, _, _, rfl, _, _, rfl, rfl, ?_⟩
  obtain ⟨xs, hx, k0, k4, k3, k2, k1⟩ := (Ex.specAt e1 hS).com
  have t : SqT K H1 a xs := SqT.of hx
  generalize hP : s.partsOf d = pr at hpl
  obtain ⟨ld, r⟩ := pr
  have q' := q
  unfold Spec.textOf at q'
  rw [hP] at q'
  dsimp only [setK]
  refine ifP (p := (s.strict && decide (s.width < ld.length + r.length)) = true) (fun Q' q2 => ⟨_, _, .inr t, k1, ?_⟩) (fun c => ?_) (fun c => ?_)
  · cases hst : s.strict with
    | false =>
      rw [hst] at q2
      exact q2
    | true =>
      rw [hst] at q2
      refine ⟨ld, rfl, by show ld.length ≤ 100000; have := hpl.1; simp only at this; omega, r, rfl, by show r.length ≤ 100000; have := hpl.2; simp only at this; omega, _, _, .inr t, k4, ?_⟩
      have e : decide ((true && decide (s.width < ld.length + r.length)) = true) = decide (((s.width : Nat) : Int) < ((ld.length : Nat) : Int) + ((r.length : Nat) : Int)) := by
        rw [Bool.true_and]
        by_cases c : s.width < ld.length + r.length
        · rw [decide_eq_true c, decide_eq_true (by omega : ((s.width : Nat) : Int) < ((ld.length : Nat) : Int) + ((r.length : Nat) : Int))]
          rfl
        · rw [decide_eq_false c, decide_eq_false (by omega : ¬ ((s.width : Nat) : Int) < ((ld.length : Nat) : Int) + ((r.length : Nat) : Int))]
          rfl
      rw [e] at q2
      exact q2
  · have := q' H1 e1
    rw [if_pos c] at this
    exact this
  · refine ⟨a, s, ld, r, rfl, Ex.specAt e1 hS, ok, by have := hpl.1; simp only at this; omega, by have := hpl.2; simp only at this; omega, fun H2 e2 => ?_⟩
    have := q' H2 (Ex.trans e1 e2)
    rw [if_neg c] at this
    exact this
theorem ok_L_text {P : Program} {w : World} {K : PySem.W.Frag} {mg : Str → Option Value} {base : Heap} (T : TX w K mg) : Fn P w K mg base CX0 5 "_law_text" (sp_L_text) := by
  obtain ⟨fd, F⟩ := T.d_L_text
  refine ⟨_, fd, A_L_text, T.g_L_text, F.kp, fnD F sc_L_text (fun vs H Q E h => ?_) (fun cdv A outer s H vs Q E hr h => ⟨_, PSs.nox (der_L_text T (ok_L_parts_of T) (ok_L_filled T) hr), rd_L_text T vs H Q E h⟩), F.bindsN fun _ _ _ _ _ _ us hl => match us, hl with | [_, _], _ => rfl⟩
  obtain ⟨_, _, _, _, rfl, _⟩ := h
  rfl
/-! ### _law_value -/
def sp_L_value : Sp := fun vs H Q _ => ∃ (c : Int) (a : Addr) (s : Spec), vs = [.int c, .ref a] ∧ SpecAt H a s ∧ s.Ok ∧ ∀ v d H', Ex H H' → VAt H' v d → IsVal s d → Q v H'
def t_L_value (P : Program) (w : World) (K : PySem.W.Frag) (mg : Str → Option Value) (base : Heap) : TS := tSeq (tIfS (tB1 (tOp (rEq1) (tOp (rIx1 K) (tV 1) (tC (.int 0))) (tC (.str (S [110, 117, 109, 98, 101, 114]))))) (tSeq (tSetK 2 (tCall (sp_L_power) [] E0 (tCons (tOp (rIx1 K) (tV 1) (tC (.int 3))) (tCons (tOp (rIx1 K) (tV 1) (tC (.int 2))) (tNil))))) (tRet (tCall (sp_L_lowest) [] E0 (tCons (tCall (sp_L_steps) [] E0 (tCons (tV 0) (tCons (tOp qMul (tCall (sp_L_power) [] E0 (tCons (tOp (rIx1 K) (tV 1) (tC (.int 3))) (tCons (tOp (rIx1 K) (tV 1) (tC (.int 1))) (tNil)))) (tV 2)) (tNil)))) (tCons (tV 2) (tNil)))))) (tNext)) (tSeq (tIfS (tB1 (tOp (rEq1) (tOp (rIx1 K) (tV 1) (tC (.int 0))) (tC (.str (S [119, 111, 114, 100]))))) (tRet (tCall (sp_L_word) [] E0 (tCons (tV 0) (tCons (tOp (rIx1 K) (tV 1) (tC (.int 1))) (tCons (tOp qAdd (tOp (rIx1 K) (tV 1) (tC (.int 2))) (tCall (sp_L_pick) [] E0 (tCons (tV 0) (tCons (tC (.int 98)) (tCons (tOp qAdd (tOp qSub (tOp (rIx1 K) (tV 1) (tC (.int 3))) (tOp (rIx1 K) (tV 1) (tC (.int 2)))) (tC (.int 1))) (tNil)))))) (tNil)))))) (tNext)) (tRet (tOp (rIx1 K) (tOp (rIx1 K) (tV 1) (tC (.int 1))) (tCall (sp_L_pick) [] E0 (tCons (tV 0) (tCons (tC (.int 98)) (tCons (tCB (rLen1 K) (tCons (tOp (rIx1 K) (tV 1) (tC (.int 1))) (tNil))) (tNil))))))))
theorem der_L_value {P : Program} {w : World} {K : PySem.W.Frag} {mg : Str → Option Value} {base : Heap} (T : TX w K mg) (C_L_power : Fn P w K mg base CX0 1 "_law_power" (sp_L_power)) (C_L_lowest : Fn P w K mg base CX0 2 "_law_lowest" (sp_L_lowest)) (C_L_steps : Fn P w K mg base CX0 2 "_law_steps" (sp_L_steps)) (C_L_word : Fn P w K mg base CX0 2 "_law_word" (sp_L_word)) (C_L_pick : Fn P w K mg base CX0 1 "_law_pick" (sp_L_pick)) {f : Addr} {cdv : Value} {A : Around} {outer : List Env} {s : Shared} {H : Hp} {E : XK} (hr : Room 2 (A.deeper (envOfC "_law_value" (defScope s_L_value) s.heap.objs.size f cdv))) :
    PSs (cxOf CX0 P w K mg base N_L_value "_law_value" (defScope s_L_value) f cdv A outer s H E).nox (defBody s_L_value) (t_L_value P w K mg base) :=
  pss_cons (ps_if (tCmp1 (oEq) (fIx (fV 1 nm_L_value__law_spec_here rfl) (pe_int) (fun _ _ => rfl)) (fS rfl) (nomark _)) (pss_cons (sSetK (i := 2) sc_L_value.nd rfl nl_L_value__law_step (fCall C_L_power (hr.mono (by decide)) ng_L_value__law_power pass0 (aCons (fIx (fV 1 nm_L_value__law_spec_here rfl) (pe_int) (fun _ _ => rfl)) (aCons (fIx (fV 1 nm_L_value__law_spec_here rfl) (pe_int) (fun _ _ => rfl)) (pa_nil) rfl) rfl) rfl) rfl (.inl rfl)) (pss_one (ps_ret (fCall C_L_lowest (hr.mono (by decide)) ng_L_value__law_lowest pass0 (aCons (fCall C_L_steps (hr.mono (by decide)) ng_L_value__law_steps pass0 (aCons (fV 0 nm_L_value__law_cell rfl) (aCons (pe_op oMul (fCall C_L_power (hr.mono (by decide)) ng_L_value__law_power pass0 (aCons (fIx (fV 1 nm_L_value__law_spec_here rfl) (pe_int) (fun _ _ => rfl)) (aCons (fIx (fV 1 nm_L_value__law_spec_here rfl) (pe_int) (fun _ _ => rfl)) (pa_nil) rfl) rfl) rfl) (fV 2 nm_L_value__law_step rfl)) (pa_nil) rfl) rfl) rfl) (aCons (fV 2 nm_L_value__law_step rfl) (pa_nil) rfl) rfl) rfl)))) (pss_nil)) (pss_cons (ps_if (tCmp1 (oEq) (fIx (fV 1 nm_L_value__law_spec_here rfl) (pe_int) (fun _ _ => rfl)) (fS rfl) (nomark _)) (pss_one (ps_ret (fCall C_L_word (hr.mono (by decide)) ng_L_value__law_word pass0 (aCons (fV 0 nm_L_value__law_cell rfl) (aCons (fIx (fV 1 nm_L_value__law_spec_here rfl) (pe_int) (fun _ _ => rfl)) (aCons (pe_op oAdd (fIx (fV 1 nm_L_value__law_spec_here rfl) (pe_int) (fun _ _ => rfl)) (fCall C_L_pick (hr.mono (by decide)) ng_L_value__law_pick pass0 (aCons (fV 0 nm_L_value__law_cell rfl) (aCons (pe_int) (aCons (pe_op oAdd (pe_op oSub (fIx (fV 1 nm_L_value__law_spec_here rfl) (pe_int) (fun _ _ => rfl)) (fIx (fV 1 nm_L_value__law_spec_here rfl) (pe_int) (fun _ _ => rfl))) (pe_int)) (pa_nil) rfl) rfl) rfl) rfl)) (pa_nil) rfl) rfl) rfl) rfl))) (pss_nil)) (pss_one (ps_ret (fIx (fIx (fV 1 nm_L_value__law_spec_here rfl) (pe_int) (fun _ _ => rfl)) (fCall C_L_pick (hr.mono (by decide)) ng_L_value__law_pick pass0 (aCons (fV 0 nm_L_value__law_cell rfl) (aCons (pe_int) (aCons (fB cLen ng_L_value_len T.b_len bb_len (aCons (fIx (fV 1 nm_L_value__law_spec_here rfl) (pe_int) (fun _ _ => rfl)) (pa_nil) rfl) rfl) (pa_nil) rfl) rfl) rfl) rfl) (fun _ _ => rfl)))))
theorem rd_L_value (T : TX w K mg) (vs : List V) (H : Hp) (Q : VK) (E : XK) (h : sp_L_value vs H Q E) : t_L_value P w K mg base { nx := fun _ H' => Q .non H', rt := Q } (start N_L_value vs) H := by
  obtain ⟨c, a, s, rfl, hS, ok, q⟩ := h
  obtain ⟨xs, hx, k0, _⟩ := hS.com
  refine ⟨xs, _, .inr (SqT.of hx), k0, ?_⟩
  cases s with
  | num n =>
    have ok' : n.Ok := ok
    have t : SqT K H a n.vals := SqT.of hS
    have hs2 := ok'.Spos
    have hB := ok'.Bbd
    have hf1 := ok'.f1
    have g2 : (2 : Nat) ^ 80 < 2 ^ 200 := by decide
    have hBe : ((n.base ^ n.fig : Nat) : Int) * ((n.base ^ n.pl : Nat) : Int) = (n.B : Nat) := by
      unfold NS.B
      rw [Nat.pow_add, Int.natCast_mul]
    have hB2 : 2 ≤ n.B := by
      unfold NS.B
      have h1 : n.base ^ 1 ≤ n.base ^ (n.fig + n.pl) := Nat.pow_le_pow_right (by have := ok'.b1; omega) (by omega)
      rw [Nat.pow_one] at h1
      have := ok'.b1
      omega
    have hpf : n.base ^ n.fig < 2 ^ 200 := pow_bd ok'.b2 (by have := ok'.f2; omega)
    refine ⟨_, _, .inr t, atI_nat (j := 3) rfl, _, _, .inr t, at2, n.base, n.pl, rfl, ok'.b2, by have := ok'.p; omega, ?_⟩
    refine ⟨_, _, .inr t, atI_nat (j := 3) rfl, _, _, .inr t, at1, n.base, n.fig, rfl, ok'.b2, by have := ok'.f2; omega, ?_⟩
    refine ⟨mulOk (by rw [Int.natAbs_natCast]; exact hpf) (by have e : (n.S).natAbs < 2 ^ 200 := (by omega); exact e), ?_⟩
    refine ⟨c, _, rfl, by rw [hBe]; omega, by rw [hBe]; have : ((n.B : Nat) : Int) < ((2 ^ 200 : Nat) : Int) := by omega
                                              exact this, fun r H1 e1 hr => ?_⟩
    rw [hBe] at hr
    exact ⟨r, _, rfl, hs2.1, hs2.2, fun p H2 h2 e2 l2 => q _ (n.dat r) H2 (Ex.trans e1 e2) ⟨p, rfl, l2⟩ ⟨r, by omega, rfl⟩⟩
  | word n =>
    have ok' : n.Ok := ok
    have t : SqT K H a n.vals := SqT.of hS
    have hl1 := ok'.l1
    have hl2 := ok'.l2
    refine ⟨xs, _, .inr (SqT.of hx), k0, ?_⟩
    obtain ⟨j, hj, hj2⟩ := pickN c 98 (m := (n.most : Int) - (n.least : Int) + 1) (by omega)
    refine ⟨_, _, .inr t, at1, _, _, .inr t, at2, _, _, .inr t, atI_nat (j := 3) rfl, _, _, .inr t, at2, _, _, _, rfl, by decide, by decide, by omega, ?_⟩
    refine ⟨c, n.signs, n.least + j, by rw [hj]; rfl, ok'.s1, by have := ok'.s2; omega, by omega, fun x H1 e1 hxl hxs => q _ (.txt x) H1 e1 rfl ⟨x, rfl, ⟨by omega, by omega⟩, hxs⟩⟩
  | choice n =>
    have ok' : n.Ok := ok
    obtain ⟨na, hn, hv⟩ := id hS
    have t : SqT K H a (n.vals na) := SqT.of hv
    have hn1 := ok'.n1
    refine ⟨xs, _, .inr (SqT.of hx), k0, ?_⟩
    refine ⟨_, _, .inr t, at1, _, _, .inr t, at1, _, .inl (SqL.of hn), _, _, _, rfl, by decide, by decide, by rw [sVs_length]; omega, ?_⟩
    obtain ⟨vv, gv, mv⟩ := atI_pickV (l := sVs n.names) (c := c) (s := 98) (n := ((sVs n.names).length : Nat)) rfl (by rw [sVs_length]; exact hn1)
    refine ⟨_, vv, .inl (SqL.of hn), gv, ?_⟩
    obtain ⟨x, hx2, rfl⟩ := List.mem_map.mp mv
    exact q _ (.txt x) H (Ex.refl H) rfl ⟨x, rfl, hx2⟩
theorem ok_L_value {P : Program} {w : World} {K : PySem.W.Frag} {mg : Str → Option Value} {base : Heap} (T : TX w K mg) : Fn P w K mg base CX0 3 "_law_value" (sp_L_value) := by
  obtain ⟨fd, F⟩ := T.d_L_value
  refine ⟨_, fd, A_L_value, T.g_L_value, F.kp, fnD F sc_L_value (fun vs H Q E h => ?_) (fun cdv A outer s H vs Q E hr h => ⟨_, PSs.nox (der_L_value T (ok_L_power T) (ok_L_lowest T) (ok_L_steps T) (ok_L_word T) (ok_L_pick T) hr), rd_L_value T vs H Q E h⟩), F.bindsN fun _ _ _ _ _ _ us hl => match us, hl with | [_, _], _ => rfl⟩
  obtain ⟨_, _, _, rfl, _⟩ := h
  rfl
/-! ### _law_is_number, _law_is_value -/
theorem dat_low {k s : Int} (hs : 0 < s) : Int.gcd (frT k s) (frB k s) = 1 ∧ frT k s * s % frB k s = 0 := by
  have hg : 0 < Int.gcd k s := Int.gcd_pos_of_ne_zero_right _ (by omega)
  refine ⟨?_, ?_⟩
  · unfold frT frB
    exact Int.gcd_ediv_gcd_ediv_gcd hg
  · obtain ⟨b1, b2, _⟩ := dat_back (k := k) hs
    have hd : frB k s ∣ s := by
      unfold frB
      exact Int.ediv_dvd_of_dvd (Int.gcd_dvd_right k s)
    exact Int.emod_eq_zero_of_dvd (Int.dvd_trans hd (Int.dvd_mul_left (frT k s) s))
theorem kit_tt : kitB "tuple" "tuple" = some true := by decide +kernel
def sp_L_is_number : Sp := fun vs H Q _ => ∃ (a : Addr) (n : NS) (v : V) (k : Int), vs = [v, .ref a] ∧ SpecAt H a (.num n) ∧ n.Ok ∧ VAt H v (n.dat k) ∧ k.natAbs < 2 ^ 190 ∧ Q (.bl (decide (k.natAbs < n.B))) H
def t_L_is_number (P : Program) (w : World) (K : PySem.W.Frag) (mg : Str → Option Value) (base : Heap) : TS := tSeq (tIfS (tOr (tNot (tB1 (tCB (rIsi1) (tCons (tV 0) (tCons (tC (.ty "tuple")) (tNil)))))) (tOr (tB1 (tOp (rNe1) (tCB (rLen1 K) (tCons (tV 0) (tNil))) (tC (.int 2)))) (tOr (tNot (tB1 (tCall (sp_L_whole) [] E0 (tCons (tOp (rIx1 K) (tV 0) (tC (.int 0))) (tNil))))) (tNot (tB1 (tCall (sp_L_whole) [] E0 (tCons (tOp (rIx1 K) (tV 0) (tC (.int 1))) (tNil)))))))) (tRet (tC (.bl false))) (tNext)) (tSeq (tSetK 2 (tCall (sp_L_power) [] E0 (tCons (tOp (rIx1 K) (tV 1) (tC (.int 3))) (tCons (tOp (rIx1 K) (tV 1) (tC (.int 2))) (tNil))))) (tSeq (tIfS (tOr (tB1 (tOp (rCmp fun i j => decide (i < j)) (tOp (rIx1 K) (tV 0) (tC (.int 1))) (tC (.int 1)))) (tOr (tB1 (tOp (rNe1) (tCall (sp_L_divisor) [] E0 (tCons (tOp (rIx1 K) (tV 0) (tC (.int 0))) (tCons (tOp (rIx1 K) (tV 0) (tC (.int 1))) (tNil)))) (tC (.int 1)))) (tB1 (tOp (rNe1) (tOp qMod (tOp qMul (tOp (rIx1 K) (tV 0) (tC (.int 0))) (tV 2)) (tOp (rIx1 K) (tV 0) (tC (.int 1)))) (tC (.int 0)))))) (tRet (tC (.bl false))) (tNext)) (tRet (tOp (rCmp fun i j => decide (i < j)) (tCB (rAbs1) (tCons (tOp (rIx1 K) (tV 0) (tC (.int 0))) (tNil))) (tOp qMul (tCall (sp_L_power) [] E0 (tCons (tOp (rIx1 K) (tV 1) (tC (.int 3))) (tCons (tOp (rIx1 K) (tV 1) (tC (.int 1))) (tNil)))) (tOp (rIx1 K) (tV 0) (tC (.int 1))))))))
theorem der_L_is_number {P : Program} {w : World} {K : PySem.W.Frag} {mg : Str → Option Value} {base : Heap} (T : TX w K mg) (C_L_whole : Fn P w K mg base CX0 1 "_law_whole" (sp_L_whole)) (C_L_power : Fn P w K mg base CX0 1 "_law_power" (sp_L_power)) (C_L_divisor : Fn P w K mg base CX0 1 "_law_divisor" (sp_L_divisor)) {f : Addr} {cdv : Value} {A : Around} {outer : List Env} {s : Shared} {H : Hp} {E : XK} (hr : Room 1 (A.deeper (envOfC "_law_is_number" (defScope s_L_is_number) s.heap.objs.size f cdv))) :
    PSs (cxOf CX0 P w K mg base N_L_is_number "_law_is_number" (defScope s_L_is_number) f cdv A outer s H E).nox (defBody s_L_is_number) (t_L_is_number P w K mg base) :=
  pss_cons (ps_if (PW.pt (pw_or (pt_not (tVal1 (fB cIsi ng_L_is_number_isinstance T.b_isinstance bb_isinstance (aCons (fV 0 nm_L_is_number__law_value_here rfl) (aCons (fTy ng_L_is_number_tuple T.b_tuple bb_tuple) (pa_nil) rfl) rfl) rfl) (fun _ => rfl))) (pw_or (tCmp1 (oNe) (fB cLen ng_L_is_number_len T.b_len bb_len (aCons (fV 0 nm_L_is_number__law_value_here rfl) (pa_nil) rfl) rfl) (pe_int) (nomark _)) (pw_or (pt_not (tVal1 (fCall C_L_whole (hr.mono (by decide)) ng_L_is_number__law_whole pass0 (aCons (fIx (fV 0 nm_L_is_number__law_value_here rfl) (pe_int) (fun _ _ => rfl)) (pa_nil) rfl) rfl) (fun _ => rfl))) (pw_or1 (pt_not (tVal1 (fCall C_L_whole (hr.mono (by decide)) ng_L_is_number__law_whole pass0 (aCons (fIx (fV 0 nm_L_is_number__law_value_here rfl) (pe_int) (fun _ _ => rfl)) (pa_nil) rfl) rfl) (fun _ => rfl)))))))) (pss_one (ps_ret (pe_bl))) (pss_nil)) (pss_cons (sSetK (i := 2) sc_L_is_number.nd rfl nl_L_is_number__law_step (fCall C_L_power (hr.mono (by decide)) ng_L_is_number__law_power pass0 (aCons (fIx (fV 1 nm_L_is_number__law_spec_here rfl) (pe_int) (fun _ _ => rfl)) (aCons (fIx (fV 1 nm_L_is_number__law_spec_here rfl) (pe_int) (fun _ _ => rfl)) (pa_nil) rfl) rfl) rfl) rfl (.inl rfl)) (pss_cons (ps_if (PW.pt (pw_or (tCmp1 (oLt) (fIx (fV 0 nm_L_is_number__law_value_here rfl) (pe_int) (fun _ _ => rfl)) (pe_int) (nomark _)) (pw_or (tCmp1 (oNe) (fCall C_L_divisor (hr.mono (by decide)) ng_L_is_number__law_divisor pass0 (aCons (fIx (fV 0 nm_L_is_number__law_value_here rfl) (pe_int) (fun _ _ => rfl)) (aCons (fIx (fV 0 nm_L_is_number__law_value_here rfl) (pe_int) (fun _ _ => rfl)) (pa_nil) rfl) rfl) rfl) (pe_int) (nomark _)) (pw_or1 (tCmp1 (oNe) (pe_op oMod (pe_op oMul (fIx (fV 0 nm_L_is_number__law_value_here rfl) (pe_int) (fun _ _ => rfl)) (fV 2 nm_L_is_number__law_step rfl)) (fIx (fV 0 nm_L_is_number__law_value_here rfl) (pe_int) (fun _ _ => rfl))) (pe_int) (nomark _)))))) (pss_one (ps_ret (pe_bl))) (pss_nil)) (pss_one (ps_ret (pe_cmpR (oLt) (fB cAbs ng_L_is_number_abs T.b_abs bb_abs (aCons (fIx (fV 0 nm_L_is_number__law_value_here rfl) (pe_int) (fun _ _ => rfl)) (pa_nil) rfl) rfl) (pe_op oMul (fCall C_L_power (hr.mono (by decide)) ng_L_is_number__law_power pass0 (aCons (fIx (fV 1 nm_L_is_number__law_spec_here rfl) (pe_int) (fun _ _ => rfl)) (aCons (fIx (fV 1 nm_L_is_number__law_spec_here rfl) (pe_int) (fun _ _ => rfl)) (pa_nil) rfl) rfl) rfl) (fIx (fV 0 nm_L_is_number__law_value_here rfl) (pe_int) (fun _ _ => rfl))) (nomark _))))))
theorem rd_L_is_number (T : TX w K mg) (vs : List V) (H : Hp) (Q : VK) (E : XK) (h : sp_L_is_number vs H Q E) : t_L_is_number P w K mg base { nx := fun _ H' => Q .non H', rt := Q } (start N_L_is_number vs) H := by
  obtain ⟨a, n, v, k, rfl, hS, ok, hv, hk, q⟩ := h
  obtain ⟨p, rfl, hp⟩ := hv
  obtain ⟨b1, b2, b3, b4⟩ := dat_back (k := k) ok.Spos.1
  obtain ⟨c1, c2⟩ := dat_low (k := k) ok.Spos.1
  have hs2 := ok.Spos
  have t : SqT K H a n.vals := SqT.of hS
  have tp : SqT K H p [.int (frT k n.S), .int (frB k n.S)] := SqT.of hp
  have g2 : (2 : Nat) ^ 190 < 2 ^ 200 := by decide
  refine ⟨_, true, .tup hp, kit_tt, _, .inr tp, _, _, .inr tp, at0, _, rfl, _, _, .inr tp, at1, _, rfl, ?_⟩
  refine ⟨_, _, .inr t, atI_nat (j := 3) rfl, _, _, .inr t, at2, n.base, n.pl, rfl, ok.b2, by have := ok.p; omega, ?_⟩
  refine ⟨_, _, .inr tp, at1, ?_⟩
  refine iteN (by omega) ?_
  refine ⟨_, _, .inr tp, at0, _, _, .inr tp, at1, _, _, rfl, by omega, ?_⟩
  rw [c1]
  refine ⟨_, _, .inr tp, at0, mulOk (by omega) (by have e : (n.S).natAbs < 2 ^ 200 := (by omega); exact e), _, _, .inr tp, at1, b2, ?_⟩
  have c2' : frT k n.S * ((n.base ^ n.pl : Nat) : Int) % frB k n.S = 0 := c2
  rw [c2']
  have hpf : n.base ^ n.fig < 2 ^ 200 := pow_bd ok.b2 (by have := ok.f2; omega)
  refine ⟨_, _, .inr tp, at0, _, _, .inr t, atI_nat (j := 3) rfl, _, _, .inr t, at1, n.base, n.fig, rfl, ok.b2, by have := ok.f2; omega, _, _, .inr tp, at1, mulOk (by rw [Int.natAbs_natCast]; exact hpf) (by omega), ?_⟩
  have e : decide (k.natAbs < n.B) = decide ((((frT k n.S).natAbs : Nat) : Int) < ((n.base ^ n.fig : Nat) : Int) * frB k n.S) := by
    refine decide_eq_decide.mpr ?_
    have hg : 0 < Int.gcd k n.S := Int.gcd_pos_of_ne_zero_right _ (by omega)
    have e1 : k = (Int.gcd k n.S : Int) * frT k n.S := (Int.mul_ediv_cancel' (Int.gcd_dvd_left k n.S)).symm
    have e2 : n.S = (Int.gcd k n.S : Int) * frB k n.S := (Int.mul_ediv_cancel' (Int.gcd_dvd_right k n.S)).symm
    generalize Int.gcd k n.S = g at hg e1 e2
    generalize frT k n.S = x at e1
    generalize frB k n.S = y at e2 b2
    have e3 : k.natAbs = g * x.natAbs := by rw [e1, Int.natAbs_mul, Int.natAbs_natCast]
    have e4 : n.B = n.base ^ n.fig * n.base ^ n.pl := by unfold NS.B; rw [Nat.pow_add]
    obtain ⟨y', rfl⟩ : ∃ y' : Nat, y = y' := ⟨y.toNat, by omega⟩
    have e5 : n.base ^ n.pl = g * y' := by
      have : ((n.base ^ n.pl : Nat) : Int) = ((g * y' : Nat) : Int) := by rw [Int.natCast_mul]; exact e2
      omega
    have e6 : n.base ^ n.fig * (g * y') = g * (n.base ^ n.fig * y') := by
      rw [← Nat.mul_assoc, Nat.mul_comm (n.base ^ n.fig) g, Nat.mul_assoc]
    rw [e3, e4, e5, e6, Nat.mul_lt_mul_left hg, ← Int.natCast_mul]
    omega
  rw [e] at q
  exact q
theorem ok_L_is_number {P : Program} {w : World} {K : PySem.W.Frag} {mg : Str → Option Value} {base : Heap} (T : TX w K mg) : Fn P w K mg base CX0 2 "_law_is_number" (sp_L_is_number) := by
  obtain ⟨fd, F⟩ := T.d_L_is_number
  refine ⟨_, fd, A_L_is_number, T.g_L_is_number, F.kp, fnD F sc_L_is_number (fun vs H Q E h => ?_) (fun cdv A outer s H vs Q E hr h => ⟨_, PSs.nox (der_L_is_number T (ok_L_whole T) (ok_L_power T) (ok_L_divisor T) hr), rd_L_is_number T vs H Q E h⟩), F.bindsN fun _ _ _ _ _ _ us hl => match us, hl with | [_, _], _ => rfl⟩
  obtain ⟨_, _, _, _, rfl, _⟩ := h
  rfl
def sp_L_is_value : Sp := fun vs H Q _ => ∃ (a : Addr) (s : Spec) (v : V) (d : Dat), vs = [v, .ref a] ∧ SpecAt H a s ∧ s.Ok ∧ VAt H v d ∧ Cand s d ∧ ∀ H', Ex H H' → Q (.bl (s.isVal d)) H'
def t_L_is_value (P : Program) (w : World) (K : PySem.W.Frag) (mg : Str → Option Value) (base : Heap) : TS := tSeq (tIfS (tB1 (tOp (rEq1) (tOp (rIx1 K) (tV 1) (tC (.int 0))) (tC (.str (S [110, 117, 109, 98, 101, 114]))))) (tRet (tCall (sp_L_is_number) [] E0 (tCons (tV 0) (tCons (tV 1) (tNil))))) (tNext)) (tSeq (tIfS (tNot (tB1 (tCB (rIsi1) (tCons (tV 0) (tCons (tC (.ty "str")) (tNil)))))) (tRet (tC (.bl false))) (tNext)) (tSeq (tIfS (tB1 (tOp (rEq1) (tOp (rIx1 K) (tV 1) (tC (.int 0))) (tC (.str (S [99, 104, 111, 105, 99, 101]))))) (tRet (tOp (rInL K) (tV 0) (tOp (rIx1 K) (tV 1) (tC (.int 1))))) (tNext)) (tRet (tAndV (tChain (rCmp fun i j => decide (i ≤ j)) (rCmp fun i j => decide (i ≤ j)) (tOp (rIx1 K) (tV 1) (tC (.int 2))) (tCB (rLen1 K) (tCons (tV 0) (tNil))) (tOp (rIx1 K) (tV 1) (tC (.int 3)))) (tOp (rEqD K) (tLc (iStr (tV 0)) (gName 2) (tB1 (tOp (rNiC) (tV 2) (tOp (rIx1 K) (tV 1) (tC (.int 1))))) (tV 2) [2]) (tLst1 (tNil)))))))
theorem der_L_is_value {P : Program} {w : World} {K : PySem.W.Frag} {mg : Str → Option Value} {base : Heap} (T : TX w K mg) (C_L_is_number : Fn P w K mg base CX0 2 "_law_is_number" (sp_L_is_number)) {f : Addr} {cdv : Value} {A : Around} {outer : List Env} {s : Shared} {H : Hp} {E : XK} (hr : Room 2 (A.deeper (envOfC "_law_is_value" (defScope s_L_is_value) s.heap.objs.size f cdv))) :
    PSs (cxOf CX0 P w K mg base N_L_is_value "_law_is_value" (defScope s_L_is_value) f cdv A outer s H E).nox (defBody s_L_is_value) (t_L_is_value P w K mg base) :=
  pss_cons (ps_if (tCmp1 (oEq) (fIx (fV 1 nm_L_is_value__law_spec_here rfl) (pe_int) (fun _ _ => rfl)) (fS rfl) (nomark _)) (pss_one (ps_ret (fCall C_L_is_number (hr.mono (by decide)) ng_L_is_value__law_is_number pass0 (aCons (fV 0 nm_L_is_value__law_value_here rfl) (aCons (fV 1 nm_L_is_value__law_spec_here rfl) (pa_nil) rfl) rfl) rfl))) (pss_nil)) (pss_cons (ps_if (pt_not (tVal1 (fB cIsi ng_L_is_value_isinstance T.b_isinstance bb_isinstance (aCons (fV 0 nm_L_is_value__law_value_here rfl) (aCons (fTy ng_L_is_value_str T.b_str bb_str) (pa_nil) rfl) rfl) rfl) (fun _ => rfl))) (pss_one (ps_ret (pe_bl))) (pss_nil)) (pss_cons (ps_if (tCmp1 (oEq) (fIx (fV 1 nm_L_is_value__law_spec_here rfl) (pe_int) (fun _ _ => rfl)) (fS rfl) (nomark _)) (pss_one (ps_ret (pe_cmpR (oInL) (fV 0 nm_L_is_value__law_value_here rfl) (fIx (fV 1 nm_L_is_value__law_spec_here rfl) (pe_int) (fun _ _ => rfl)) (by rfl)))) (pss_nil)) (pss_one (ps_ret (pe_and (pe_chain oLe oLe (fIx (fV 1 nm_L_is_value__law_spec_here rfl) (pe_int) (fun _ _ => rfl)) (fB cLen ng_L_is_value_len T.b_len bb_len (aCons (fV 0 nm_L_is_value__law_value_here rfl) (pa_nil) rfl) rfl) (fIx (fV 1 nm_L_is_value__law_spec_here rfl) (pe_int) (fun _ _ => rfl))) (pe_one (pe_cmpR (op_eqD (hu_of1 hr)) (pe_lc (own := [("_law_sign_here", 2)]) (g := gName 2) rfl sc_L_is_value.nd (pi_str (fV 0 nm_L_is_value__law_value_here rfl)) (blkOk_by (N := N_L_is_value) (sc := defScope s_L_is_value) (by decide +kernel)) (fun _ _ _ _ _ => gN sc_L_is_value.nd rfl (nl_of (by kernel_rfl)) (.inr (by kernel_rfl))) (fun _ _ _ _ _ => pts_one (tCmp1 (oNiC) (fV 2 (nm_of (by kernel_rfl)) rfl) (fIx (fV 1 (nm_of (by kernel_rfl)) rfl) (pe_int) (fun _ _ => rfl)) (by rfl))) (fun _ _ _ _ _ => fV 2 (nm_of (by kernel_rfl)) rfl)) (fLst (pa_nil)) (nomark _))))))))
theorem rd_L_is_value (T : TX w K mg) (vs : List V) (H : Hp) (Q : VK) (E : XK) (h : sp_L_is_value vs H Q E) : t_L_is_value P w K mg base { nx := fun _ H' => Q .non H', rt := Q } (start N_L_is_value vs) H := by
  obtain ⟨a, s, v, d, rfl, hS, ok, hv, hd, q⟩ := h
  obtain ⟨xs, hx, k0, _⟩ := hS.com
  refine ⟨xs, _, .inr (SqT.of hx), k0, ?_⟩
  cases s with
  | num n =>
    have ok' : n.Ok := ok
    obtain ⟨k, hk, rfl⟩ := hd
    refine ⟨a, n, v, k, rfl, hS, ok', hv, hk, ?_⟩
    have := q H (Ex.refl H)
    have e : (Spec.num n).isVal (n.dat k) = decide (k.natAbs < n.B) := by
      show decide ((frT k n.S * n.S / frB k n.S).natAbs < n.B) = _
      rw [(dat_back ok'.Spos.1).1]
    rw [e] at this
    exact this
  | choice n =>
    obtain ⟨x, rfl, hx1, hx2⟩ := hd
    obtain rfl : v = .str (S x) := hv
    obtain ⟨na, hn, hv⟩ := id hS
    have t : SqT K H a (n.vals na) := SqT.of hv
    refine ⟨_, true, .str _, kit_ss, xs, _, .inr (SqT.of hx), k0, ?_⟩
    exact ⟨_, _, .inr t, at1, x, na, n.names, rfl, rfl, SqL.of hn, q H (Ex.refl H)⟩
  | word n =>
    have ok' : n.Ok := ok
    obtain ⟨x, rfl, hx1, hx2⟩ := hd
    obtain rfl : v = .str (S x) := hv
    have t : SqT K H a n.vals := SqT.of hS
    refine ⟨_, true, .str _, kit_ss, xs, _, .inr (SqT.of hx), k0, ?_⟩
    refine ⟨_, _, .inr t, at2, x, rfl, by omega, _, rfl, ?_⟩
    refine iteD (fun c => ?_) (fun c => ?_)
    · refine ⟨_, _, .inr t, atI_nat (j := 3) rfl, _, rfl, ?_⟩
      refine iteD (fun c2 => ?_) (fun c2 => ?_)
      · refine ⟨S x, rfl, fun D hD => ?_⟩
        let f : Nat → Bool := fun c => !decide (c ∈ n.signs)
        refine lc_str (l := x) (fun i H' => Ex H H' ∧ H' D = some (.lst (((x.take i).filter f).map fun z => V.str (S [z])))) ⟨Ex.new hD, upd_same⟩ ?_ ?_
        · rintro i z H' hz ⟨e1, hd⟩
          refine ⟨rfl, _, _, .inr (SqT.of (e1 _ _ hS)), at1, z, n.signs, rfl, rfl, ?_⟩
          have et := take_snoc hz
          refine iteB (fun c3 => ?_) (fun c3 => ?_)
          · refine ⟨_, hd, szT ?_, Ex.mut e1 hD, ?_⟩
            · rw [List.length_map]
              have h8 := List.length_filter_le f (x.take i)
              rw [List.length_take] at h8
              omega
            · rw [upd_same, et, List.filter_append, List.filter_cons, if_pos (show f z = true from c3), List.map_append]
              rfl
          · refine ⟨e1, ?_⟩
            have c4 : f z = false := c3
            rw [hd, et, List.filter_append, List.filter_cons, c4]
            show _ = some (HO.lst (((x.take i).filter f ++ []).map fun z => V.str (S [z])))
            rw [List.append_nil]
        · rintro H' ⟨e1, hd⟩
          rw [List.take_length] at hd
          refine ⟨l100 rfl, fun p2 H2 h2 e2 l2 => ?_⟩
          have em : ((x.filter f).map fun z => V.str (S [z])) = (((x.filter f).map fun z => [z]).map fun l => V.str (S l)) := by
            rw [List.map_map]
            rfl
          rw [em] at hd
          have hL : LAt H2 D (((x.filter f).map fun z => [z]).map Dat.txt) := ⟨_, e2 _ _ hd, VsAt.txts _⟩
          refine ⟨_, .list ([].map Dat.py), hL.dp, LAt.dp ⟨[], l2, trivial⟩, shaped_list _ ?_, rfl, ?_⟩
          · intro d hd2
            obtain ⟨l, hl, rfl⟩ := List.mem_map.mp hd2
            obtain ⟨z, hz, rfl⟩ := List.mem_map.mp hl
            intro c hc
            rw [List.mem_singleton.mp hc]
            exact hx2 z (List.mem_filter.mp hz).1
          · have ee : PyData.eqv (.list ((((x.filter f).map fun z => [z]).map Dat.txt).map Dat.py)) (.list (([] : List Dat).map Dat.py)) = decide ((((x.filter f).map fun z => [z]).map Dat.txt) = []) := eqvAll_py _ []
            rw [ee]
            have := q H2 (Ex.trans e1 e2)
            have e3 : (Spec.word n).isVal (.txt x) = decide ((((x.filter f).map fun z => [z]).map Dat.txt) = []) := by
              show decide (n.isW x) = _
              refine decide_eq_decide.mpr ?_
              rw [List.map_eq_nil_iff, List.map_eq_nil_iff, List.filter_eq_nil_iff]
              unfold WS.isW
              constructor
              · intro h c hc
                have := h.2 c hc
                simp [f, this]
              · intro h
                refine ⟨⟨by omega, by omega⟩, fun c hc => ?_⟩
                have := h c hc
                simpa [f] using this
            rw [e3] at this
            exact this
      · have := q H (Ex.refl H)
        have e3 : (Spec.word n).isVal (.txt x) = false := decide_eq_false fun h => c2 (by have := h.1.2; omega)
        rw [e3] at this
        exact this
    · refine ⟨_, rfl, ?_⟩
      have := q H (Ex.refl H)
      have e3 : (Spec.word n).isVal (.txt x) = false := decide_eq_false fun h => c (by have := h.1.1; omega)
      rw [e3] at this
      exact this
theorem ok_L_is_value {P : Program} {w : World} {K : PySem.W.Frag} {mg : Str → Option Value} {base : Heap} (T : TX w K mg) : Fn P w K mg base CX0 3 "_law_is_value" (sp_L_is_value) := by
  obtain ⟨fd, F⟩ := T.d_L_is_value
  refine ⟨_, fd, A_L_is_value, T.g_L_is_value, F.kp, fnD F sc_L_is_value (fun vs H Q E h => ?_) (fun cdv A outer s H vs Q E hr h => ⟨_, PSs.nox (der_L_is_value T (ok_L_is_number T) hr), rd_L_is_value T vs H Q E h⟩), F.bindsN fun _ _ _ _ _ _ us hl => match us, hl with | [_, _], _ => rfl⟩
  obtain ⟨_, _, _, _, rfl, _⟩ := h
  rfl
end
end K45
/-! try: .. except A: .. except B as n: .. (the steps are those of the kit's rules for one named and for many unnamed clauses, put together; the kit has no rule for both) -/
namespace F
open PySem PySem.Spec PyProof.Rows L2
/-- what the two clauses wish of an exception of the body; slot i is the second's name -/
def wTwo (K : PySem.W.Frag) (c1 c2 : Value) (i : Nat) (t1 t2 : Addr → Value → Option Addr → TS) (Wout : WX) (D : Ends) : WX := fun cls d σ H =>
  ∃ b1, PySem.W.exmOne K cls c1 = some b1 ∧ (b1 = true → ∀ a, H a = none → t1 a cls d D σ H) ∧ (b1 = false → wAs K c2 i t2 Wout D cls d σ H)
def tTry2 (K : PySem.W.Frag) (c1 c2 : Value) (i : Nat) (t1 t2 : Addr → Value → Option Addr → TS) (Wout : WX) (tb : WX → TS) : TS := fun D σ H => tb (wTwo K c1 c2 i t1 t2 Wout D) D σ H
section
variable {X : Cx} {x1 x2 n : Str} {c1 c2 : Value} {i : Nat} {body s1 s2 : List Stmt} {d1 d2 : Stmt} {np1 np2 pos1 pos2 pos : Pos} {tb : WX → TS} {t1 t2 : Addr → Value → Option Addr → TS} {Wout : WX}
theorem fTry2 (hs : X.stack = X.env :: X.outer) (hf : X.env.frame = some X.env.locals) (hN : X.N.Nodup) (hi : X.N[i]? = some n) (hln : X.env.kindOf n = some .local) (n1 : Names X x1 c1) (n2 : Names X x2 c2) (tk : Takes X Wout)
    (hb : ∀ (W : WX) (pn : List (Addr × Obj)) (xe : Value → Shared → Prop), Takes (X.tr pn xe) W → PSs (X.tr pn xe) body (tb W))
    (hs1 : ∀ (a : Addr) (oe : Obj) (cls : Value) (d : Option Addr) (pn : List (Addr × Obj)), Zc cls d oe → (∃ vs, oe.data = .fields vs) → PSs (X.suite a ((a, oe) :: pn)) (d1 :: s1) (t1 a cls d))
    (hs2 : ∀ (a : Addr) (oe : Obj) (cls : Value) (d : Option Addr) (pn : List (Addr × Obj)), Zc cls d oe → (∃ vs, oe.data = .fields vs) → PSs (X.suite a ((a, oe) :: pn)) (d2 :: s2) (t2 a cls d)) :
    PS X (.Try body [.ExceptHandler (some (.Name x1 np1)) none (d1 :: s1) pos1, .ExceptHandler (some (.Name x2 np2)) (some n) (d2 :: s2) pos2] [] [] pos) (tTry2 X.K c1 c2 i t1 t2 Wout tb) := by
  refine ⟨fun pins s σ H D I h => ?_⟩
  have ok := I.ok
  have hfr : X.A.frames = some (X.env :: X.outer) := by rw [ok.frames, hs]
  have hloc : Loc X.env.scope n := .inl hln
  have clauses : ∀ (xe : Value → Shared → Prop) (a : Addr) (hds : List ExceptHandler) (s' : Shared), hds = [.ExceptHandler (some (.Name x1 np1)) none (d1 :: s1) pos1, .ExceptHandler (some (.Name x2 np2)) (some n) (d2 :: s2) pos2] →
      XE (X.tr (X.pn ++ pins) xe) (wTwo X.K c1 c2 i t1 t2 Wout D) (.ref a) s' → wpAny (model X.prog X.w) X.A (noteFrame (.ref a) X.env) (fun _ s₂ => wpAny (model X.prog X.w) X.A (setFlight (.ref a) none) (fun _ s₃ => wpAny (model X.prog X.w) X.A (handleBy (.ref a) X.env hds) (SP X pins D) X.xe s₃) X.xe s₂) X.xe s' := by
    rintro xe a hds s' rfl ⟨a0, B, sI, pins', σ', H', cls, d, ea, J', nb, up, sky, na, os, ag, b1, e1, yes1, no1⟩
    obtain rfl : a = a0 := by injection ea
    have J : Inv X pins σ' H' sI := J'.ofTry ok
    have sky' : Sky B (X.env :: X.outer) a (Zc cls d) X.env.locals s'.heap := by rw [← hs]; exact sky
    refine Sky.land Zc.steady hfr hf sky' fun h3 fl3 up3 => ?_
    have J3 : Inv X pins σ' H' { s' with heap := h3 } := J.landed nb fl3.1 (up.trans up3) os ag
    obtain ⟨oe3, vs3, he3, hz3, hd3⟩ := fl3.there
    have nfr : a ∉ frs (X.env :: X.outer) := fun hm => by
      obtain ⟨_, o', e', hnf⟩ := fl3.2.2.1.mem hm
      rw [he3] at e'
      cases e'
      exact hnf _ hd3
    have nL : a ≠ X.env.locals := fun z => nfr (List.mem_filterMap.mpr ⟨X.env, List.mem_cons_self, by rw [hf, z]⟩)
    have nF : a ∉ X.fs := fun hm => by
      obtain ⟨e, he, q⟩ := List.mem_filterMap.mp hm
      exact nfr (List.mem_filterMap.mpr ⟨e, List.mem_cons_of_mem _ he, q⟩)
    have S3 := J3.suite he3 hd3 na nL nF
    have LT : PySem.W.Looks (model X.prog X.w) h3 (typeOf (.ref a)) cls := fun A Q E s k q => wpAny_typeOf_ref (k _ _ he3) (by rw [hz3.1]; exact q)
    have test : ∀ {x : Str} {c : Value} {np : Pos} {Q : Value → Shared → Prop} {E : Value → Shared → Prop}, Names X x c → Q c { s' with heap := h3 } → wpAny (model X.prog X.w) (X.A.mark (some (.ref a))) (eval (.Name x np) X.env) Q E { s' with heap := h3 } := fun {x c np Q E} hc q => by
      obtain ⟨hg, hdbg, hm | ⟨hm, hv, hnn⟩⟩ := hc
      · exact ld_glob (X := X.suite a ((a, oe3) :: (X.pn ++ pins))) S3 hg hm q hdbg
      · exact ld_blt (X := X.suite a ((a, oe3) :: (X.pn ++ pins))) S3 hg hm hv q hnn hdbg
    refine wpAny_handleBy_cons (codeAny_handlers_test ?_) (by intro q; cases q)
    refine test n1 ((PySem.W.exm_one (M := model X.prog X.w) (J3.kIn) LT e1).here ?_)
    cases b1 with
    | true =>
      refine codeAny_handlers_suite ?_
      refine HandSPX.lands_againZ fl3 fun h4 fl4 up4 => ?_
      have J4 : Inv X pins σ' H' { s' with heap := h4 } := J.landed nb fl4.1 ((up.trans up3).trans up4) os ag
      obtain ⟨oe4, vs4, he4, hz4, hd4⟩ := fl4.there
      refine wpAny_mono ((hs1 a oe4 cls d (X.pn ++ pins) hz4 ⟨_, hd4⟩).run [] _ _ H' _ (J4.suite he4 hd4 na nL nF) (yes1 rfl a na)) (fun f s6 hsp => ?_) (fun _ _ z => False.elim z)
      cases f with
      | next => obtain ⟨σ6, H6, S6, q6⟩ := hsp; exact ⟨_, _, S6.unsuite ok, q6⟩
      | brk => obtain ⟨σ6, H6, S6, q6⟩ := hsp; exact ⟨_, _, S6.unsuite ok, q6⟩
      | cont => obtain ⟨σ6, H6, S6, q6⟩ := hsp; exact ⟨_, _, S6.unsuite ok, q6⟩
      | ret u => obtain ⟨v6, σ6, H6, S6, r6, q6⟩ := hsp; exact ⟨_, _, _, S6.unsuite ok, r6, q6⟩
    | false =>
      obtain ⟨b2, e2, yes2, no2⟩ := no1 rfl
      show wpAny _ X.A (handleBy (.ref a) X.env _) _ _ _
      refine wpAny_handleBy_cons (codeAny_handlers_test ?_) (by intro q; cases q)
      refine test n2 ((PySem.W.exm_one (M := model X.prog X.w) (J3.kIn) LT e2).here ?_)
      cases b2 with
      | true =>
        refine codeAny_handlers_suite_as ?_
        refine HandSPX.lands_againZ fl3 fun h4 fl4 up4 => ?_
        have J4 : Inv X pins σ' H' { s' with heap := h4 } := J.landed nb fl4.1 ((up.trans up3).trans up4) os ag
        obtain ⟨oe4, vs4, he4, hz4, hd4⟩ := fl4.there
        refine store_ok (X := X.suite a ((a, oe4) :: (X.pn ++ pins))) (v := .ref a) (J4.suite he4 hd4 na nL nF) hN hi hloc rfl (fun s5 S5 => ?_) (.inr hln)
        refine wpAny_mono ((hs2 a oe4 cls d (X.pn ++ pins) hz4 ⟨_, hd4⟩).run [] s5 _ H' _ S5 (yes2 rfl a na)) (fun f s6 hsp => ?_) (fun _ _ z => False.elim z)
        cases f with
        | next => obtain ⟨σ6, H6, S6, q6⟩ := hsp; exact gone_ok (S6.unsuite ok) hN hi hln fun s7 J7 => ⟨_, _, J7, q6⟩
        | brk => obtain ⟨σ6, H6, S6, q6⟩ := hsp; exact gone_ok (S6.unsuite ok) hN hi hln fun s7 J7 => ⟨_, _, J7, q6⟩
        | cont => obtain ⟨σ6, H6, S6, q6⟩ := hsp; exact gone_ok (S6.unsuite ok) hN hi hln fun s7 J7 => ⟨_, _, J7, q6⟩
        | ret u => obtain ⟨v6, σ6, H6, S6, r6, q6⟩ := hsp; exact gone_ok (S6.unsuite ok) hN hi hln fun s7 J7 => ⟨_, _, _, J7, r6, q6⟩
      | false =>
        show wpAny _ X.A (handleBy (.ref a) X.env []) _ _ _
        refine wpAny_handleBy_nil ?_
        obtain ⟨k1, k2, k3, oe, vs, T, oT, ts', he, hz, hd, h1, hr⟩ := id fl3
        unfold PySem.passOn
        refine wpAny_bind (wpAny_field he hd h1 ?_)
        rw [if_neg (show ¬ ((Value.ref T == Value.none) = true) from by simp)]
        have fin : wpAny (model X.prog X.w) X.A (setFlight (.ref a) X.env.frame) (fun _ s4 => wpAny (model X.prog X.w) X.A (throw (.ref a) : Sem Flow) (SP X pins D) X.xe s4) X.xe { s' with heap := h3 } := by
          rw [hf]
          refine HandSPX.setFlight_upZ fl3 fun h4 hh4 up4 => wpAny_throw (tk _ _ ?_)
          exact ⟨a, B, sI, pins, σ', H', cls, d, rfl, J, nb, (up.trans up3).trans up4, .inr (.inr (by rw [hs]; exact hh4)), na, os, ag, no2 rfl⟩
        first
          | exact wpAny_bind (wpAny_pure (wpAny_bind fin))
          | exact wpAny_bind fin
  refine wpAny_Try_except ?_
  refine wpAny_mono ((hb (wTwo X.K c1 c2 i t1 t2 Wout D) (X.pn ++ pins) (fun e s₁ => wpAny (model X.prog X.w) X.A (noteFrame e X.env) (fun _ s₂ => wpAny (model X.prog X.w) X.A (setFlight e none) (fun _ s₃ =>
    wpAny (model X.prog X.w) X.A (handleBy e X.env _) (SP X pins D) X.xe s₃) X.xe s₂) X.xe s₁) (fun u s' xx => ?_)).run [] s σ H D (I.toTry _) h) (fun f s1 hsp => ?_) (fun e s1 he => he)
  · obtain ⟨a, B, sI, pins', σ', H', cls, d, rfl, J', nb, up, sky, na, os, ag, w⟩ := xx
    exact clauses _ a _ s' rfl ⟨a, B, sI, pins', σ', H', cls, d, rfl, J', nb, up, sky, na, os, ag, w⟩
  · cases f with
    | next => obtain ⟨σ', H', J', q⟩ := hsp; exact wpAny_execs_nil ⟨σ', H', J'.ofTry ok, q⟩
    | brk => obtain ⟨σ', H', J', q⟩ := hsp; exact ⟨σ', H', J'.ofTry ok, q⟩
    | cont => obtain ⟨σ', H', J', q⟩ := hsp; exact ⟨σ', H', J'.ofTry ok, q⟩
    | ret u => obtain ⟨v, σ', H', J', r, q⟩ := hsp; exact ⟨v, σ', H', J'.ofTry ok, r, q⟩
end
end F
namespace K45
open PySem PySem.Spec PyProof.Rows L2 F
section
variable {X : Cx} {P : Program} {w : World} {K : PySem.W.Frag} {mg : Str → Option Value} {base : Heap}
/-- a text or nothing -/
def rEqT : R2 := fun x y H Q => ∃ (o : Option (List Nat)) (t : List Nat), x = optV o ∧ y = .str (S t) ∧ Q (.bl (decide (o = some t))) H
def rNeT : R2 := fun x y H Q => ∃ (o : Option (List Nat)) (t : List Nat), x = optV o ∧ y = .str (S t) ∧ Q (.bl (!decide (o = some t))) H
theorem dec_optV (o : Option (List Nat)) (t : List Nat) : decide (optV o = V.str (S t)) = decide (o = some t) := by
  cases o with
  | none => exact (decide_eq_decide).mpr ⟨fun h => (by have h' : V.non = V.str (S t) := h; cases h'), fun h => by cases h⟩
  | some u => exact (decide_eq_decide).mpr ⟨fun h => by have h' : V.str (S u) = V.str (S t) := h; injection h' with h'; rw [S_inj h'], fun h => by injection h with h; rw [h]; rfl⟩
theorem scal_optV (o : Option (List Nat)) (t : List Nat) : scal (optV o) (.str (S t)) = true := by cases o <;> rfl
theorem oEqT : OpR X (compareOp .Eq) rEqT := opI' op_eq fun x y H Q q => by
  obtain ⟨o, t, rfl, rfl, q⟩ := q
  exact ⟨scal_optV o t, by rw [dec_optV]; exact q⟩
theorem oNeT : OpR X (compareOp .NotEq) rNeT := opI' op_ne fun x y H Q q => by
  obtain ⟨o, t, rfl, rfl, q⟩ := q
  exact ⟨scal_optV o t, by rw [dec_optV]; exact q⟩
theorem qTrue {p : Prop} [Decidable p] {Q : VK} {H : Hp} (hp : p) (q : Q (.bl true) H) : Q (.bl (decide p)) H := by
  rw [decide_eq_true hp]
  exact q
/-! ### _law_ahead -/
def Ahd : Spec → Dat → Dat → Prop
  | .num n, d, e => ∃ k j : Int, k < j ∧ k.natAbs < 2 ^ 190 ∧ j.natAbs < 2 ^ 190 ∧ d = n.dat k ∧ e = n.dat j
  | .word _, d, e => ∃ x y, x < y ∧ d = .txt x ∧ e = .txt y
  | .choice n, d, e => ∃ x y, x ∈ n.names ∧ y ∈ n.names ∧ n.names.idxOf x < n.names.idxOf y ∧ d = .txt x ∧ e = .txt y
def sp_L_ahead (K : PySem.W.Frag) : Sp := fun vs H Q _ => ∃ (a : Addr) (s : Spec) (u v : V) (d e : Dat), vs = [u, v, .ref a] ∧ SpecAt H a s ∧ s.Ok ∧ VAt H u d ∧ VAt H v e ∧ Ahd s d e ∧ Q (.bl true) H
def t_L_ahead (P : Program) (w : World) (K : PySem.W.Frag) (mg : Str → Option Value) (base : Heap) : TS := tSeq (tIfS (tB1 (tOp (rEq1) (tOp (rIx1 K) (tV 2) (tC (.int 0))) (tC (.str (S [110, 117, 109, 98, 101, 114]))))) (tRet (tOp (rCmp fun i j => decide (i < j)) (tOp qMul (tOp (rIx1 K) (tV 0) (tC (.int 0))) (tOp (rIx1 K) (tV 1) (tC (.int 1)))) (tOp qMul (tOp (rIx1 K) (tV 1) (tC (.int 0))) (tOp (rIx1 K) (tV 0) (tC (.int 1)))))) (tNext)) (tSeq (tIfS (tB1 (tOp (rEq1) (tOp (rIx1 K) (tV 2) (tC (.int 0))) (tC (.str (S [119, 111, 114, 100]))))) (tRet (tOp (rLtS) (tV 0) (tV 1))) (tNext)) (tRet (tOp (rCmp fun i j => decide (i < j)) (tLm (rIndex1 K) (tOp (rIx1 K) (tV 2) (tC (.int 1))) (tCons (tV 0) (tNil))) (tLm (rIndex1 K) (tOp (rIx1 K) (tV 2) (tC (.int 1))) (tCons (tV 1) (tNil))))))
theorem der_L_ahead {P : Program} {w : World} {K : PySem.W.Frag} {mg : Str → Option Value} {base : Heap} (T : TX w K mg) {f : Addr} {cdv : Value} {A : Around} {outer : List Env} {s : Shared} {H : Hp} {E : XK} (hr : Room 0 (A.deeper (envOfC "_law_ahead" (defScope s_L_ahead) s.heap.objs.size f cdv))) :
    PSs (cxOf CX0 P w K mg base N_L_ahead "_law_ahead" (defScope s_L_ahead) f cdv A outer s H E).nox (defBody s_L_ahead) (t_L_ahead P w K mg base) :=
  pss_cons (ps_if (tCmp1 (oEq) (fIx (fV 2 nm_L_ahead__law_spec_here rfl) (pe_int) (fun _ _ => rfl)) (fS rfl) (nomark _)) (pss_one (ps_ret (pe_cmpR (oLt) (pe_op oMul (fIx (fV 0 nm_L_ahead__law_one rfl) (pe_int) (fun _ _ => rfl)) (fIx (fV 1 nm_L_ahead__law_other rfl) (pe_int) (fun _ _ => rfl))) (pe_op oMul (fIx (fV 1 nm_L_ahead__law_other rfl) (pe_int) (fun _ _ => rfl)) (fIx (fV 0 nm_L_ahead__law_one rfl) (pe_int) (fun _ _ => rfl))) (nomark _)))) (pss_nil)) (pss_cons (ps_if (tCmp1 (oEq) (fIx (fV 2 nm_L_ahead__law_spec_here rfl) (pe_int) (fun _ _ => rfl)) (fS rfl) (nomark _)) (pss_one (ps_ret (pe_cmpR (oLtS) (fV 0 nm_L_ahead__law_one rfl) (fV 1 nm_L_ahead__law_other rfl) (nomark _)))) (pss_nil)) (pss_one (ps_ret (pe_cmpR (oLt) (fLm PySem.F.slot_list_index PySem.F.type_list_index mIndex (fIx (fV 2 nm_L_ahead__law_spec_here rfl) (pe_int) (fun _ _ => rfl)) (aCons (fV 0 nm_L_ahead__law_one rfl) (pa_nil) rfl) rfl rfl (by decide) rfl) (fLm PySem.F.slot_list_index PySem.F.type_list_index mIndex (fIx (fV 2 nm_L_ahead__law_spec_here rfl) (pe_int) (fun _ _ => rfl)) (aCons (fV 1 nm_L_ahead__law_other rfl) (pa_nil) rfl) rfl rfl (by decide) rfl) (nomark _)))))
theorem rd_L_ahead (T : TX w K mg) (vs : List V) (H : Hp) (Q : VK) (E : XK) (h : sp_L_ahead K vs H Q E) : t_L_ahead P w K mg base { nx := fun _ H' => Q .non H', rt := Q } (start N_L_ahead vs) H := by
  obtain ⟨a, s, u, v, d, e, rfl, hS, ok, hu, hv, hA, q⟩ := h
  obtain ⟨xs, hx, k0, _⟩ := hS.com
  refine ⟨xs, _, .inr (SqT.of hx), k0, ?_⟩
  cases s with
  | num n =>
    have ok' : n.Ok := ok
    obtain ⟨k, j, hkj, hk, hj, rfl, rfl⟩ := hA
    obtain ⟨p, rfl, hp⟩ := hu
    obtain ⟨p2, rfl, hp2⟩ := hv
    have t1 : SqT K H p _ := SqT.of hp
    have t2 : SqT K H p2 _ := SqT.of hp2
    have hs := ok'.Spos
    obtain ⟨b1, b2, b3, b4⟩ := dat_back (k := k) hs.1
    obtain ⟨c1, c2, c3, c4⟩ := dat_back (k := j) hs.1
    have g2 : (2 : Nat) ^ 190 < 2 ^ 200 := by decide
    refine ⟨_, _, .inr t1, at0, _, _, .inr t2, at1, mulOk (by omega) (by omega), _, _, .inr t2, at0, _, _, .inr t1, at1, mulOk (by omega) (by omega), ?_⟩
    have key : frT k n.S * frB j n.S < frT j n.S * frB k n.S := by
      have e1 : k = (Int.gcd k n.S : Int) * frT k n.S := (Int.mul_ediv_cancel' (Int.gcd_dvd_left k n.S)).symm
      have e2 : n.S = (Int.gcd k n.S : Int) * frB k n.S := (Int.mul_ediv_cancel' (Int.gcd_dvd_right k n.S)).symm
      have e3 : j = (Int.gcd j n.S : Int) * frT j n.S := (Int.mul_ediv_cancel' (Int.gcd_dvd_left j n.S)).symm
      have e4 : n.S = (Int.gcd j n.S : Int) * frB j n.S := (Int.mul_ediv_cancel' (Int.gcd_dvd_right j n.S)).symm
      have h1 : k * frB k n.S = frT k n.S * n.S := by
        calc k * frB k n.S = (Int.gcd k n.S : Int) * frT k n.S * frB k n.S := by rw [← e1]
          _ = frT k n.S * ((Int.gcd k n.S : Int) * frB k n.S) := by rw [Int.mul_comm (Int.gcd k n.S : Int) (frT k n.S), Int.mul_assoc]
          _ = frT k n.S * n.S := by rw [← e2]
      have h2 : j * frB j n.S = frT j n.S * n.S := by
        calc j * frB j n.S = (Int.gcd j n.S : Int) * frT j n.S * frB j n.S := by rw [← e3]
          _ = frT j n.S * ((Int.gcd j n.S : Int) * frB j n.S) := by rw [Int.mul_comm (Int.gcd j n.S : Int) (frT j n.S), Int.mul_assoc]
          _ = frT j n.S * n.S := by rw [← e4]
      generalize frT k n.S = x at h1
      generalize frT j n.S = y at h2
      generalize frB k n.S = bk at h1 b2
      generalize frB j n.S = bj at h2 c2
      generalize n.S = s at h1 h2 hs
      have m1 : k * (bk * bj) < j * (bk * bj) := Int.mul_lt_mul_of_pos_right hkj (Int.mul_pos b2 c2)
      have m2 : k * (bk * bj) = x * bj * s := by rw [← Int.mul_assoc, h1, Int.mul_assoc, Int.mul_comm s bj, ← Int.mul_assoc]
      have m3 : j * (bk * bj) = y * bk * s := by rw [Int.mul_comm bk bj, ← Int.mul_assoc, h2, Int.mul_assoc, Int.mul_comm s bk, ← Int.mul_assoc]
      rw [m2, m3] at m1
      exact Int.lt_of_mul_lt_mul_right m1 (by omega)
    exact qTrue (Q := Q) key q
  | word n =>
    obtain ⟨x, y, hxy, rfl, rfl⟩ := hA
    obtain rfl : u = .str (S x) := hu
    obtain rfl : v = .str (S y) := hv
    refine ⟨xs, _, .inr (SqT.of hx), k0, x, y, rfl, rfl, ?_⟩
    exact qTrue (Q := Q) hxy q
  | choice n =>
    obtain ⟨x, y, mx, my, hxy, rfl, rfl⟩ := hA
    obtain rfl : u = .str (S x) := hu
    obtain rfl : v = .str (S y) := hv
    obtain ⟨na, hn, hv⟩ := id hS
    have t : SqT K H a (n.vals na) := SqT.of hv
    refine ⟨xs, _, .inr (SqT.of hx), k0, ?_⟩
    refine ⟨_, _, .inr t, at1, ⟨_, hn⟩, na, n.names, x, rfl, rfl, SqL.of hn, mx, _, _, .inr t, at1, ⟨_, hn⟩, na, n.names, y, rfl, rfl, SqL.of hn, my, ?_⟩
    exact qTrue (Q := Q) (by omega : ((n.names.idxOf x : Nat) : Int) < ((n.names.idxOf y : Nat) : Int)) q
theorem ok_L_ahead {P : Program} {w : World} {K : PySem.W.Frag} {mg : Str → Option Value} {base : Heap} (T : TX w K mg) : Fn P w K mg base CX0 1 "_law_ahead" (sp_L_ahead K) := by
  obtain ⟨fd, F⟩ := T.d_L_ahead
  refine ⟨_, fd, A_L_ahead, T.g_L_ahead, F.kp, fnD F sc_L_ahead (fun vs H Q E h => ?_) (fun cdv A outer s H vs Q E hr h => ⟨_, PSs.nox (der_L_ahead T  hr), rd_L_ahead T vs H Q E h⟩), F.bindsN fun _ _ _ _ _ _ us hl => match us, hl with | [_, _, _], _ => rfl⟩
  obtain ⟨_, _, _, _, _, _, rfl, _⟩ := h
  rfl
/-! ### _law_near -/
theorem figs_low {b : Nat} (hb : 2 ≤ b) (n : Nat) : b ≤ n → b ^ ((figs b n).length - 1) ≤ n := by
  induction n using Nat.strongRecOn with
  | _ n ih =>
    intro h
    rw [figs_ge hb h, List.length_append]
    show b ^ ((figs b (n / b)).length + 1 - 1) ≤ n
    rw [Nat.add_sub_cancel]
    have hdm : n / b * b ≤ n := Nat.div_mul_le_self n b
    by_cases c : n / b < b
    · rw [figs_lt c]
      show b ^ 1 ≤ n
      rw [Nat.pow_one]
      exact h
    · have h1 := ih (n / b) (Nat.div_lt_self (by omega) (by omega)) (by omega)
      have h2 : 1 ≤ (figs b (n / b)).length := by
        rw [figs_ge hb (by omega), List.length_append]
        show 1 ≤ _ + 1
        omega
      obtain ⟨l, hl⟩ : ∃ l, (figs b (n / b)).length = l + 1 := ⟨(figs b (n / b)).length - 1, by omega⟩
      rw [hl] at h1 ⊢
      rw [Nat.pow_succ]
      have h3 : b ^ l * b ≤ n / b * b := Nat.mul_le_mul_right _ h1
      omega
def NotChoice : Spec → Prop
  | .choice _ => False
  | _ => True
def sp_L_near : Sp := fun vs H Q _ => ∃ (a : Addr) (s : Spec) (v : V) (d : Dat), vs = [v, .ref a] ∧ SpecAt H a s ∧ s.Ok ∧ NotChoice s ∧ VAt H v d ∧ IsVal s d ∧ ∀ p H' ds, Ex H H' → LAt H' p ds → (∀ e ∈ ds, Cand s e) → Q (.ref p) H'
def t_L_near (P : Program) (w : World) (K : PySem.W.Frag) (mg : Str → Option Value) (base : Heap) : TS := tSeq (tSetK 2 (tOp (rIx1 K) (tV 1) (tUn qNeg (tC (.int 3))))) (tSeq (tIfS (tB1 (tOp (rEq1) (tOp (rIx1 K) (tV 1) (tC (.int 0))) (tC (.str (S [119, 111, 114, 100]))))) (tRet (tLst1 (tCons (tOp qAdd (tV 0) (tV 2)) (tCons (tOp qAdd (tV 2) (tV 0)) (tCons (tSl (rSlS1) (tV 0) (tPart1 (tC (.int 1))) tNoPart) (tCons (tSl (rSlS1) (tV 0) tNoPart (tPart1 (tUn qNeg (tC (.int 1))))) (tNil))))))) (tNext)) (tSeq (tSetK 3 (tOp (rIx1 K) (tV 1) (tC (.int 3)))) (tSeq (tSetK 4 (tCall (sp_L_power) [] E0 (tCons (tV 3) (tCons (tOp (rIx1 K) (tV 1) (tC (.int 2))) (tNil))))) (tSeq (tSetK 5 (tOp qDiv (tOp qMul (tCB (rAbs1) (tCons (tOp (rIx1 K) (tV 0) (tC (.int 0))) (tNil))) (tV 4)) (tOp (rIx1 K) (tV 0) (tC (.int 1))))) (tSeq (tSetK 6 (tCall (sp_L_power) [] E0 (tCons (tV 3) (tCons (tCB (rLen1 K) (tCons (tCall (sp_L_figures) [] E0 (tCons (tV 5) (tCons (tV 3) (tNil)))) (tNil))) (tNil))))) (tSeq (tSetK 7 (tCB (rMax1) (tCons (tC (.int 0)) (tCons (tM1 (rFind1) (tC (.str (S [48, 49, 50, 51, 52, 53, 54, 55, 56, 57, 97, 98, 99, 100, 101, 102]))) (tV 2)) (tNil))))) (tSeq (tSetK 8 (tLst1 (tCons (tOp qDiv (tV 5) (tV 3)) (tCons (tOp qAdd (tOp qMul (tV 5) (tV 3)) (tV 7)) (tCons (tOp qAdd (tV 5) (tOp qMul (tV 7) (tV 6))) (tCons (tOp qMod (tV 5) (tOp qDiv (tV 6) (tV 3))) (tNil))))))) (tSeq (tSetK 8 (tOp qAdd (tV 8) (tLc (iList K (tV 8)) (gName 9) (tYes) (tOp qSub (tC (.int 0)) (tV 9)) [9]))) (tRet (tLc (iList K (tV 8)) (gName 9) (tYes) (tCall (sp_L_lowest) [] E0 (tCons (tV 9) (tCons (tV 4) (tNil)))) [9]))))))))))
theorem der_L_near {P : Program} {w : World} {K : PySem.W.Frag} {mg : Str → Option Value} {base : Heap} (T : TX w K mg) (C_L_power : Fn P w K mg base CX0 1 "_law_power" (sp_L_power)) (C_L_figures : Fn P w K mg base CX0 1 "_law_figures" (sp_L_figures)) (C_L_lowest : Fn P w K mg base CX0 2 "_law_lowest" (sp_L_lowest)) {f : Addr} {cdv : Value} {A : Around} {outer : List Env} {s : Shared} {H : Hp} {E : XK} (hr : Room 2 (A.deeper (envOfC "_law_near" (defScope s_L_near) s.heap.objs.size f cdv))) :
    PSs (cxOf CX0 P w K mg base N_L_near "_law_near" (defScope s_L_near) f cdv A outer s H E).nox (defBody s_L_near) (t_L_near P w K mg base) :=
  pss_cons (sSetK (i := 2) sc_L_near.nd rfl nl_L_near__law_fill (fIx (fV 1 nm_L_near__law_spec_here rfl) (pe_un oNeg (pe_int)) (fun _ _ => rfl)) rfl (.inl rfl)) (pss_cons (ps_if (tCmp1 (oEq) (fIx (fV 1 nm_L_near__law_spec_here rfl) (pe_int) (fun _ _ => rfl)) (fS rfl) (nomark _)) (pss_one (ps_ret (fLst (aCons (pe_op oAdd (fV 0 nm_L_near__law_one rfl) (fV 2 nm_L_near__law_fill rfl)) (aCons (pe_op oAdd (fV 2 nm_L_near__law_fill rfl) (fV 0 nm_L_near__law_one rfl)) (aCons (pe_slice slS1 (fV 0 nm_L_near__law_one rfl) (oSome (pe_int)) po_none) (aCons (pe_slice slS1 (fV 0 nm_L_near__law_one rfl) po_none (oSome (pe_un oNeg (pe_int)))) (pa_nil) rfl) rfl) rfl) rfl)))) (pss_nil)) (pss_cons (sSetK (i := 3) sc_L_near.nd rfl nl_L_near__law_base (fIx (fV 1 nm_L_near__law_spec_here rfl) (pe_int) (fun _ _ => rfl)) rfl (.inl rfl)) (pss_cons (sSetK (i := 4) sc_L_near.nd rfl nl_L_near__law_step (fCall C_L_power (hr.mono (by decide)) ng_L_near__law_power pass0 (aCons (fV 3 nm_L_near__law_base rfl) (aCons (fIx (fV 1 nm_L_near__law_spec_here rfl) (pe_int) (fun _ _ => rfl)) (pa_nil) rfl) rfl) rfl) rfl (.inl rfl)) (pss_cons (sSetK (i := 5) sc_L_near.nd rfl nl_L_near__law_steps_here (pe_op oDiv (pe_op oMul (fB cAbs ng_L_near_abs T.b_abs bb_abs (aCons (fIx (fV 0 nm_L_near__law_one rfl) (pe_int) (fun _ _ => rfl)) (pa_nil) rfl) rfl) (fV 4 nm_L_near__law_step rfl)) (fIx (fV 0 nm_L_near__law_one rfl) (pe_int) (fun _ _ => rfl))) rfl (.inl rfl)) (pss_cons (sSetK (i := 6) sc_L_near.nd rfl nl_L_near__law_great_here (fCall C_L_power (hr.mono (by decide)) ng_L_near__law_power pass0 (aCons (fV 3 nm_L_near__law_base rfl) (aCons (fB cLen ng_L_near_len T.b_len bb_len (aCons (fCall C_L_figures (hr.mono (by decide)) ng_L_near__law_figures pass0 (aCons (fV 5 nm_L_near__law_steps_here rfl) (aCons (fV 3 nm_L_near__law_base rfl) (pa_nil) rfl) rfl) rfl) (pa_nil) rfl) rfl) (pa_nil) rfl) rfl) rfl) rfl (.inl rfl)) (pss_cons (sSetK (i := 7) sc_L_near.nd rfl nl_L_near__law_figure (fB (cMax rfl) ng_L_near_max T.b_max bb_max (aCons (pe_int) (aCons (fM1 PySem.F.slot_str_find PySem.F.type_str_find mFind (fS rfl) (fV 2 nm_L_near__law_fill rfl) rfl rfl rfl) (pa_nil) rfl) rfl) rfl) rfl (.inl rfl)) (pss_cons (sSetK (i := 8) sc_L_near.nd rfl nl_L_near__law_some (fLst (aCons (pe_op oDiv (fV 5 nm_L_near__law_steps_here rfl) (fV 3 nm_L_near__law_base rfl)) (aCons (pe_op oAdd (pe_op oMul (fV 5 nm_L_near__law_steps_here rfl) (fV 3 nm_L_near__law_base rfl)) (fV 7 nm_L_near__law_figure rfl)) (aCons (pe_op oAdd (fV 5 nm_L_near__law_steps_here rfl) (pe_op oMul (fV 7 nm_L_near__law_figure rfl) (fV 6 nm_L_near__law_great_here rfl))) (aCons (pe_op oMod (fV 5 nm_L_near__law_steps_here rfl) (pe_op oDiv (fV 6 nm_L_near__law_great_here rfl) (fV 3 nm_L_near__law_base rfl))) (pa_nil) rfl) rfl) rfl) rfl)) rfl (.inl rfl)) (pss_cons (sSetK (i := 8) sc_L_near.nd rfl nl_L_near__law_some (pe_op oAdd (fV 8 nm_L_near__law_some rfl) (pe_lc (own := [("_law_each", 9)]) (g := gName 9) rfl sc_L_near.nd (pi_list (fV 8 nm_L_near__law_some rfl)) (blkOk_by (N := N_L_near) (sc := defScope s_L_near) (by decide +kernel)) (fun _ _ _ _ _ => gN sc_L_near.nd rfl (nl_of (by kernel_rfl)) (.inr (by kernel_rfl))) (fun _ _ _ _ _ => pts_nil) (fun _ _ _ _ _ => pe_op oSub (pe_int) (fV 9 (nm_of (by kernel_rfl)) rfl)))) rfl (.inl rfl)) (pss_one (ps_ret (pe_lc (own := [("_law_each", 9)]) (g := gName 9) rfl sc_L_near.nd (pi_list (fV 8 nm_L_near__law_some rfl)) (blkOk_by (N := N_L_near) (sc := defScope s_L_near) (by decide +kernel)) (fun _ _ _ _ _ => gN sc_L_near.nd rfl (nl_of (by kernel_rfl)) (.inr (by kernel_rfl))) (fun _ _ _ _ _ => pts_nil) (fun _ _ _ _ _ => fCall C_L_lowest (hr.mono (by decide)) (ng_of (by kernel_rfl)) pass0 (aCons (fV 9 (nm_of (by kernel_rfl)) rfl) (aCons (fV 4 (nm_of (by kernel_rfl)) rfl) (pa_nil) rfl) rfl) rfl))))))))))))
theorem rd_L_near (T : TX w K mg) (vs : List V) (H : Hp) (Q : VK) (E : XK) (h : sp_L_near vs H Q E) : t_L_near P w K mg base { nx := fun _ H' => Q .non H', rt := Q } (start N_L_near vs) H := by
  obtain ⟨a, s, v, d, rfl, hS, ok, hnc, hv, hd, q⟩ := h
  show t_L_near P w K mg base _ [some v, some (.ref a), none, none, none, none, none, none, none, none] H
  obtain ⟨xs, hx, k0, k4, k3, _⟩ := hS.com
  refine ⟨xs, _, .inr (SqT.of hx), k3, xs, _, .inr (SqT.of hx), k0, ?_⟩
  cases s with
  | choice n => exact hnc.elim
  | word n =>
    have ok' : n.Ok := ok
    obtain ⟨x, rfl, hx2⟩ := hd
    obtain rfl : v = .str (S x) := hv
    have hxl : x.length ≤ 24 := Nat.le_trans hx2.1.2 ok'.l2
    have hxc : ∀ c ∈ x, c < 1000 := fun c hc => ok'.sb c (hx2.2 c hc)
    have hfb := ok'.fb
    refine ⟨_, _, rfl, rfl, by show x.length + 1 ≤ 100000; omega, _, _, rfl, rfl, by show 1 + x.length ≤ 100000; omega, x, rfl, by omega, x, rfl, by omega, l100 rfl, fun p H1 h1 e1 l1 => ?_⟩
    rw [cutN_last, cutN_from (by decide)] at l1
    refine q p H1 ([x ++ [n.fill], [n.fill] ++ x, x.drop 1, x.dropLast].map Dat.txt) e1 ⟨_, l1, VsAt.txts [x ++ [n.fill], [n.fill] ++ x, x.drop 1, x.dropLast]⟩ fun e he => ?_
    obtain ⟨y, hy, rfl⟩ := List.mem_map.mp he
    refine ⟨y, rfl, ?_⟩
    have hy2 : y = x ++ [n.fill] ∨ y = [n.fill] ++ x ∨ y = x.drop 1 ∨ y = x.dropLast := by simpa using hy
    rcases hy2 with rfl | rfl | rfl | rfl
    · refine ⟨by rw [List.length_append]; show x.length + 1 ≤ 200; omega, fun c hc => ?_⟩
      rcases List.mem_append.mp hc with hc | hc
      · exact hxc c hc
      · rw [List.mem_singleton.mp hc]; exact hfb
    · refine ⟨by rw [List.length_append]; show 1 + x.length ≤ 200; omega, fun c hc => ?_⟩
      rcases List.mem_append.mp hc with hc | hc
      · rw [List.mem_singleton.mp hc]; exact hfb
      · exact hxc c hc
    · exact ⟨by rw [List.length_drop]; omega, fun c hc => hxc c (List.mem_of_mem_drop hc)⟩
    · exact ⟨by rw [List.length_dropLast]; omega, fun c hc => hxc c (List.dropLast_subset _ hc)⟩
  | num n =>
    have ok' : n.Ok := ok
    obtain ⟨k, hk, rfl⟩ := hd
    obtain ⟨p, rfl, hp⟩ := hv
    have hs := ok'.Spos
    have hB := ok'.Bbd
    obtain ⟨b1, b2, b3, b4⟩ := dat_back (k := k) hs.1
    have t : SqT K H a n.vals := SqT.of hS
    have tp : SqT K H p _ := SqT.of hp
    have g2 : (2 : Nat) ^ 80 < 2 ^ 200 := by decide
    have hb1 := ok'.b1
    have hb2 := ok'.b2
    refine ⟨_, _, .inr t, atI_nat (j := 3) rfl, ?_⟩
    refine ⟨_, _, .inr t, at2, n.base, n.pl, rfl, hb2, by have := ok'.p; omega, ?_⟩
    refine ⟨_, _, .inr tp, at0, mulOk (by omega) (by have e : (n.S).natAbs < 2 ^ 200 := (by omega); exact e), _, _, .inr tp, at1, wide_div (b := 200) b2 (by omega) (by decide) (by decide), ?_⟩
    obtain ⟨m, hm, hm2⟩ : ∃ m : Nat, (((frT k n.S).natAbs : Nat) : Int) * ((n.base ^ n.pl : Nat) : Int) / frB k n.S = m ∧ m < 2 ^ 80 := by
      have e0 : (((frT k n.S).natAbs : Nat) : Int) * n.S / frB k n.S = (k.natAbs : Nat) := by
        rcases Int.le_total 0 (frT k n.S) with c | c
        · have e1 : (((frT k n.S).natAbs : Nat) : Int) = frT k n.S := by omega
          rw [e1, b1]
          have : 0 ≤ k := by
            rw [← b1]
            exact Int.ediv_nonneg (Int.mul_nonneg c (by omega)) (by omega)
          omega
        · have e1 : (((frT k n.S).natAbs : Nat) : Int) = -frT k n.S := by omega
          have hdv : frB k n.S ∣ frT k n.S * n.S := Int.dvd_of_emod_eq_zero (dat_low (k := k) hs.1).2
          rw [e1, Int.neg_mul, Int.neg_ediv_of_dvd hdv, b1]
          have : 0 ≤ -k := by
            rw [← b1, ← Int.neg_ediv_of_dvd hdv, ← Int.neg_mul]
            exact Int.ediv_nonneg (Int.mul_nonneg (by omega) (by omega)) (by omega)
          omega
      exact ⟨k.natAbs, e0, by omega⟩
    rw [hm]
    have hfl : (figs n.base m).length ≤ 80 := by
      refine figs_len hb1 (by decide) (Nat.lt_of_lt_of_le hm2 (Nat.pow_le_pow_left hb1 80))
    have hne := (figs_val hb1 hb2 m).2.ne
    obtain ⟨L, hL⟩ : ∃ L, (figs n.base m).length = L + 1 := ⟨(figs n.base m).length - 1, by have := List.length_pos_iff.mpr hne; omega⟩
    have hgp : n.base ^ (L + 1) ≤ 2 ^ 90 := by
      have g3 : (2 : Nat) ^ 80 * 16 ≤ 2 ^ 90 := by decide
      by_cases c : n.base ≤ m
      · have h1 := figs_low hb1 m c
        rw [hL, Nat.add_sub_cancel] at h1
        rw [Nat.pow_succ]
        have h2 : n.base ^ L * n.base ≤ m * 16 := Nat.mul_le_mul h1 hb2
        omega
      · have h1 : figs n.base m = [dig m] := figs_lt (by omega)
        have h2 : L = 0 := by
          rw [h1] at hL
          simp at hL
          exact hL.symm ▸ rfl
        rw [h2, Nat.zero_add, Nat.pow_one]
        have g4 : (16 : Nat) ≤ 2 ^ 90 := by decide
        omega
    refine ⟨m, n.base, rfl, hb1, hb2, by omega, _, rfl, by omega, n.base, L + 1, by rw [hL]; rfl, hb2, by omega, ?_⟩
    obtain ⟨fg, hfg, hfg2⟩ : ∃ fg : Nat, max (0 : Int) (fnd n.fill figs16) = fg ∧ fg ≤ 16 := by
      unfold fnd
      split
      · rename_i hm3
        have := List.idxOf_lt_length_of_mem hm3
        have h16 : figs16.length = 16 := rfl
        exact ⟨figs16.idxOf n.fill, by omega, by omega⟩
      · exact ⟨0, by omega, by omega⟩
    refine ⟨⟨_, rfl⟩, figs16, n.fill, rfl, rfl, ?_⟩
    have hdv : ((n.base ^ (L + 1) : Nat) : Int) / (n.base : Int) = ((n.base ^ L : Nat) : Int) := by
      rw [Nat.pow_succ, Int.natCast_mul, Int.mul_ediv_cancel _ (by omega)]
    have hLp : 0 < n.base ^ L := Nat.pow_pos (by omega)
    have g5 : (2 : Nat) ^ 90 < 2 ^ 200 := by decide
    have hfgN : (max (0 : Int) (fnd n.fill figs16)).natAbs ≤ 16 := by rw [hfg]; omega
    refine ⟨cdivN hb1 hb2 _, mulOk (by omega) (by omega), mulOk (by omega) (by rw [Int.natAbs_natCast]; omega), wide_div (b := 10) (by omega) (by omega) (by decide) (by decide), ?_, l100 rfl, fun p8 H8 h8 e8 l8 => ?_⟩
    · rw [hdv]
      omega
    rw [hdv, hfg] at l8
    obtain ⟨ns, hns, hnl, hnb⟩ : ∃ ns : List Int, H8 p8 = some (.lst (ns.map V.int)) ∧ ns.length = 4 ∧ ∀ x ∈ ns, x.natAbs < 2 ^ 150 := by
      refine ⟨[(m : Int) / (n.base : Int), (m : Int) * (n.base : Int) + (fg : Int), (m : Int) + (fg : Int) * ((n.base ^ (L + 1) : Nat) : Int), (m : Int) % ((n.base ^ L : Nat) : Int)], l8, rfl, fun x hx => ?_⟩
      have hx2 : x = (m : Int) / (n.base : Int) ∨ x = (m : Int) * (n.base : Int) + (fg : Int) ∨ x = (m : Int) + (fg : Int) * ((n.base ^ (L + 1) : Nat) : Int) ∨ x = (m : Int) % ((n.base ^ L : Nat) : Int) := by simpa using hx
      have g6 : (2 : Nat) ^ 90 * 17 + 2 ^ 80 * 17 < 2 ^ 150 := by decide
      rcases hx2 with rfl | rfl | rfl | rfl
      · rw [← Int.natCast_ediv, Int.natAbs_natCast]
        have := Nat.div_le_self m n.base
        omega
      · rw [← Int.natCast_mul, ← Int.natCast_add, Int.natAbs_natCast]
        have : m * n.base ≤ 2 ^ 80 * 16 := Nat.mul_le_mul (by omega) hb2
        omega
      · rw [← Int.natCast_mul, ← Int.natCast_add, Int.natAbs_natCast]
        have : fg * n.base ^ (L + 1) ≤ 16 * 2 ^ 90 := Nat.mul_le_mul hfg2 hgp
        omega
      · rw [← Int.natCast_emod, Int.natAbs_natCast]
        have := Nat.mod_le m (n.base ^ L)
        omega
    clear l8
    refine ⟨p8, rfl, ⟨_, SqL.of hns⟩, fun D hD => ?_⟩
    refine lc_list (K := K) (a := p8) (xs := ns.map V.int) (fun i H' => Ex H8 H' ∧ H' D = some (.lst (((ns.take i).map fun x => 0 - x).map V.int))) ⟨Ex.new hD, upd_same⟩ (fun i H' _ hh => SqL.of (hh.1 _ _ hns)) ?_ ?_
    · rintro i x H' hx ⟨e9, hd9⟩
      rw [List.getElem?_map] at hx
      obtain ⟨z, hz, rfl⟩ : ∃ z, ns[i]? = some z ∧ x = .int z := by
        cases hq : ns[i]? with
        | none => rw [hq] at hx; cases hx
        | some z => rw [hq] at hx; injection hx with hx; exact ⟨z, rfl, hx.symm⟩
      refine ⟨rfl, _, hd9, szT ?_, Ex.mut e9 hD, ?_⟩
      · rw [List.length_map, List.length_map, List.length_take]
        omega
      · rw [upd_same, take_snoc hz, List.map_append, List.map_append]
        rfl
    rintro H9 ⟨e9, hd9⟩
    rw [List.length_map, List.take_length] at hd9
    refine ⟨_, _, e9 _ _ hns, hd9, by rw [List.length_map, List.length_map, List.length_map]; omega, fun p10 H10 h10 e10 l10 => ?_⟩
    rw [← List.map_append] at l10
    generalize hN2 : ns ++ ns.map (fun x => 0 - x) = ns2 at l10
    have hn2 : ns2.length = 8 ∧ ∀ x ∈ ns2, x.natAbs < 2 ^ 150 := by
      rw [← hN2]
      refine ⟨by rw [List.length_append, List.length_map]; omega, fun x hx => ?_⟩
      rcases List.mem_append.mp hx with hx | hx
      · exact hnb x hx
      · obtain ⟨z, hz, rfl⟩ := List.mem_map.mp hx
        have := hnb z hz
        omega
    refine ⟨p10, rfl, ⟨_, SqL.of l10⟩, fun D2 hD2 => ?_⟩
    have e010 : Ex H H10 := Ex.trans e8 (Ex.trans e9 e10)
    refine lc_list (K := K) (a := p10) (xs := ns2.map V.int) (fun i H' => Ex H10 H' ∧ LAt H' D2 ((ns2.take i).map n.dat)) ⟨Ex.new hD2, [], upd_same, trivial⟩ (fun i H' _ hh => SqL.of (hh.1 _ _ l10)) ?_ ?_
    · rintro i x H' hx ⟨e5, ws, hd, hws⟩
      rw [List.getElem?_map] at hx
      obtain ⟨z, hz, rfl⟩ : ∃ z, ns2[i]? = some z ∧ x = .int z := by
        cases hq : ns2[i]? with
        | none => rw [hq] at hx; cases hx
        | some z => rw [hq] at hx; injection hx with hx; exact ⟨z, rfl, hx.symm⟩
      refine ⟨rfl, z, n.S, rfl, hs.1, hs.2, fun p6 H6 h6 e6 l6 => ?_⟩
      have hd6 := e6 _ _ hd
      refine ⟨ws, hd6, szT ?_, Ex.mut (Ex.trans e5 e6) hD2, ws ++ [.ref p6], upd_same, ?_⟩
      · rw [hws.len, List.length_map, List.length_take]
        omega
      · have hne2 : ∀ a b, H6 D2 ≠ some (.tup [.int a, .int b]) := fun a b z => by
          rw [hd6] at z
          cases z
        rw [take_snoc hz, List.map_append]
        exact VsAt.app ((hws.mono e6).over hne2) (VAt.over hne2 ⟨p6, rfl, l6⟩)
    · rintro H' ⟨e5, hL⟩
      rw [List.length_map, List.take_length] at hL
      refine q D2 H' _ (Ex.trans e010 e5) hL fun e he => ?_
      obtain ⟨z, hz, rfl⟩ := List.mem_map.mp he
      have g7 : (2 : Nat) ^ 150 < 2 ^ 190 := by decide
      exact ⟨z, by have := hn2.2 z hz; omega, rfl⟩
theorem ok_L_near {P : Program} {w : World} {K : PySem.W.Frag} {mg : Str → Option Value} {base : Heap} (T : TX w K mg) : Fn P w K mg base CX0 3 "_law_near" (sp_L_near) := by
  obtain ⟨fd, F⟩ := T.d_L_near
  refine ⟨_, fd, A_L_near, T.g_L_near, F.kp, fnD F sc_L_near (fun vs H Q E h => ?_) (fun cdv A outer s H vs Q E hr h => ⟨_, PSs.nox (der_L_near T (ok_L_power T) (ok_L_figures T) (ok_L_lowest T) hr), rd_L_near T vs H Q E h⟩), F.bindsN fun _ _ _ _ _ _ us hl => match us, hl with | [_, _], _ => rfl⟩
  obtain ⟨_, _, _, _, rfl, _⟩ := h
  rfl
end
end K45
namespace K45
open PySem PySem.Spec PyProof.Rows L2 F
/-! ### what is told is sound and complete -/
theorem dat_inj {n : NS} (ok : n.Ok) {k j : Int} (h : n.dat k = n.dat j) : k = j := by
  have h' : Dat.num (frT k n.S) (frB k n.S) = Dat.num (frT j n.S) (frB j n.S) := h
  injection h' with h1 h2
  have e1 := (dat_back (k := k) ok.Spos.1).1
  have e2 := (dat_back (k := j) ok.Spos.1).1
  rw [h1, h2] at e1
  omega
theorem text_txt {s : Spec} (hs : s.side ≠ sInside) (x t : List Nat) (hp : s.partsOf (.txt x) = ([], x)) : s.textOf (.txt x) = some t ↔ s.fits x t := by
  unfold Spec.textOf Spec.fits Spec.filled
  rw [hp]
  show (if (s.strict && decide (s.width < 0 + x.length)) = true then none else some (if s.side = sInside then padI s.width s.fill [] x else padT s.width s.fill s.side ([] ++ x))) = some t ↔ _
  rw [Nat.zero_add, if_neg hs, List.nil_append]
  by_cases c : (s.strict && decide (s.width < x.length)) = true
  · rw [if_pos c]
    constructor
    · intro h; cases h
    · intro h; rw [h.1] at c; cases c
  · rw [if_neg c]
    have c' : (s.strict && decide (s.width < x.length)) = false := by simpa using c
    constructor
    · intro h; injection h with h; exact ⟨c', h⟩
    · intro h; rw [h.2]
theorem side3 {x : List Nat} (h : x ∈ sides3) : x ≠ sInside := by
  have : ∀ x ∈ sides3, x ≠ sInside := by decide
  exact this x h
theorem text_num {n : NS} (ok : n.Ok) (k : Int) (t : List Nat) (hk : k.natAbs < n.B) : (Spec.num n).textOf (n.dat k) = some t ↔ n.HitK t k := by
  unfold Spec.textOf NS.HitK NS.Hit
  rw [parts_dat ok]
  show (if (n.strict && decide (n.width < (n.parts k).1.length + (n.parts k).2.length)) = true then none else some (n.filled (n.parts k).1 (n.parts k).2)) = some t ↔ _
  unfold NS.parts
  by_cases c : (n.strict && decide (n.width < (endT n.sty (decide (k < 0))).1.length + (n.body k.natAbs ++ (endT n.sty (decide (k < 0))).2).length)) = true
  · rw [if_pos c]
    constructor
    · intro h; cases h
    · intro h; rw [h.2.1] at c; cases c
  · rw [if_neg c]
    have c' : (n.strict && decide (n.width < (endT n.sty (decide (k < 0))).1.length + (n.body k.natAbs ++ (endT n.sty (decide (k < 0))).2).length)) = false := by simpa using c
    constructor
    · intro h; injection h with h; exact ⟨hk, c', h⟩
    · intro h; rw [h.2.2]
theorem told_mem {s : Spec} (ok : s.Ok) {t : List Nat} {ds : List Dat} (h : Told s t ds) (d : Dat) : d ∈ ds ↔ IsVal s d ∧ s.textOf d = some t := by
  cases s with
  | num n =>
    have ok' : n.Ok := ok
    obtain ⟨ks, _, hk, rfl⟩ := h
    rw [List.mem_map]
    constructor
    · rintro ⟨k, hm, rfl⟩
      have h2 := (hk k).mp hm
      have h3 : k.natAbs < n.B := h2.1
      exact ⟨⟨k, h3, rfl⟩, (text_num ok' k t h3).mpr h2⟩
    · rintro ⟨⟨k, h3, rfl⟩, h4⟩
      exact ⟨k, (hk k).mpr ((text_num ok' k t h3).mp h4), rfl⟩
  | word n =>
    have ok' : n.Ok := ok
    obtain ⟨ls, _, hk, rfl⟩ := h
    rw [List.mem_map]
    constructor
    · rintro ⟨x, hm, rfl⟩
      have h2 := (hk x).mp hm
      exact ⟨⟨x, rfl, h2.1⟩, (text_txt (s := .word n) (side3 (x := n.side) ok'.sd) x t rfl).mpr h2.2⟩
    · rintro ⟨⟨x, rfl, h3⟩, h4⟩
      exact ⟨x, (hk x).mpr ⟨h3, (text_txt (s := .word n) (side3 (x := n.side) ok'.sd) x t rfl).mp h4⟩, rfl⟩
  | choice n =>
    have ok' : n.Ok := ok
    have h' : ds = _ := h
    rw [h', List.mem_map]
    constructor
    · rintro ⟨x, hm, rfl⟩
      have h2 := List.mem_filter.mp hm
      exact ⟨⟨x, rfl, h2.1⟩, (text_txt (s := .choice n) (side3 (x := n.side) ok'.sd) x t rfl).mpr (of_decide_eq_true h2.2)⟩
    · rintro ⟨⟨x, rfl, h3⟩, h4⟩
      exact ⟨x, List.mem_filter.mpr ⟨h3, decide_eq_true ((text_txt (s := .choice n) (side3 (x := n.side) ok'.sd) x t rfl).mp h4)⟩, rfl⟩
theorem told_uniq {s : Spec} (ok : s.Ok) {t : List Nat} {ds ds' : List Dat} (h : Told s t ds) (h' : Told s t ds') : ds = ds' := by
  cases s with
  | num n =>
    obtain ⟨ks, p1, m1, rfl⟩ := h
    obtain ⟨js, p2, m2, rfl⟩ := h'
    have : ks = js := by
      have n1 : ks.Nodup := p1.imp fun h => by omega
      have n2 : js.Nodup := p2.imp fun h => by omega
      have pm : ks.Perm js := (List.perm_ext_iff_of_nodup n1 n2).mpr fun a => by rw [m1, m2]
      exact pm.eq_of_pairwise (le := (· < ·)) (fun a b _ _ h1 h2 => by omega) p1 p2
    rw [this]
  | word n =>
    obtain ⟨ks, p1, m1, rfl⟩ := h
    obtain ⟨js, p2, m2, rfl⟩ := h'
    have : ks = js := by
      have n1 : ks.Nodup := p1.imp fun h e => by rw [e] at h; exact List.lt_irrefl _ h
      have n2 : js.Nodup := p2.imp fun h e => by rw [e] at h; exact List.lt_irrefl _ h
      have pm : ks.Perm js := (List.perm_ext_iff_of_nodup n1 n2).mpr fun a => by rw [m1, m2]
      exact pm.eq_of_pairwise (le := (· < ·)) (fun a b _ _ h1 h2 => absurd (List.lt_trans h1 h2) (List.lt_irrefl _)) p1 p2
    rw [this]
  | choice n =>
    have e1 : ds = _ := h
    have e2 : ds' = _ := h'
    rw [e1, e2]
theorem idx_rise {l : List (List Nat)} (nd : l.Nodup) {i j : Nat} {x y : List Nat} (hi : l[i]? = some x) (hj : l[j]? = some y) (h : i < j) : l.idxOf x < l.idxOf y := by
  have f : ∀ {i : Nat} {x : List Nat}, l[i]? = some x → l.idxOf x = i := fun {i x} hi => by
    have hm := List.mem_of_getElem? hi
    have h1 := List.idxOf_lt_length_of_mem hm
    have h2 : l[l.idxOf x]? = some x := by rw [List.getElem?_eq_getElem h1, List.getElem_idxOf h1]
    exact (List.getElem?_inj h1 nd).mp (h2.trans hi.symm)
  rw [f hi, f hj]
  exact h
theorem idx_filter {l : List (List Nat)} (nd : l.Nodup) (p : List Nat → Bool) : (l.filter p).Pairwise fun x y => l.idxOf x < l.idxOf y := by
  have : l.Pairwise fun x y => l.idxOf x < l.idxOf y := by
    rw [List.pairwise_iff_getElem]
    intro i j hi hj hij
    exact idx_rise nd (List.getElem?_eq_getElem hi) (List.getElem?_eq_getElem hj) hij
  exact this.filter p
theorem told_ahead {s : Spec} (ok : s.Ok) {t : List Nat} {ds : List Dat} (h : Told s t ds) : ds.Pairwise (Ahd s) := by
  cases s with
  | num n =>
    have ok' : n.Ok := ok
    obtain ⟨ks, p1, m1, rfl⟩ := h
    refine List.pairwise_map.mpr (List.Pairwise.imp_of_mem (fun {a b} ha hb hab => ?_) p1)
    have g : (2 : Nat) ^ 80 < 2 ^ 190 := by decide
    have hB := ok'.Bbd
    have h1 : a.natAbs < n.B := ((m1 a).mp ha).1
    have h2 : b.natAbs < n.B := ((m1 b).mp hb).1
    exact ⟨a, b, hab, by omega, by omega, rfl, rfl⟩
  | word n =>
    obtain ⟨ks, p1, m1, rfl⟩ := h
    exact List.pairwise_map.mpr (p1.imp fun {a b} h => ⟨a, b, h, rfl, rfl⟩)
  | choice n =>
    have ok' : n.Ok := ok
    have e1 : ds = _ := h
    rw [e1]
    exact List.pairwise_map.mpr (List.Pairwise.imp_of_mem (fun {a b} ha hb hab => ⟨a, b, (List.mem_filter.mp ha).1, (List.mem_filter.mp hb).1, hab, rfl, rfl⟩) (idx_filter ok'.nd _))
section
variable {P : Program} {w : World} {K : PySem.W.Frag} {mg : Str → Option Value} {base : Heap}
/-! ### _law_is_full -/
def sp_L_is_full : Sp := fun vs H Q _ => ∃ (p a : Addr) (s : Spec) (t : List Nat) (ds : List Dat), vs = [.ref p, .ref a, .str (S t)] ∧ LAt H p ds ∧ SpecAt H a s ∧ s.Ok ∧ NotChoice s ∧ Told s t ds ∧ ∀ H', Ex H H' → Q (.bl true) H'
def t_L_is_full (P : Program) (w : World) (K : PySem.W.Frag) (mg : Str → Option Value) (base : Heap) : TS := tSeq (tFor (iList K (tV 0)) (gK 3) (tFor (iList K (tCall (sp_L_near) [] E0 (tCons (tV 3) (tCons (tV 1) (tNil))))) (gK 4) (tIfS (tAnd (tB1 (tOp (rNotInD K) (tV 4) (tV 0))) (tAnd (tB1 (tCall (sp_L_is_value) [] E0 (tCons (tV 4) (tCons (tV 1) (tNil))))) (tB1 (tOp (rEqT) (tCall (sp_L_text) [] E0 (tCons (tV 4) (tCons (tV 1) (tNil)))) (tV 2))))) (tRet (tC (.bl false))) (tNext)))) (tRet (tC (.bl true)))
theorem der_L_is_full {P : Program} {w : World} {K : PySem.W.Frag} {mg : Str → Option Value} {base : Heap} (T : TX w K mg) (C_L_near : Fn P w K mg base CX0 3 "_law_near" (sp_L_near)) (C_L_is_value : Fn P w K mg base CX0 3 "_law_is_value" (sp_L_is_value)) (C_L_text : Fn P w K mg base CX0 5 "_law_text" (sp_L_text)) {f : Addr} {cdv : Value} {A : Around} {outer : List Env} {s : Shared} {H : Hp} {E : XK} (hr : Room 5 (A.deeper (envOfC "_law_is_full" (defScope s_L_is_full) s.heap.objs.size f cdv))) :
    PSs (cxOf CX0 P w K mg base N_L_is_full "_law_is_full" (defScope s_L_is_full) f cdv A outer s H E).nox (defBody s_L_is_full) (t_L_is_full P w K mg base) :=
  pss_cons (ps_for PassesOwn.never rfl (pi_list (fV 0 nm_L_is_full__law_told rfl)) (gNK sc_L_is_full.nd rfl nl_L_is_full__law_one (.inl rfl)) (pss_one (ps_for PassesOwn.never rfl (pi_list (fCall C_L_near (hr.mono (by decide)) ng_L_is_full__law_near pass0 (aCons (fV 3 nm_L_is_full__law_one rfl) (aCons (fV 1 nm_L_is_full__law_spec_here rfl) (pa_nil) rfl) rfl) rfl)) (gNK sc_L_is_full.nd rfl nl_L_is_full__law_other (.inl rfl)) (pss_one (ps_if (PW.pt (pw_and (tCmp1 (op_notInD (hu_of2 hr)) (fV 4 nm_L_is_full__law_other rfl) (fV 0 nm_L_is_full__law_told rfl) (by rfl)) (pw_and (tVal1 (fCall C_L_is_value (hr.mono (by decide)) ng_L_is_full__law_is_value pass0 (aCons (fV 4 nm_L_is_full__law_other rfl) (aCons (fV 1 nm_L_is_full__law_spec_here rfl) (pa_nil) rfl) rfl) rfl) (fun _ => rfl)) (pw_and1 (tCmp1 (oEqT) (fCall C_L_text (hr.mono (by decide)) ng_L_is_full__law_text pass0 (aCons (fV 4 nm_L_is_full__law_other rfl) (aCons (fV 1 nm_L_is_full__law_spec_here rfl) (pa_nil) rfl) rfl) rfl) (fV 2 nm_L_is_full__law_text_here rfl) (nomark _)))))) (pss_one (ps_ret (pe_bl))) (pss_nil)))))) (pss_one (ps_ret (pe_bl)))
theorem cand_ok {s : Spec} {d : Dat} (h : Cand s d) : d.Ok := by
  cases s with
  | num n => obtain ⟨k, _, rfl⟩ := h; trivial
  | word n => obtain ⟨x, rfl, _, hx⟩ := h; exact hx
  | choice n => obtain ⟨x, rfl, _, hx⟩ := h; exact hx
theorem rd_L_is_full (T : TX w K mg) (vs : List V) (H : Hp) (Q : VK) (E : XK) (h : sp_L_is_full vs H Q E) : t_L_is_full P w K mg base { nx := fun _ H' => Q .non H', rt := Q } (start N_L_is_full vs) H := by
  obtain ⟨p, a, s, t, ds, rfl, hL, hS, ok, hnc, hT, q⟩ := h
  obtain ⟨ws, hp, hv⟩ := id hL
  refine ⟨p, rfl, ⟨_, SqL.of hp⟩, for_list (K := K) (a := p) (xs := ws) (fun i σ H' => Ex H H' ∧ ∃ u v, σ = [some (.ref p), some (.ref a), some (.str (S t)), u, v]) ⟨Ex.refl H, none, none, rfl⟩ (fun i σ H' _ hh => SqL.of (hh.1 _ _ hp)) ?_ ?_⟩
  · rintro i x σ H1 hx ⟨e1, u, v, rfl⟩
    obtain ⟨d, hd, hvd⟩ := hv.get hx
    have hdm : d ∈ ds := List.mem_of_getElem? hd
    have hiv := ((told_mem ok hT d).mp hdm).1
    refine ⟨a, s, x, d, rfl, Ex.specAt e1 hS, ok, hnc, hvd.mono e1, hiv, fun p2 H2 es e2 hL2 hc => ?_⟩
    obtain ⟨us, hp2, hv2⟩ := id hL2
    have e12 := Ex.trans e1 e2
    refine ⟨p2, rfl, ⟨_, SqL.of hp2⟩, for_list (K := K) (a := p2) (xs := us) (fun i σ H' => Ex H2 H' ∧ ∃ v, σ = [some (.ref p), some (.ref a), some (.str (S t)), some x, v]) ⟨Ex.refl H2, v, rfl⟩ (fun i σ H' _ hh => SqL.of (hh.1 _ _ hp2)) ?_ ?_⟩
    · rintro j y σ H3 hy ⟨e3, v', rfl⟩
      obtain ⟨e, he, hve⟩ := hv2.get hy
      have hce := hc e (List.mem_of_getElem? he)
      have e13 := Ex.trans e12 e3
      have hve3 := hve.mono e3
      refine ⟨e.py, ds.map Dat.py, hve3.dp, (hL.mono e13).dp, shaped_py e (cand_ok hce), shaped_list ds (told_ok ok hT), ?_⟩
      rw [any_py]
      by_cases c : e ∈ ds
      · rw [decide_eq_true c]
        exact ⟨e3, _, rfl⟩
      · rw [decide_eq_false c]
        refine ⟨a, s, y, e, rfl, Ex.specAt e13 hS, ok, hve3, hce, fun H4 e4 => ?_⟩
        cases c2 : s.isVal e with
        | false => exact ⟨Ex.trans e3 e4, _, rfl⟩
        | true =>
          have hie := isVal_iff ok c2 hce
          refine ⟨a, s, y, e, rfl, Ex.specAt (Ex.trans e13 e4) hS, ok, hve3.mono e4, hie, fun H5 e5 => ?_⟩
          refine ⟨s.textOf e, t, rfl, rfl, ?_⟩
          rw [decide_eq_false (fun z => c ((told_mem ok hT e).mpr ⟨hie, z⟩))]
          exact ⟨Ex.trans e3 (Ex.trans e4 e5), _, rfl⟩
    · rintro σ H3 ⟨e3, v', rfl⟩
      exact ⟨Ex.trans e12 e3, _, _, rfl⟩
  · rintro σ H1 ⟨e1, u, v, rfl⟩
    exact q H1 e1
theorem ok_L_is_full {P : Program} {w : World} {K : PySem.W.Frag} {mg : Str → Option Value} {base : Heap} (T : TX w K mg) : Fn P w K mg base CX0 6 "_law_is_full" (sp_L_is_full) := by
  obtain ⟨fd, F⟩ := T.d_L_is_full
  refine ⟨_, fd, A_L_is_full, T.g_L_is_full, F.kp, fnD F sc_L_is_full (fun vs H Q E h => ?_) (fun cdv A outer s H vs Q E hr h => ⟨_, PSs.nox (der_L_is_full T (ok_L_near T) (ok_L_is_value T) (ok_L_text T) hr), rd_L_is_full T vs H Q E h⟩), F.bindsN fun _ _ _ _ _ _ us hl => match us, hl with | [_, _, _], _ => rfl⟩
  obtain ⟨_, _, _, _, _, rfl, _⟩ := h
  rfl
/-! ### the forms' methods -/
theorem metVF (T : TX w K mg) {H : Hp} {f : Addr} {s : Spec} (h : FormAt K H f s) : ∃ C dx fs, H f = some (.ins C dx fs) ∧ fs.lookup ("values_for" : Str) = none ∧ ∃ cond : Spec → Prop, cond s ∧ Mt P w K mg base CX0 8 C "values_for" (sp_P_values_for K cond) := by
  cases s with
  | num n => obtain ⟨dx, h⟩ := h; exact ⟨_, dx, _, h, by kernel_rfl, (fun s => clsOf s = "NumberForm"), rfl, ok_P_NumberForm_values_for T⟩
  | word n => obtain ⟨dx, h⟩ := h; exact ⟨_, dx, _, h, by kernel_rfl, (fun s => clsOf s = "WordForm"), rfl, ok_P_WordForm_values_for T⟩
  | choice n => obtain ⟨dx, na, _, h⟩ := h; exact ⟨_, dx, _, h, by kernel_rfl, (fun s => clsOf s = "ChoiceForm"), rfl, ok_P_ChoiceForm_values_for T⟩
theorem metVO (T : TX w K mg) {H : Hp} {f : Addr} {s : Spec} (h : FormAt K H f s) : ∃ C dx fs, H f = some (.ins C dx fs) ∧ fs.lookup ("value_of" : Str) = none ∧ ∃ cond : Spec → Prop, cond s ∧ Mt P w K mg base (L2.CX P w) 10 C "value_of" (sp_P_value_of K cond) := by
  cases s with
  | num n => obtain ⟨dx, h⟩ := h; exact ⟨_, dx, _, h, by kernel_rfl, (fun s => clsOf s = "NumberForm"), rfl, ok_P_NumberForm_value_of T⟩
  | word n => obtain ⟨dx, h⟩ := h; exact ⟨_, dx, _, h, by kernel_rfl, (fun s => clsOf s = "WordForm"), rfl, ok_P_WordForm_value_of T⟩
  | choice n => obtain ⟨dx, na, _, h⟩ := h; exact ⟨_, dx, _, h, by kernel_rfl, (fun s => clsOf s = "ChoiceForm"), rfl, ok_P_ChoiceForm_value_of T⟩
/-! ### _law_single -/
theorem lk_told (q : Addr) : ([(("told" : Str), V.ref q)] : List (Str × V)).lookup ("told" : Str) = some (V.ref q) := by kernel_rfl
def kindT (ds : List Dat) : List Nat := if ds.length = 0 then [110, 111, 110, 101] else if ds.length = 1 then [111, 110, 101] else [115, 111, 109, 101]
def sp_L_single (K : PySem.W.Frag) : Sp := fun vs H Q _ => ∃ (f : Addr) (s : Spec) (t : List Nat), vs = [.ref f, .str (S t)] ∧ FormAt K H f s ∧ s.Ok ∧ t.length ≤ 200 ∧ ∀ ds, Told s t ds → ∀ p q H', Ex H H' → H' p = some (.tup [.str (S (kindT ds)), .ref q]) → LAt H' q ds → Q (.ref p) H'
def t_L_single (P : Program) (w : World) (K : PySem.W.Frag) (mg : Str → Option Value) (base : Heap) : TS := tSeq (tSetK 2 (tC .non)) (tSeq (tTry2 K (.ref (He.ga K "NoText")) (.ref (He.ga K "TwoValues")) 3 (fun _ _ _ => tRet (tTup1 (tCons (tC (.str (S [110, 111, 110, 101]))) (tCons (tLst1 (tNil)) (tNil))))) (fun a cls d => tSeq (tSetK 4 (tCB (rList1 K) (tCons (tXf a cls d (He.ga K "TwoValues") "told" (tV 3)) (tNil)))) (tSeq (tDrop (tLm0 rClear1 (tXf a cls d (He.ga K "TwoValues") "told" (tV 3)))) (tRet (tTup1 (tCons (tC (.str (S [115, 111, 109, 101]))) (tCons (tV 4) (tNil))))))) (fun _ _ _ _ => False) (fun W => tSetK 2 (tTup1 (tCons (tC (.str (S [111, 110, 101]))) (tCons (tMetS P w K mg base (L2.CX P w) 10 "value_of" (WE W) (tV 0) (tCons (tV 1) (tNil))) (tNil)))))) (tRet (tTup1 (tCons (tC (.str (S [111, 110, 101]))) (tCons (tLst1 (tCons (tOp (rIx1 K) (tV 2) (tC (.int 1))) (tNil))) (tNil))))))
theorem der_L_single {P : Program} {w : World} {K : PySem.W.Frag} {mg : Str → Option Value} {base : Heap} (T : TX w K mg) {f : Addr} {cdv : Value} {A : Around} {outer : List Env} {s : Shared} {H : Hp} {E : XK} (hr : Room 10 (A.deeper (envOfC "_law_single" (defScope s_L_single) s.heap.objs.size f cdv))) :
    PSs (cxOf CX0 P w K mg base N_L_single "_law_single" (defScope s_L_single) f cdv A outer s H E).nox (defBody s_L_single) (t_L_single P w K mg base) :=
  pss_cons (sSetK (i := 2) sc_L_single.nd rfl nl_L_single__law_found (pe_non) rfl (.inl rfl)) (pss_cons (fTry2 (i := 3) (tb := fun W => tSetK 2 (tTup1 (tCons (tC (.str (S [111, 110, 101]))) (tCons (tMetS P w K mg base (L2.CX P w) 10 "value_of" (WE W) (tV 0) (tCons (tV 1) (tNil))) (tNil))))) (t1 := fun _ _ _ => tRet (tTup1 (tCons (tC (.str (S [110, 111, 110, 101]))) (tCons (tLst1 (tNil)) (tNil))))) (t2 := fun a cls d => tSeq (tSetK 4 (tCB (rList1 K) (tCons (tXf a cls d (He.ga K "TwoValues") "told" (tV 3)) (tNil)))) (tSeq (tDrop (tLm0 rClear1 (tXf a cls d (He.ga K "TwoValues") "told" (tV 3)))) (tRet (tTup1 (tCons (tC (.str (S [115, 111, 109, 101]))) (tCons (tV 4) (tNil))))))) (Wout := fun _ _ _ _ => False) rfl rfl sc_L_single.nd rfl rfl ⟨(ng_L_single_NoText).gl, by decide, .inl T.g_NoText⟩ ⟨(ng_L_single_TwoValues).gl, by decide, .inl T.g_TwoValues⟩ takes00 (fun W pn xe tk => pss_one (sSetK (i := 2) sc_L_single.nd rfl nl_L_single__law_found (fTup (aCons (fS rfl) (aCons (fMetS (fV 0 nm_L_single__law_form_here rfl) (hr.mono (by decide)) (fun σ => L2.passAt tk σ) (aCons (fV 1 nm_L_single__law_text_here rfl) (pa_nil) rfl) rfl rfl) (pa_nil) rfl) rfl)) rfl (.inl rfl))) (fun a oe cls d pn hz hf => pss_one (ps_ret (fTup (aCons (fS rfl) (aCons (fLst (pa_nil)) (pa_nil) rfl) rfl)))) (fun a oe cls d pn hz hf => pss_cons (sSetK (i := 4) sc_L_single.nd rfl nl_L_single__law_some (fBT cList ng_L_single_list T.b_list bb_list (aCons (pe_xf T.x_TwoValues T.xn_told hz hf (fV 3 nm_L_single_e rfl)) (pa_nil) rfl) rfl) rfl (.inl rfl)) (pss_cons (sExpr (fLm0 PySem.F.slot_list_clear PySem.F.type_list_clear mClear (pe_xf T.x_TwoValues T.xn_told hz hf (fV 3 nm_L_single_e rfl)) rfl rfl) rfl) (pss_one (ps_ret (fTup (aCons (fS rfl) (aCons (fV 4 nm_L_single__law_some rfl) (pa_nil) rfl) rfl))))))) (pss_one (ps_ret (fTup (aCons (fS rfl) (aCons (fLst (aCons (fIx (fV 2 nm_L_single__law_found rfl) (pe_int) (fun _ _ => rfl)) (pa_nil) rfl)) (pa_nil) rfl) rfl)))))
theorem rd_L_single (T : TX w K mg) (vs : List V) (H : Hp) (Q : VK) (E : XK) (h : sp_L_single K vs H Q E) : t_L_single P w K mg base { nx := fun _ H' => Q .non H', rt := Q } (start N_L_single vs) H := by
  obtain ⟨f, s, t, rfl, hF, ok, ht, q⟩ := h
  show t_L_single P w K mg base _ [some (.ref f), some (.str (S t)), none, none, none] H
  obtain ⟨C, dx, fs, h1, h2, cond, h3, h4⟩ := metVO (P := P) (base := base) T hF
  refine ⟨C, dx, fs, _, h1, h2, h4, f, s, t, rfl, h3, hF, ok, ht, fun ds hT => ⟨?_, ?_, ?_⟩⟩
  · rintro d v H1 rfl e1 hv
    refine ⟨l100 rfl, fun p2 H2 _ e2 l2 => ?_⟩
    refine ⟨_, _, .inr (SqT.of l2), at1, l100 rfl, fun p3 H3 _ e3 l3 => ⟨l100 rfl, fun p4 H4 _ e4 l4 => ?_⟩⟩
    exact q [d] hT p4 p3 H4 (Ex.trans e1 (Ex.trans e2 (Ex.trans e3 e4))) l4 ⟨[v], e4 _ _ l3, hv.mono (Ex.trans e2 (Ex.trans e3 e4)), trivial⟩
  · rintro rfl H1 e1
    refine ⟨true, T.x_NoText_NoText, fun _ a _ => ?_, fun z => nomatch z⟩
    refine ⟨l100 rfl, fun p3 H3 _ e3 l3 => ⟨l100 rfl, fun p4 H4 _ e4 l4 => ?_⟩⟩
    exact q [] hT p4 p3 H4 (Ex.trans e1 (Ex.trans e3 e4)) l4 ⟨[], e4 _ _ l3, trivial⟩
  · rintro h2l dd q2 H1 e1 hq hdd hL
    refine ⟨false, T.x_TwoValues_NoText, (fun z => nomatch z), fun _ => ⟨true, T.x_TwoValues_TwoValues, fun _ a _ => ?_, fun z => nomatch z⟩⟩
    obtain ⟨ws, hw, hv⟩ := id hL
    refine ⟨rfl, rfl, dd, _, _, rfl, hdd, lk_told q2, ?_⟩
    refine ⟨ws, .inl (SqL.of hw), fun l H2 hl e2 hl2 => ?_⟩
    refine ⟨rfl, rfl, dd, _, _, rfl, e2 _ _ hdd, lk_told q2, ?_⟩
    have hql : l ≠ q2 := fun z => by
      rw [z, hw] at hl
      cases hl
    have hw2 := e2 _ _ hw
    refine ⟨⟨_, hw2⟩, rfl, ws, hw2, l100 rfl, fun p4 H4 _ e4 l4 => ?_⟩
    have hne : ∀ a b, H2 q2 ≠ some (.tup [.int a, .int b]) := fun a b z => by
      rw [hw2] at z
      cases z
    have hk : kindT ds = [115, 111, 109, 101] := by
      unfold kindT
      rw [if_neg (by omega), if_neg (by omega)]
    refine q ds hT p4 l H4 (Ex.trans (Ex.mut (Ex.trans e1 e2) hq) e4) (by rw [hk]; exact l4) ⟨ws, e4 _ _ (by rw [upd_ne hql]; exact hl2), ((hv.mono e2).over hne).mono e4⟩
theorem ok_L_single {P : Program} {w : World} {K : PySem.W.Frag} {mg : Str → Option Value} {base : Heap} (T : TX w K mg) : Fn P w K mg base CX0 11 "_law_single" (sp_L_single K) := by
  obtain ⟨fd, F⟩ := T.d_L_single
  refine ⟨_, fd, A_L_single, T.g_L_single, F.kp, fnD F sc_L_single (fun vs H Q E h => ?_) (fun cdv A outer s H vs Q E hr h => ⟨_, PSs.nox (der_L_single T  hr), rd_L_single T vs H Q E h⟩), F.bindsN fun _ _ _ _ _ _ us hl => match us, hl with | [_, _], _ => rfl⟩
  obtain ⟨_, _, _, rfl, _⟩ := h
  rfl
end
end K45
namespace K45
open PySem PySem.Spec PyProof.Rows L2 F
/-- a test that is always false, the heap may grow -/
theorem ifE {c : TT} {t u : TS} {D : Ends} {σ : L2.St} {H : Hp} (h1 : ∀ Q : Bool → Hp → Prop, (∀ H', Ex H H' → Q false H') → c σ H Q) (h2 : ∀ H', Ex H H' → u D σ H') : tIfS c t u D σ H :=
  h1 (fun b H1 => if b = true then t D σ H1 else u D σ H1) fun H' e => h2 H' e
theorem for_zip2 {K : PySem.W.Frag} {a b : Addr} {xs ys : List V} {g : TG} {tb : TS} {D : Ends} {σ : L2.St} {H : Hp} (hl : ys.length ≤ xs.length) (Pv : Nat → L2.St → Hp → Prop) (h0 : Pv 0 σ H) (hq : ∀ i σ H, Pv i σ H → SqL K H a xs ∧ SqL K H b ys)
    (hs : ∀ (i : Nat) (x y : V) (T : Addr) (σ : L2.St) (H : Hp), xs[i]? = some x → ys[i]? = some y → Pv i σ H → H T = none → g (.ref T) σ (upd H T (.tup [x, y])) fun σ2 H2 => tb { D with nx := Pv (i + 1), ct := Pv (i + 1), bk := D.nx } σ2 H2) (hd : ∀ σ H, Pv ys.length σ H → D.nx σ H) :
    ∃ W : Nat → Nat → L2.St → Hp → Prop, (∃ m, W 0 m σ H) ∧ ∀ i m σ H, W i m σ H →
      ((Itz K a b).stop i H ∧ D.nx σ H) ∨ ((Itz K a b).go i H ∧ ∃ N : L2.St → Hp → Prop, (∀ σ' H', N σ' H' → ∃ m', m' < m ∧ W (i + 1) m' σ' H') ∧ ∀ v H', (Itz K a b).yld i H v H' → g v σ H' fun σ2 H2 => tb { D with nx := N, ct := N, bk := D.nx } σ2 H2) := by
  refine ⟨fun i m σ H => m = ys.length - i ∧ i ≤ ys.length ∧ Pv i σ H, ⟨ys.length, rfl, Nat.zero_le _, h0⟩, ?_⟩
  rintro i m σ H ⟨rfl, hi, p⟩
  obtain ⟨qx, qy⟩ := hq i σ H p
  by_cases hlt : i < ys.length
  · refine .inr ⟨⟨xs, ys, _, _, qx, qy, List.getElem?_eq_getElem (by omega), List.getElem?_eq_getElem hlt⟩, Pv (i + 1), fun σ' H' p' => ⟨ys.length - (i + 1), by omega, rfl, hlt, p'⟩, fun v H' y => ?_⟩
    obtain ⟨T, x', y', rfl, hT, rfl, f1, f2⟩ := y
    exact hs i x' y' T σ H (f1 xs qx) (f2 ys qy) p hT
  · have e : i = ys.length := by omega
    subst e
    exact .inl ⟨⟨xs, ys, qx, qy, Or.inr (Nat.le_refl _)⟩, hd σ H p⟩
theorem cutN_len (l : List Nat) (lo hi : Option Int) : (cutN l lo hi).length ≤ l.length := by
  unfold cutN
  rw [List.length_take, List.length_drop]
  omega
theorem kit_ll : kitB "list" "list" = some true := by decide +kernel
section
variable {P : Program} {w : World} {K : PySem.W.Frag} {mg : Str → Option Value} {base : Heap}
/-! ### _law_spoilt -/
def sp_L_spoilt : Sp := fun vs H Q _ => ∃ (c : Int) (t : List Nat), vs = [.int c, .str (S t)] ∧ t.length ≤ 190 ∧ ∀ p H' ls, Ex H H' → H' p = some (.lst (sVs ls)) → (∀ x ∈ ls, x.length ≤ t.length + 1) → Q (.ref p) H'
def t_L_spoilt (P : Program) (w : World) (K : PySem.W.Frag) (mg : Str → Option Value) (base : Heap) : TS := tSeq (tSetK 2 (tCall (sp_L_pick) [] E0 (tCons (tV 0) (tCons (tC (.int 101)) (tCons (tOp qAdd (tCB (rLen1 K) (tCons (tV 1) (tNil))) (tC (.int 1))) (tNil)))))) (tSeq (tSetK 3 (tCall (sp_L_sign) [] E0 (tCons (tV 0) (tCons (tC (.int 102)) (tNil))))) (tRet (tLst1 (tCons (tOp qAdd (tOp qAdd (tSl (rSlS1) (tV 1) tNoPart (tPart1 (tV 2))) (tV 3)) (tSl (rSlS1) (tV 1) (tPart1 (tOp qAdd (tV 2) (tC (.int 1)))) tNoPart)) (tCons (tOp qAdd (tSl (rSlS1) (tV 1) tNoPart (tPart1 (tV 2))) (tSl (rSlS1) (tV 1) (tPart1 (tOp qAdd (tV 2) (tC (.int 1)))) tNoPart)) (tCons (tOp qAdd (tOp qAdd (tSl (rSlS1) (tV 1) tNoPart (tPart1 (tV 2))) (tV 3)) (tSl (rSlS1) (tV 1) (tPart1 (tV 2)) tNoPart)) (tNil)))))))
theorem der_L_spoilt {P : Program} {w : World} {K : PySem.W.Frag} {mg : Str → Option Value} {base : Heap} (T : TX w K mg) (C_L_pick : Fn P w K mg base CX0 1 "_law_pick" (sp_L_pick)) (C_L_sign : Fn P w K mg base CX0 2 "_law_sign" (sp_L_sign)) {f : Addr} {cdv : Value} {A : Around} {outer : List Env} {s : Shared} {H : Hp} {E : XK} (hr : Room 2 (A.deeper (envOfC "_law_spoilt" (defScope s_L_spoilt) s.heap.objs.size f cdv))) :
    PSs (cxOf CX0 P w K mg base N_L_spoilt "_law_spoilt" (defScope s_L_spoilt) f cdv A outer s H E).nox (defBody s_L_spoilt) (t_L_spoilt P w K mg base) :=
  pss_cons (sSetK (i := 2) sc_L_spoilt.nd rfl nl_L_spoilt__law_at (fCall C_L_pick (hr.mono (by decide)) ng_L_spoilt__law_pick pass0 (aCons (fV 0 nm_L_spoilt__law_cell rfl) (aCons (pe_int) (aCons (pe_op oAdd (fB cLen ng_L_spoilt_len T.b_len bb_len (aCons (fV 1 nm_L_spoilt__law_text_here rfl) (pa_nil) rfl) rfl) (pe_int)) (pa_nil) rfl) rfl) rfl) rfl) rfl (.inl rfl)) (pss_cons (sSetK (i := 3) sc_L_spoilt.nd rfl nl_L_spoilt__law_sign_here (fCall C_L_sign (hr.mono (by decide)) ng_L_spoilt__law_sign pass0 (aCons (fV 0 nm_L_spoilt__law_cell rfl) (aCons (pe_int) (pa_nil) rfl) rfl) rfl) rfl (.inl rfl)) (pss_one (ps_ret (fLst (aCons (pe_op oAdd (pe_op oAdd (pe_slice slS1 (fV 1 nm_L_spoilt__law_text_here rfl) po_none (oSome (fV 2 nm_L_spoilt__law_at rfl))) (fV 3 nm_L_spoilt__law_sign_here rfl)) (pe_slice slS1 (fV 1 nm_L_spoilt__law_text_here rfl) (oSome (pe_op oAdd (fV 2 nm_L_spoilt__law_at rfl) (pe_int))) po_none)) (aCons (pe_op oAdd (pe_slice slS1 (fV 1 nm_L_spoilt__law_text_here rfl) po_none (oSome (fV 2 nm_L_spoilt__law_at rfl))) (pe_slice slS1 (fV 1 nm_L_spoilt__law_text_here rfl) (oSome (pe_op oAdd (fV 2 nm_L_spoilt__law_at rfl) (pe_int))) po_none)) (aCons (pe_op oAdd (pe_op oAdd (pe_slice slS1 (fV 1 nm_L_spoilt__law_text_here rfl) po_none (oSome (fV 2 nm_L_spoilt__law_at rfl))) (fV 3 nm_L_spoilt__law_sign_here rfl)) (pe_slice slS1 (fV 1 nm_L_spoilt__law_text_here rfl) (oSome (fV 2 nm_L_spoilt__law_at rfl)) po_none)) (pa_nil) rfl) rfl) rfl)))))
theorem rd_L_spoilt (T : TX w K mg) (vs : List V) (H : Hp) (Q : VK) (E : XK) (h : sp_L_spoilt vs H Q E) : t_L_spoilt P w K mg base { nx := fun _ H' => Q .non H', rt := Q } (start N_L_spoilt vs) H := by
  obtain ⟨c, t, rfl, ht, q⟩ := h
  show t_L_spoilt P w K mg base _ [some (.int c), some (.str (S t)), none, none] H
  refine ⟨t, rfl, by omega, _, _, _, rfl, by decide, by decide, by omega, ?_⟩
  obtain ⟨k, gk, hk⟩ := pickN c 101 (m := ((t.length : Nat) : Int) + 1) (by omega)
  rw [gk]
  refine ⟨_, _, rfl, by decide, by decide, fun z _ => ?_⟩
  have c1 := cutN_len t none (some (k : Int))
  have c2 := cutN_len t (some ((k : Int) + 1)) none
  have c3 := cutN_len t (some (k : Int)) none
  refine ⟨t, rfl, by omega, _, _, rfl, rfl, by show _ + 1 ≤ 100000; omega, t, rfl, by omega, _, _, rfl, rfl, by rw [List.length_append]; show _ + 1 + _ ≤ 100000; omega, ?_⟩
  refine ⟨t, rfl, by omega, t, rfl, by omega, _, _, rfl, rfl, by omega, ?_⟩
  refine ⟨t, rfl, by omega, _, _, rfl, rfl, by show _ + 1 ≤ 100000; omega, t, rfl, by omega, _, _, rfl, rfl, by rw [List.length_append]; show _ + 1 + _ ≤ 100000; omega, ?_⟩
  refine ⟨l100 rfl, fun p H1 _ e1 l1 => ?_⟩
  refine q p H1 [cutN t none (some (k : Int)) ++ [z] ++ cutN t (some ((k : Int) + 1)) none, cutN t none (some (k : Int)) ++ cutN t (some ((k : Int) + 1)) none, cutN t none (some (k : Int)) ++ [z] ++ cutN t (some (k : Int)) none] e1 l1 fun x hx => ?_
  have e1 : (cutN t none (some (k : Int))).length ≤ k := by rw [cutN_to (by omega), List.length_take]; omega
  have e2 : (cutN t (some ((k : Int) + 1)) none).length = t.length - (k + 1) := by rw [cutN_from (by omega), List.length_drop]; omega
  have e3 : (cutN t (some (k : Int)) none).length = t.length - k := by rw [cutN_from (by omega), List.length_drop]; omega
  have hx2 : x = cutN t none (some (k : Int)) ++ [z] ++ cutN t (some ((k : Int) + 1)) none ∨ x = cutN t none (some (k : Int)) ++ cutN t (some ((k : Int) + 1)) none ∨ x = cutN t none (some (k : Int)) ++ [z] ++ cutN t (some (k : Int)) none := by simpa using hx
  rcases hx2 with rfl | rfl | rfl
  · rw [List.length_append, List.length_append]; show _ + 1 + _ ≤ _; omega
  · rw [List.length_append]; omega
  · rw [List.length_append, List.length_append]; show _ + 1 + _ ≤ _; omega
theorem ok_L_spoilt {P : Program} {w : World} {K : PySem.W.Frag} {mg : Str → Option Value} {base : Heap} (T : TX w K mg) : Fn P w K mg base CX0 3 "_law_spoilt" (sp_L_spoilt) := by
  obtain ⟨fd, F⟩ := T.d_L_spoilt
  refine ⟨_, fd, A_L_spoilt, T.g_L_spoilt, F.kp, fnD F sc_L_spoilt (fun vs H Q E h => ?_) (fun cdv A outer s H vs Q E hr h => ⟨_, PSs.nox (der_L_spoilt T (ok_L_pick T) (ok_L_sign T) hr), rd_L_spoilt T vs H Q E h⟩), F.bindsN fun _ _ _ _ _ _ us hl => match us, hl with | [_, _], _ => rfl⟩
  obtain ⟨_, _, rfl, _⟩ := h
  rfl
/-! ### _law_good -/
def duePy (k : List Nat) (ds : List Dat) : PyData := .tuple [.str (S k), .list (ds.map Dat.py)]
theorem due_dp {H : Hp} {p q : Addr} {k : List Nat} {ds : List Dat} (h : H p = some (.tup [.str (S k), .ref q])) (hL : LAt H q ds) : Dp K H (.ref p) (duePy k ds) :=
  .tup (SqT.of h) (.cons (.str _) (.cons hL.dp .nil))
theorem due_eqv (k : List Nat) (ds : List Dat) : PyData.eqv (duePy k ds) (duePy k ds) = true := by
  show ((S k == S k) && ((PyData.eqvAll (ds.map Dat.py) (ds.map Dat.py)) && true)) = true
  rw [eqvAll_py]
  simp
theorem due_shaped (k : List Nat) (hk : ∀ c ∈ k, c < 1000) (ds : List Dat) (h : ∀ d ∈ ds, d.Ok) : SeqAt.shaped (duePy k ds) = true := by
  have h1 := (shaped_py (.txt k) hk)
  have h2 := shaped_list ds h
  unfold SeqAt.shaped at h1 h2 ⊢
  rw [Bool.and_eq_true, decide_eq_true_eq] at h1 h2 ⊢
  have d2 : PyData.depthAll (ds.map Dat.py) ≤ 1 := by
    clear h1 h2
    induction ds with
    | nil => exact Nat.zero_le _
    | cons d r ih =>
      have h1 := (lay_py d (h d (by simp))).2
      have h2 := ih fun x hx => h x (by simp [hx])
      show max d.py.depth (PyData.depthAll (r.map Dat.py)) ≤ 1
      omega
  refine ⟨?_, ?_⟩
  · show ((PyData.str (S k)).canLay0 && ((PyData.list (ds.map Dat.py)).canLay0 && true)) = true
    rw [show (PyData.str (S k)).canLay0 = true from h1.1, h2.1]
    rfl
  · show max 0 (max (PyData.depthAll (ds.map Dat.py) + 1) 0) + 1 ≤ 64
    omega
theorem kind_ok (ds : List Dat) : ∀ c ∈ kindT ds, c < 1000 := by
  unfold kindT
  split
  · decide
  · split <;> decide
def sp_L_good (K : PySem.W.Frag) : Sp := fun vs H Q _ => ∃ (f a : Addr) (s : Spec) (t : List Nat) (u : V), vs = [.ref f, .ref a, .str (S t), u] ∧ FormAt K H f s ∧ SpecAt H a s ∧ s.Ok ∧ t.length ≤ 200 ∧ (u = .non ∨ ∃ d, VAt H u d ∧ IsVal s d ∧ s.textOf d = some t) ∧ ∀ H', Ex H H' → Q (.bl true) H'
def t_L_good (P : Program) (w : World) (K : PySem.W.Frag) (mg : Str → Option Value) (base : Heap) : TS := tSeq (tSetK 4 (tMet1 P w K mg base CX0 8 "values_for" E0 (tV 0) (tCons (tV 2) (tNil)))) (tSeq (tIfS (tOr (tNot (tB1 (tCB (rIsi1) (tCons (tV 4) (tCons (tC (.ty "list")) (tNil)))))) (tAnd (tB1 (tOp (rNotN1) (tV 3) (tC .non))) (tB1 (tOp (rNotInD K) (tV 3) (tV 4))))) (tRet (tC (.bl false))) (tNext)) (tSeq (tFor (iList K (tV 4)) (gK 5) (tIfS (tOr (tNot (tB1 (tCall (sp_L_is_value) [] E0 (tCons (tV 5) (tCons (tV 1) (tNil)))))) (tB1 (tOp (rNeT) (tCall (sp_L_text) [] E0 (tCons (tV 5) (tCons (tV 1) (tNil)))) (tV 2)))) (tRet (tC (.bl false))) (tNext))) (tSeq (tFor (iZip K (tCons (tV 4) (tCons (tSl (rSlL1 K) (tV 4) (tPart1 (tC (.int 1))) tNoPart) (tNil)))) (gTup K 2 (gCons (gK 5) (gCons (gK 6) (gNil)))) (tIfS (tNot (tB1 (tCall (sp_L_ahead K) [] E0 (tCons (tV 5) (tCons (tV 6) (tCons (tV 1) (tNil))))))) (tRet (tC (.bl false))) (tNext))) (tSeq (tIfS (tAnd (tB1 (tOp (rNe1) (tOp (rIx1 K) (tV 1) (tC (.int 0))) (tC (.str (S [99, 104, 111, 105, 99, 101]))))) (tNot (tB1 (tCall (sp_L_is_full) [] E0 (tCons (tV 4) (tCons (tV 1) (tCons (tV 2) (tNil)))))))) (tRet (tC (.bl false))) (tNext)) (tSeq (tSetK 7 (tCB (rList1 K) (tCons (tV 4) (tNil)))) (tSeq (tDrop (tLm0 rClear1 (tV 4))) (tSeq (tIfS (tB1 (tOp (rNeD K) (tMet1 P w K mg base CX0 8 "values_for" E0 (tV 0) (tCons (tV 2) (tNil))) (tV 7))) (tRet (tC (.bl false))) (tNext)) (tSeq (tSetK 8 (tTup1 (tCons (tOp (rIx1 K) (tLst1 (tCons (tC (.str (S [110, 111, 110, 101]))) (tCons (tC (.str (S [111, 110, 101]))) (tCons (tC (.str (S [115, 111, 109, 101]))) (tNil))))) (tCB (rMin1) (tCons (tC (.int 2)) (tCons (tCB (rLen1 K) (tCons (tV 7) (tNil))) (tNil))))) (tCons (tV 7) (tNil))))) (tRet (tAndV (tOp (rEqD K) (tCall (sp_L_single K) [] E0 (tCons (tV 0) (tCons (tV 2) (tNil)))) (tV 8)) (tOrV (tOp (rCmp fun i j => decide (i < j)) (tCB (rLen1 K) (tCons (tV 7) (tNil))) (tC (.int 2))) (tOp (rEqD K) (tCall (sp_L_single K) [] E0 (tCons (tV 0) (tCons (tV 2) (tNil)))) (tV 8)))))))))))))
theorem der_L_good {P : Program} {w : World} {K : PySem.W.Frag} {mg : Str → Option Value} {base : Heap} (T : TX w K mg) (C_L_is_value : Fn P w K mg base CX0 3 "_law_is_value" (sp_L_is_value)) (C_L_text : Fn P w K mg base CX0 5 "_law_text" (sp_L_text)) (C_L_ahead : Fn P w K mg base CX0 1 "_law_ahead" (sp_L_ahead K)) (C_L_is_full : Fn P w K mg base CX0 6 "_law_is_full" (sp_L_is_full)) (C_L_single : Fn P w K mg base CX0 11 "_law_single" (sp_L_single K)) {f : Addr} {cdv : Value} {A : Around} {outer : List Env} {s : Shared} {H : Hp} {E : XK} (hr : Room 11 (A.deeper (envOfC "_law_good" (defScope s_L_good) s.heap.objs.size f cdv))) :
    PSs (cxOf CX0 P w K mg base N_L_good "_law_good" (defScope s_L_good) f cdv A outer s H E).nox (defBody s_L_good) (t_L_good P w K mg base) :=
  pss_cons (sSetK (i := 4) sc_L_good.nd rfl nl_L_good__law_told (fMet (fV 0 nm_L_good__law_form_here rfl) (hr.mono (by decide)) pass0 (aCons (fV 2 nm_L_good__law_text_here rfl) (pa_nil) rfl) rfl rfl) rfl (.inl rfl)) (pss_cons (ps_if (PW.pt (pw_or (pt_not (tVal1 (fB cIsi ng_L_good_isinstance T.b_isinstance bb_isinstance (aCons (fV 4 nm_L_good__law_told rfl) (aCons (fTy ng_L_good_list T.b_list bb_list) (pa_nil) rfl) rfl) rfl) (fun _ => rfl))) (pw_or1 (PW.pt (pw_and (tCmp1 (oNotN) (fV 3 nm_L_good__law_value_here rfl) (pe_non) (nomark _)) (pw_and1 (tCmp1 (op_notInD (hu_of2 hr)) (fV 3 nm_L_good__law_value_here rfl) (fV 4 nm_L_good__law_told rfl) (by rfl)))))))) (pss_one (ps_ret (pe_bl))) (pss_nil)) (pss_cons (ps_for PassesOwn.never rfl (pi_list (fV 4 nm_L_good__law_told rfl)) (gNK sc_L_good.nd rfl nl_L_good__law_one (.inl rfl)) (pss_one (ps_if (PW.pt (pw_or (pt_not (tVal1 (fCall C_L_is_value (hr.mono (by decide)) ng_L_good__law_is_value pass0 (aCons (fV 5 nm_L_good__law_one rfl) (aCons (fV 1 nm_L_good__law_spec_here rfl) (pa_nil) rfl) rfl) rfl) (fun _ => rfl))) (pw_or1 (tCmp1 (oNeT) (fCall C_L_text (hr.mono (by decide)) ng_L_good__law_text pass0 (aCons (fV 5 nm_L_good__law_one rfl) (aCons (fV 1 nm_L_good__law_spec_here rfl) (pa_nil) rfl) rfl) rfl) (fV 2 nm_L_good__law_text_here rfl) (nomark _))))) (pss_one (ps_ret (pe_bl))) (pss_nil)))) (pss_cons (ps_for PassesOwn.never rfl (pi_zip (ng_L_good_zip).gl T.b_zip (aCons (fV 4 nm_L_good__law_told rfl) (aCons (pe_slice slL1 (fV 4 nm_L_good__law_told rfl) (oSome (pe_int)) po_none) (pa_nil) rfl) rfl)) (pg_tup rfl (pgs_cons (gNK sc_L_good.nd rfl nl_L_good__law_one (.inl rfl)) (pgs_cons (gNK sc_L_good.nd rfl nl_L_good__law_other (.inl rfl)) (pgs_nil)))) (pss_one (ps_if (pt_not (tVal1 (fCall C_L_ahead (hr.mono (by decide)) ng_L_good__law_ahead pass0 (aCons (fV 5 nm_L_good__law_one rfl) (aCons (fV 6 nm_L_good__law_other rfl) (aCons (fV 1 nm_L_good__law_spec_here rfl) (pa_nil) rfl) rfl) rfl) rfl) (fun _ => rfl))) (pss_one (ps_ret (pe_bl))) (pss_nil)))) (pss_cons (ps_if (PW.pt (pw_and (tCmp1 (oNe) (fIx (fV 1 nm_L_good__law_spec_here rfl) (pe_int) (fun _ _ => rfl)) (fS rfl) (nomark _)) (pw_and1 (pt_not (tVal1 (fCall C_L_is_full (hr.mono (by decide)) ng_L_good__law_is_full pass0 (aCons (fV 4 nm_L_good__law_told rfl) (aCons (fV 1 nm_L_good__law_spec_here rfl) (aCons (fV 2 nm_L_good__law_text_here rfl) (pa_nil) rfl) rfl) rfl) rfl) (fun _ => rfl)))))) (pss_one (ps_ret (pe_bl))) (pss_nil)) (pss_cons (sSetK (i := 7) sc_L_good.nd rfl nl_L_good__law_kept (fBT cList ng_L_good_list T.b_list bb_list (aCons (fV 4 nm_L_good__law_told rfl) (pa_nil) rfl) rfl) rfl (.inl rfl)) (pss_cons (sExpr (fLm0 PySem.F.slot_list_clear PySem.F.type_list_clear mClear (fV 4 nm_L_good__law_told rfl) rfl rfl) rfl) (pss_cons (ps_if (tCmp1 (op_neD (hu_of1 hr)) (fMet (fV 0 nm_L_good__law_form_here rfl) (hr.mono (by decide)) pass0 (aCons (fV 2 nm_L_good__law_text_here rfl) (pa_nil) rfl) rfl rfl) (fV 7 nm_L_good__law_kept rfl) (nomark _)) (pss_one (ps_ret (pe_bl))) (pss_nil)) (pss_cons (sSetK (i := 8) sc_L_good.nd rfl nl_L_good__law_due (fTup (aCons (fIx (fLst (aCons (fS rfl) (aCons (fS rfl) (aCons (fS rfl) (pa_nil) rfl) rfl) rfl)) (fB (cMin rfl) ng_L_good_min T.b_min bb_min (aCons (pe_int) (aCons (fB cLen ng_L_good_len T.b_len bb_len (aCons (fV 7 nm_L_good__law_kept rfl) (pa_nil) rfl) rfl) (pa_nil) rfl) rfl) rfl) (fun _ _ => rfl)) (aCons (fV 7 nm_L_good__law_kept rfl) (pa_nil) rfl) rfl)) rfl (.inl rfl)) (pss_one (ps_ret (pe_and (pe_cmpR (op_eqD (hu_of1 hr)) (fCall C_L_single (hr.mono (by decide)) ng_L_good__law_single pass0 (aCons (fV 0 nm_L_good__law_form_here rfl) (aCons (fV 2 nm_L_good__law_text_here rfl) (pa_nil) rfl) rfl) rfl) (fV 8 nm_L_good__law_due rfl) (nomark _)) (pe_one (pe_or (pe_cmpR (oLt) (fB cLen ng_L_good_len T.b_len bb_len (aCons (fV 7 nm_L_good__law_kept rfl) (pa_nil) rfl) rfl) (pe_int) (nomark _)) (pe_one (pe_cmpR (op_eqD (hu_of1 hr)) (fCall C_L_single (hr.mono (by decide)) ng_L_good__law_single pass0 (aCons (fV 0 nm_L_good__law_form_here rfl) (aCons (fV 2 nm_L_good__law_text_here rfl) (pa_nil) rfl) rfl) rfl) (fV 8 nm_L_good__law_due rfl) (nomark _))))))))))))))))
theorem rd_L_good (T : TX w K mg) (vs : List V) (H : Hp) (Q : VK) (E : XK) (h : sp_L_good K vs H Q E) : t_L_good P w K mg base { nx := fun _ H' => Q .non H', rt := Q } (start N_L_good vs) H := by
  obtain ⟨f, a, s, t, u, rfl, hF, hS, ok, ht, hu, q⟩ := h
  show t_L_good P w K mg base _ [some (.ref f), some (.ref a), some (.str (S t)), some u, none, none, none, none, none] H
  obtain ⟨C, dx, fs, h1, h2, cond, h3, h4⟩ := metVF (P := P) (base := base) T hF
  refine ⟨C, dx, fs, _, h1, h2, h4, f, s, t, rfl, h3, hF, ok, ht, fun p H1 ds hp e1 hL hT hlen => ?_⟩
  obtain ⟨ws, hw, hv⟩ := id hL
  have hdok := told_ok ok hT
  dsimp only [setK, tSeq]
  refine ifE (fun Q' q' => ⟨_, true, .lst hw, kit_ll, ?_⟩) fun H2 e2 => ?_
  · rcases hu with rfl | ⟨d, hd, hiv, htx⟩
    · exact ⟨rfl, q' H1 (Ex.refl H1)⟩
    · have hm : d ∈ ds := (told_mem ok hT d).mpr ⟨hiv, htx⟩
      have hd1 := hd.mono e1
      have fin : tOp (rNotInD K) (tV 3) (tV 4) [some (V.ref f), some (.ref a), some (.str (S t)), some u, some (.ref p), none, none, none, none] H1 fun x H' => match x with
        | .bl k => Q' k H'
        | _ => False := by
        refine ⟨d.py, ds.map Dat.py, hd1.dp, hL.dp, shaped_py d (hdok d hm), shaped_list ds hdok, ?_⟩
        rw [any_py, decide_eq_true hm]
        exact q' H1 (Ex.refl H1)
      cases d with
      | num x y =>
        obtain ⟨q0, rfl, _⟩ := hd
        exact ⟨rfl, fin⟩
      | txt l =>
        obtain rfl : u = .str (S l) := hd
        exact ⟨rfl, fin⟩
  have hw2 := e2 _ _ hw
  refine ⟨p, rfl, ⟨_, SqL.of hw2⟩, for_list (K := K) (a := p) (xs := ws) (fun i σ H' => Ex H2 H' ∧ ∃ x, σ = [some (.ref f), some (.ref a), some (.str (S t)), some u, some (.ref p), x, none, none, none]) ⟨Ex.refl H2, none, rfl⟩ (fun i σ H' _ hh => SqL.of (hh.1 _ _ hw2)) ?_ ?_⟩
  · rintro i x σ H3 hx ⟨e3, x0, rfl⟩
    obtain ⟨d, hd, hvd⟩ := hv.get hx
    have hdm : d ∈ ds := List.mem_of_getElem? hd
    obtain ⟨hiv, htx⟩ := (told_mem ok hT d).mp hdm
    have e03 : Ex H H3 := Ex.trans e1 (Ex.trans e2 e3)
    have hv3 := hvd.mono (Ex.trans e2 e3)
    refine ⟨a, s, x, d, rfl, Ex.specAt e03 hS, ok, hv3, isVal_cand ok hiv, fun H4 e4 => ?_⟩
    rw [isVal_of ok hiv]
    refine ⟨a, s, x, d, rfl, Ex.specAt (Ex.trans e03 e4) hS, ok, hv3.mono e4, hiv, fun H5 e5 => ?_⟩
    refine ⟨s.textOf d, t, rfl, rfl, ?_⟩
    rw [decide_eq_true htx]
    exact ⟨Ex.trans e3 (Ex.trans e4 e5), _, rfl⟩
  rintro σ H3 ⟨e3, x0, rfl⟩
  have hw3 := e3 _ _ hw2
  refine ⟨ws, SqL.of hw3, fun p2 H4 _ e4 l4 => ?_⟩
  rw [cutV_from (by decide)] at l4
  have hw4 := e4 _ _ hw3
  have e14 : Ex H1 H4 := Ex.trans e2 (Ex.trans e3 e4)
  refine ⟨p, p2, ws, ws.drop 1, rfl, SqL.of hw4, SqL.of l4, for_zip2 (K := K) (by rw [List.length_drop]; omega) (fun i σ H' => Ex H4 H' ∧ ∃ x y, σ = [some (.ref f), some (.ref a), some (.str (S t)), some u, some (.ref p), x, y, none, none]) ⟨Ex.refl H4, _, _, rfl⟩ (fun i σ H' hh => ⟨SqL.of (hh.1 _ _ hw4), SqL.of (hh.1 _ _ l4)⟩) ?_ ?_⟩
  · rintro i x y TT σ H5 hx hy ⟨e5, x1, y1, rfl⟩ hT5
    rw [List.getElem?_drop] at hy
    obtain ⟨d, hd, hvd⟩ := hv.get hx
    obtain ⟨e, he, hve⟩ := hv.get hy
    have e6 : Ex H5 (upd H5 TT (.tup [x, y])) := Ex.new hT5
    have e16 := Ex.trans e14 (Ex.trans e5 e6)
    have hA : Ahd s d e := by
      have hp := List.pairwise_iff_getElem.mp (told_ahead ok hT)
      have l1 := (List.getElem?_eq_some_iff.mp hd)
      have l2 := (List.getElem?_eq_some_iff.mp he)
      obtain ⟨b1, b2⟩ := l1
      obtain ⟨c1, c2⟩ := l2
      rw [← b2, ← c2]
      exact hp i (1 + i) b1 c1 (by omega)
    refine ⟨TT, _, rfl, SqT.of upd_same, rfl, x, _, rfl, y, _, rfl, rfl, ?_⟩
    exact ⟨a, s, x, y, d, e, rfl, Ex.specAt (Ex.trans e1 e16) hS, ok, hvd.mono e16, hve.mono e16, hA, Ex.trans e5 e6, _, _, rfl⟩
  rintro σ H5 ⟨e5, x1, y1, rfl⟩
  have e15 : Ex H1 H5 := Ex.trans e14 e5
  have hS5 := Ex.specAt (Ex.trans e1 e15) hS
  dsimp only [tSeq]
  refine ifE (fun Q' q' => ?_) fun H6 e6 => ?_
  · obtain ⟨xs, hx, k0, _⟩ := hS5.com
    refine ⟨xs, _, .inr (SqT.of hx), k0, ?_⟩
    have full : NotChoice s → sp_L_is_full [.ref p, .ref a, .str (S t)] H5 (fun v H' => match v with | .bl k => Q' (!k) H' | _ => False) E0 := fun hnc => ⟨p, a, s, t, ds, rfl, hL.mono e15, hS5, ok, hnc, hT, fun H' e => q' H' e⟩
    cases s with
    | num n => exact full trivial
    | word n => exact full trivial
    | choice n => exact q' H5 (Ex.refl H5)
  have e16 : Ex H1 H6 := Ex.trans e15 e6
  have hw6 := e16 _ _ hw
  refine ⟨ws, .inl (SqL.of hw6), fun pk H7 hpk e7 l7 => ?_⟩
  have hw7 := e7 _ _ hw6
  refine ⟨⟨_, hw7⟩, rfl, ws, hw7, ?_⟩
  have hpp : pk ≠ p := fun z => by
    rw [z, hw6] at hpk
    cases hpk
  have hne : ∀ a b, H7 p ≠ some (.tup [.int a, .int b]) := fun a b z => by
    rw [hw7] at z
    cases z
  have hK : LAt (upd H7 p (.lst [])) pk ds := ⟨ws, by rw [upd_ne hpp]; exact l7, (hv.mono (Ex.trans e16 e7)).over hne⟩
  have e08 : Ex H (upd H7 p (.lst [])) := Ex.mut (Ex.trans e1 (Ex.trans e16 e7)) hp
  generalize upd H7 p (.lst []) = H8 at hK e08
  dsimp only [tSeq]
  refine ifE (fun Q' q' => ?_) fun H9 e9 => ?_
  · obtain ⟨C, dx, fs, g1, g2, cond2, g3, g4⟩ := metVF (P := P) (base := base) T (Ex.formAt e08 hF)
    refine ⟨C, dx, fs, _, g1, g2, g4, f, s, t, rfl, g3, Ex.formAt e08 hF, ok, ht, fun p9 H9 ds9 _ e9 hL9 hT9 _ => ?_⟩
    obtain rfl := told_uniq ok hT hT9
    refine ⟨_, _, hL9.dp, (hK.mono e9).dp, shaped_list ds hdok, shaped_list ds hdok, ?_⟩
    have ee : PyData.eqv (.list (ds.map Dat.py)) (.list (ds.map Dat.py)) = decide (ds = ds) := eqvAll_py ds ds
    rw [ee, decide_eq_true rfl]
    exact q' H9 e9
  have hK9 := hK.mono e9
  obtain ⟨ks, hks, hkv⟩ := id hK9
  refine ⟨l100 rfl, fun p10 H10 _ e10 l10 => ⟨ks, .inl (SqL.of (e10 _ _ hks)), ?_⟩⟩
  have hat : atI [V.str (S [110, 111, 110, 101]), V.str (S [111, 110, 101]), V.str (S [115, 111, 109, 101])] (min 2 ((ks.length : Nat) : Int)) = some (V.str (S (kindT ds))) := by
    have hkl := hkv.len
    unfold kindT
    by_cases c0 : ds.length = 0
    · rw [if_pos c0]
      exact atI_eq (j := 0) (by omega) rfl
    · rw [if_neg c0]
      by_cases c1 : ds.length = 1
      · rw [if_pos c1]
        exact atI_eq (j := 1) (by omega) rfl
      · rw [if_neg c1]
        exact atI_eq (j := 2) (by omega) rfl
  refine ⟨_, _, .inl (SqL.of l10), hat, l100 rfl, fun pd H11 _ e11 l11 => ?_⟩
  have e0b : Ex H H11 := Ex.trans e08 (Ex.trans e9 (Ex.trans e10 e11))
  have hKb := hK9.mono (Ex.trans e10 e11)
  refine ⟨f, s, t, rfl, Ex.formAt e0b hF, ok, ht, fun ds' hT' ps qs H12 e12 l12 hL12 => ?_⟩
  obtain rfl := told_uniq ok hT hT'
  refine ⟨duePy (kindT ds) ds, duePy (kindT ds) ds, due_dp l12 hL12, due_dp (e12 _ _ l11) (hKb.mono e12), due_shaped _ (kind_ok ds) ds hdok, due_shaped _ (kind_ok ds) ds hdok, ?_⟩
  rw [due_eqv]
  refine ⟨true, rfl, ?_⟩
  refine ⟨ks, .inl (SqL.of (e12 _ _ (e11 _ _ (e10 _ _ hks)))), _, rfl, ?_⟩
  refine iteD (fun _ => q H12 (Ex.trans e0b e12)) (fun _ => ?_)
  refine ⟨f, s, t, rfl, Ex.formAt (Ex.trans e0b e12) hF, ok, ht, fun ds' hT' ps2 qs2 H13 e13 l13 hL13 => ?_⟩
  obtain rfl := told_uniq ok hT hT'
  refine ⟨duePy (kindT ds) ds, duePy (kindT ds) ds, due_dp l13 hL13, due_dp (e13 _ _ (e12 _ _ l11)) ((hKb.mono e12).mono e13), due_shaped _ (kind_ok ds) ds hdok, due_shaped _ (kind_ok ds) ds hdok, ?_⟩
  rw [due_eqv]
  exact q H13 (Ex.trans e0b (Ex.trans e12 e13))
theorem ok_L_good {P : Program} {w : World} {K : PySem.W.Frag} {mg : Str → Option Value} {base : Heap} (T : TX w K mg) : Fn P w K mg base CX0 12 "_law_good" (sp_L_good K) := by
  obtain ⟨fd, F⟩ := T.d_L_good
  refine ⟨_, fd, A_L_good, T.g_L_good, F.kp, fnD F sc_L_good (fun vs H Q E h => ?_) (fun cdv A outer s H vs Q E hr h => ⟨_, PSs.nox (der_L_good T (ok_L_is_value T) (ok_L_text T) (ok_L_ahead T) (ok_L_is_full T) (ok_L_single T) hr), rd_L_good T vs H Q E h⟩), F.bindsN fun _ _ _ _ _ _ us hl => match us, hl with | [_, _, _, _], _ => rfl⟩
  obtain ⟨_, _, _, _, _, rfl, _⟩ := h
  rfl
/-! ### law -/
def sp_L_law (K : PySem.W.Frag) : Sp := fun vs H Q _ => ∃ (a : Addr) (ns : List Int), vs = [.ref a] ∧ SqL K H a (ns.map V.int) ∧ ns.length ≤ 100000 ∧ ∀ H', Ex H H' → Q (.bl true) H'
def t_L_law (P : Program) (w : World) (K : PySem.W.Frag) (mg : Str → Option Value) (base : Heap) : TS := tSeq (tSetK 1 (tCall (sp_L_spec K) [] E0 (tCons (tV 0) (tCons (tC (.int 0)) (tNil))))) (tSeq (tSetK 2 (tCall (sp_L_form K) [] E0 (tCons (tV 1) (tNil)))) (tSeq (tFor (iRng2 (tCons (tC (.int 3)) (tCons (tCB (rMax1) (tCons (tC (.int 4)) (tCons (tCB (rMin1) (tCons (tCB (rLen1 K) (tCons (tV 0) (tNil))) (tCons (tC (.int 7)) (tNil)))) (tNil)))) (tNil)))) (gK 3) (tSeq (tSetK 4 (tCall (sp_L_cell_at K) [] E0 (tCons (tV 0) (tCons (tV 3) (tNil))))) (tSeq (tSetK 5 (tCall (sp_L_value) [] E0 (tCons (tV 4) (tCons (tV 1) (tNil))))) (tSeq (tSetK 6 (tCall (sp_L_text) [] E0 (tCons (tV 5) (tCons (tV 1) (tNil))))) (tCut (tIfS (tB1 (tOp (rIsN1) (tV 6) (tC .non))) (tSeq (tAsg (tCall (sp_L_parts_of) [] E0 (tCons (tV 5) (tCons (tV 1) (tNil)))) (gTup K 2 (gCons (gK 7) (gCons (gK 8) (gNil))))) (tSeq (tIfS (tB1 (tOp (rInD K) (tV 5) (tMet1 P w K mg base CX0 8 "values_for" E0 (tV 2) (tCons (tOp qAdd (tV 7) (tV 8)) (tNil))))) (tRet (tC (.bl false))) (tNext)) (tSetK 6 (tOp qAdd (tV 7) (tV 8))))) (tIfS (tNot (tB1 (tCall (sp_L_good K) [] E0 (tCons (tV 2) (tCons (tV 1) (tCons (tV 6) (tCons (tV 5) (tNil)))))))) (tRet (tC (.bl false))) (tNext))) (tFor (iList K (tCall (sp_L_spoilt) [] E0 (tCons (tV 4) (tCons (tV 6) (tNil))))) (gK 9) (tIfS (tNot (tB1 (tCall (sp_L_good K) [] E0 (tCons (tV 2) (tCons (tV 1) (tCons (tV 9) (tCons (tC .non) (tNil)))))))) (tRet (tC (.bl false))) (tNext)))))))) (tRet (tC (.bl true)))))
theorem der_L_law {P : Program} {w : World} {K : PySem.W.Frag} {mg : Str → Option Value} {base : Heap} (T : TX w K mg) (C_L_spec : Fn P w K mg base CX0 5 "_law_spec" (sp_L_spec K)) (C_L_form : Fn P w K mg base CX0 5 "_law_form" (sp_L_form K)) (C_L_cell_at : Fn P w K mg base CX0 1 "_law_cell_at" (sp_L_cell_at K)) (C_L_value : Fn P w K mg base CX0 3 "_law_value" (sp_L_value)) (C_L_text : Fn P w K mg base CX0 5 "_law_text" (sp_L_text)) (C_L_parts_of : Fn P w K mg base CX0 4 "_law_parts_of" (sp_L_parts_of)) (C_L_good : Fn P w K mg base CX0 12 "_law_good" (sp_L_good K)) (C_L_spoilt : Fn P w K mg base CX0 3 "_law_spoilt" (sp_L_spoilt)) {f : Addr} {cdv : Value} {A : Around} {outer : List Env} {s : Shared} {H : Hp} {E : XK} (hr : Room 12 (A.deeper (envOfC "law" (defScope s_L_law) s.heap.objs.size f cdv))) :
    PSs (cxOf CX0 P w K mg base N_L_law "law" (defScope s_L_law) f cdv A outer s H E).nox (defBody s_L_law) (t_L_law P w K mg base) :=
  pss_cons (sSetK (i := 1) sc_L_law.nd rfl nl_L_law__law_spec_here (fCall C_L_spec (hr.mono (by decide)) ng_L_law__law_spec pass0 (aCons (fV 0 nm_L_law__law_script rfl) (aCons (pe_int) (pa_nil) rfl) rfl) rfl) rfl (.inl rfl)) (pss_cons (sSetK (i := 2) sc_L_law.nd rfl nl_L_law__law_form_here (fCall C_L_form (hr.mono (by decide)) ng_L_law__law_form pass0 (aCons (fV 1 nm_L_law__law_spec_here rfl) (pa_nil) rfl) rfl) rfl (.inl rfl)) (pss_cons (ps_for PassesOwn.never rfl (pi_range2 (ng_L_law_range).gl T.b_range (aCons (pe_int) (aCons (fB (cMax rfl) ng_L_law_max T.b_max bb_max (aCons (pe_int) (aCons (fB (cMin rfl) ng_L_law_min T.b_min bb_min (aCons (fB cLen ng_L_law_len T.b_len bb_len (aCons (fV 0 nm_L_law__law_script rfl) (pa_nil) rfl) rfl) (aCons (pe_int) (pa_nil) rfl) rfl) rfl) (pa_nil) rfl) rfl) rfl) (pa_nil) rfl) rfl)) (gNK sc_L_law.nd rfl nl_L_law__law_k (.inl rfl)) (pss_cons (sSetK (i := 4) sc_L_law.nd rfl nl_L_law__law_cell (fCall C_L_cell_at (hr.mono (by decide)) ng_L_law__law_cell_at pass0 (aCons (fV 0 nm_L_law__law_script rfl) (aCons (fV 3 nm_L_law__law_k rfl) (pa_nil) rfl) rfl) rfl) rfl (.inl rfl)) (pss_cons (sSetK (i := 5) sc_L_law.nd rfl nl_L_law__law_value_here (fCall C_L_value (hr.mono (by decide)) ng_L_law__law_value pass0 (aCons (fV 4 nm_L_law__law_cell rfl) (aCons (fV 1 nm_L_law__law_spec_here rfl) (pa_nil) rfl) rfl) rfl) rfl (.inl rfl)) (pss_cons (sSetK (i := 6) sc_L_law.nd rfl nl_L_law__law_text_here (fCall C_L_text (hr.mono (by decide)) ng_L_law__law_text pass0 (aCons (fV 5 nm_L_law__law_value_here rfl) (aCons (fV 1 nm_L_law__law_spec_here rfl) (pa_nil) rfl) rfl) rfl) rfl (.inl rfl)) (sCut (ps_if (tCmp1 (oIsN) (fV 6 nm_L_law__law_text_here rfl) (pe_non) (nomark _)) (pss_cons (ps_asg (fCall C_L_parts_of (hr.mono (by decide)) ng_L_law__law_parts_of pass0 (aCons (fV 5 nm_L_law__law_value_here rfl) (aCons (fV 1 nm_L_law__law_spec_here rfl) (pa_nil) rfl) rfl) rfl) (pg_tup rfl (pgs_cons (gNK sc_L_law.nd rfl nl_L_law__law_lead (.inl rfl)) (pgs_cons (gNK sc_L_law.nd rfl nl_L_law__law_rest (.inl rfl)) (pgs_nil))))) (pss_cons (ps_if (tCmp1 (op_inD (hu_of2 hr)) (fV 5 nm_L_law__law_value_here rfl) (fMet (fV 2 nm_L_law__law_form_here rfl) (hr.mono (by decide)) pass0 (aCons (pe_op oAdd (fV 7 nm_L_law__law_lead rfl) (fV 8 nm_L_law__law_rest rfl)) (pa_nil) rfl) rfl rfl) (by rfl)) (pss_one (ps_ret (pe_bl))) (pss_nil)) (pss_one (sSetK (i := 6) sc_L_law.nd rfl nl_L_law__law_text_here (pe_op oAdd (fV 7 nm_L_law__law_lead rfl) (fV 8 nm_L_law__law_rest rfl)) rfl (.inl rfl))))) (pss_one (ps_if (pt_not (tVal1 (fCall C_L_good (hr.mono (by decide)) ng_L_law__law_good pass0 (aCons (fV 2 nm_L_law__law_form_here rfl) (aCons (fV 1 nm_L_law__law_spec_here rfl) (aCons (fV 6 nm_L_law__law_text_here rfl) (aCons (fV 5 nm_L_law__law_value_here rfl) (pa_nil) rfl) rfl) rfl) rfl) rfl) (fun _ => rfl))) (pss_one (ps_ret (pe_bl))) (pss_nil)))) (pss_one (ps_for PassesOwn.never rfl (pi_list (fCall C_L_spoilt (hr.mono (by decide)) ng_L_law__law_spoilt pass0 (aCons (fV 4 nm_L_law__law_cell rfl) (aCons (fV 6 nm_L_law__law_text_here rfl) (pa_nil) rfl) rfl) rfl)) (gNK sc_L_law.nd rfl nl_L_law__law_one (.inl rfl)) (pss_one (ps_if (pt_not (tVal1 (fCall C_L_good (hr.mono (by decide)) ng_L_law__law_good pass0 (aCons (fV 2 nm_L_law__law_form_here rfl) (aCons (fV 1 nm_L_law__law_spec_here rfl) (aCons (fV 9 nm_L_law__law_one rfl) (aCons (pe_non) (pa_nil) rfl) rfl) rfl) rfl) rfl) (fun _ => rfl))) (pss_one (ps_ret (pe_bl))) (pss_nil)))))))))) (pss_one (ps_ret (pe_bl)))))
theorem filled_len (s : Spec) (ld r : List Nat) : (s.filled ld r).length ≤ s.width + (ld.length + r.length) := by
  unfold Spec.filled
  split
  · rw [padI_len]; omega
  · rw [padT_len, List.length_append]; omega
theorem text_len {s : Spec} (ok : s.Ok) {d : Dat} (hd : IsVal s d) {t : List Nat} (h : s.textOf d = some t) : t.length ≤ 160 := by
  unfold Spec.textOf at h
  split at h
  · cases h
  · injection h with h
    have h1 := filled_len s (s.partsOf d).1 (s.partsOf d).2
    have h2 := parts_len ok hd
    have h3 := ok.wd
    rw [h] at h1
    omega
theorem rd_L_law (T : TX w K mg) (vs : List V) (H : Hp) (Q : VK) (E : XK) (h : sp_L_law K vs H Q E) : t_L_law P w K mg base { nx := fun _ H' => Q .non H', rt := Q } (start N_L_law vs) H := by
  obtain ⟨sc, ns, rfl, hsc, hns, q⟩ := h
  show t_L_law P w K mg base _ [some (.ref sc), none, none, none, none, none, none, none, none, none] H
  refine ⟨sc, ns, rfl, hsc, fun a H1 s ok e1 hS1 => ?_⟩
  refine ⟨a, s, rfl, hS1, fun f H2 e2 hF2 => ?_⟩
  have e02 := Ex.trans e1 e2
  have hS2 := Ex.specAt e2 hS1
  have hlen : (ns.map V.int).length = ns.length := List.length_map _
  obtain ⟨N, hN⟩ : ∃ N : Nat, (max 4 (min (((ns.map V.int).length : Nat) : Int) 7) - 3).toNat = N := ⟨_, rfl⟩
  refine ⟨_, .inl (e02.sqL hsc), 3, _, rfl, ⟨by decide, by decide, by omega, by omega⟩, ?_⟩
  rw [hN]
  refine for_range (lo := 3) (n := N) (fun i σ H' => Ex H2 H' ∧ ∃ x3 x4 x5 x6 x7 x8 x9, σ = [some (.ref sc), some (.ref a), some (.ref f), x3, x4, x5, x6, x7, x8, x9]) ⟨Ex.refl H2, _, _, _, _, _, _, _, rfl⟩ ?_ ?_
  · rintro i σ H3 hi ⟨e3, x3, x4, x5, x6, x7, x8, x9, rfl⟩
    have e03 := Ex.trans e02 e3
    refine ⟨sc, ns, 3 + i, rfl, e03.sqL hsc, fun c => ?_⟩
    refine ⟨c, a, s, rfl, Ex.specAt e3 hS2, ok, fun v d H4 e4 hv hd => ?_⟩
    have hS4 := Ex.specAt (Ex.trans e3 e4) hS2
    refine ⟨a, s, v, d, rfl, hS4, ok, hv, hd, fun H5 e5 => ?_⟩
    have e25 : Ex H2 H5 := Ex.trans e3 (Ex.trans e4 e5)
    have hv5 := hv.mono e5
    refine ⟨fun σ' H' => Ex H2 H' ∧ ∃ (tt : List Nat) (y7 y8 : Option V), tt.length ≤ 160 ∧ σ' = [some (.ref sc), some (.ref a), some (.ref f), some (.int (3 + (i : Int))), some (.int c), some v, some (.str (S tt)), y7, y8, x9], ?_, ?_⟩
    · cases htx : s.textOf d with
      | none =>
        refine ⟨rfl, ?_⟩
        refine ⟨a, s, v, d, rfl, Ex.specAt e25 hS2, ok, hv5, hd, fun p6 H6 e6 l6 => ?_⟩
        refine ⟨p6, _, rfl, SqT.of l6, rfl, _, _, rfl, _, _, rfl, rfl, ?_⟩
        have hpl := parts_len ok hd
        generalize (s.partsOf d).1 = ld at hpl
        generalize (s.partsOf d).2 = r at hpl
        have hF6 := Ex.formAt (Ex.trans e25 e6) hF2
        obtain ⟨C, dx, fs, g1, g2, cond, g3, g4⟩ := metVF (P := P) (base := base) T hF6
        refine ⟨C, dx, fs, _, g1, g2, g4, _, _, rfl, rfl, by omega, f, s, ld ++ r, rfl, g3, hF6, ok, by rw [List.length_append]; omega, fun p7 H7 ds _ e7 hL7 hT _ => ?_⟩
        have hno : d ∉ ds := fun z => by
          have := ((told_mem ok hT d).mp z).2
          rw [htx] at this
          cases this
        have hcd := cand_ok (isVal_cand ok hd)
        refine ⟨d.py, ds.map Dat.py, (hv5.mono (Ex.trans e6 e7)).dp, hL7.dp, shaped_py d hcd, shaped_list ds (told_ok ok hT), ?_⟩
        rw [any_py, decide_eq_false hno]
        exact ⟨_, _, rfl, rfl, by omega, Ex.trans e25 (Ex.trans e6 e7), ld ++ r, _, _, by rw [List.length_append]; omega, rfl⟩
      | some tt =>
        have htl := text_len ok hd htx
        refine ⟨rfl, ?_⟩
        exact ⟨f, a, s, tt, v, rfl, Ex.formAt e25 hF2, Ex.specAt e25 hS2, ok, by omega, .inr ⟨d, hv5, hd, htx⟩, fun H6 e6 => ⟨Ex.trans e25 e6, tt, _, _, htl, rfl⟩⟩
    · rintro _ H6 ⟨e26, tt, y7, y8, htt, rfl⟩
      refine ⟨c, tt, rfl, by omega, fun p7 H7 ls e7 l7 hls => ?_⟩
      refine ⟨p7, rfl, ⟨_, SqL.of l7⟩, for_list (K := K) (a := p7) (xs := sVs ls) (fun j σ H' => Ex H7 H' ∧ ∃ y9, σ = [some (.ref sc), some (.ref a), some (.ref f), some (.int (3 + (i : Int))), some (.int c), some v, some (.str (S tt)), y7, y8, y9]) ⟨Ex.refl H7, _, rfl⟩ (fun j σ H' _ hh => SqL.of (hh.1 _ _ l7)) ?_ ?_⟩
      · rintro j x σ H8 hx ⟨e8, y9, rfl⟩
        obtain ⟨l, hl, rfl⟩ := sVs_get hx
        have := hls l (List.mem_of_getElem? hl)
        have e28 := Ex.trans e26 (Ex.trans e7 e8)
        exact ⟨f, a, s, l, .non, rfl, Ex.formAt e28 hF2, Ex.specAt e28 hS2, ok, by omega, .inl rfl, fun H9 e9 => ⟨Ex.trans e8 e9, _, rfl⟩⟩
      · rintro σ H8 ⟨e8, y9, rfl⟩
        exact ⟨Ex.trans e26 (Ex.trans e7 e8), _, _, _, _, _, _, _, rfl⟩
  · rintro σ H3 ⟨e3, _, _, _, _, _, _, _, rfl⟩
    exact q H3 (Ex.trans e02 e3)
theorem ok_L_law {P : Program} {w : World} {K : PySem.W.Frag} {mg : Str → Option Value} {base : Heap} (T : TX w K mg) : Fn P w K mg base CX0 13 "law" (sp_L_law K) := by
  obtain ⟨fd, F⟩ := T.d_L_law
  refine ⟨_, fd, A_L_law, T.g_L_law, F.kp, fnD F sc_L_law (fun vs H Q E h => ?_) (fun cdv A outer s H vs Q E hr h => ⟨_, PSs.nox (der_L_law T (ok_L_spec T) (ok_L_form T) (ok_L_cell_at T) (ok_L_value T) (ok_L_text T) (ok_L_parts_of T) (ok_L_good T) (ok_L_spoilt T) hr), rd_L_law T vs H Q E h⟩), F.bindsN fun _ _ _ _ _ _ us hl => match us, hl with | [_], _ => rfl⟩
  obtain ⟨_, _, rfl, _⟩ := h
  rfl
end
end K45
set_option maxHeartbeats 0
/-! the head: what the top leaves, by names; the addresses looked at are picked by name -/
namespace K45
open PySem PySem.Spec PyProof.Rows L2 F
theorem fn_law {P : Program} {w : World} {K : PySem.W.Frag} {mg : Str → Option Value} {base : Heap} (T : TX w K mg) {fd : FuncData} (F : FunD K "law" "law" (defArgs s_L_law) (defBody s_L_law) (defScope s_L_law) [] [] (He.ga K "law") fd) : FnOk P w K mg base CX0 13 (He.ga K "law") fd ["_law_script"] (sp_L_law K) := by
  refine fnD F sc_L_law (fun vs H Q E h => ?_) (fun cdv A outer s H vs Q E hr h => ⟨_, PSs.nox (der_L_law T (ok_L_spec T) (ok_L_form T) (ok_L_cell_at T) (ok_L_value T) (ok_L_text T) (ok_L_parts_of T) (ok_L_good T) (ok_L_spoilt T) hr), rd_L_law T vs H Q E h⟩)
  obtain ⟨_, _, rfl, _⟩ := h
  rfl
end K45
open PySem PySem.W PySem.Calls PyProof.Rows
theorem PySem.Challenge.cw_padwright_k45_values_for_a_text_holds : PySem.Challenge.rw_padwright_k45_values_for_a_text.Holds := by
  w_on; o_law
  refine HandSHeadRun.head_any (r := OpenLaw.row PySem.Challenge.rw_padwright_k45_values_for_a_text) (q := view (OpenLaw.row PySem.Challenge.rw_padwright_k45_values_for_a_text).prog [95]) (H := K45.hkS) (ob := K45.obS) (M := 7000) (loose := K45.lnm) (d := HandSHeadRun.topDef (OpenLaw.row PySem.Challenge.rw_padwright_k45_values_for_a_text).prog 95) (kwd := []) K45.obS_eq
    (by kernel_rfl) (fun s => by kernel_rfl) K45.runA (by kernel_rfl) (by kernel_rfl) (by kernel_rfl) (by rfl) (by first | assumption | decide +kernel) (by decide +kernel) ⟨rfl, rfl, rfl, rfl, rfl, by decide +kernel⟩ ?hw ?hc
  case hw => w_witness2
  case hc =>
    refine L2.walk_ofE (l := PySem.Challenge.rw_padwright_k45_values_for_a_text) (n := 63) (k := 13) (x := "_law_script") (CX := L2.CX0) rfl (by decide) (by kernel_rfl) ⟨rfl, by decide, by decide⟩ ?F (fun _ _ _ _ z => z)
    intro w mg fa h Y G hmg0
    obtain ⟨K, KX, c⟩ := Y
    have hmg : mg ("law" : PySem.Str) = some (.ref fa) := by
      have e : (HandSHeadRun.topDef (OpenLaw.row PySem.Challenge.rw_padwright_k45_values_for_a_text).prog 95).name = ("law" : PySem.Str) := by kernel_rfl
      rw [← e]
      exact hmg0
    have T : K45.TX w K mg := K45.facts KX G c
    obtain ⟨fd, F⟩ := T.d_L_law
    have e := hmg.symm.trans T.g_L_law
    cases e
    have b := L2.FunD.bindsA (ps := ["_law_script"]) F fun _ _ _ _ _ _ us hl => match us, hl with | [_], _ => rfl
    exact ⟨K, fd, K45.sp_L_law K, KX, fun s v => b s [v] rfl, fun H a ns hl _ hS => ⟨a, ns, rfl, hS, by omega, fun _ _ => rfl⟩, fun base _ _ => K45.fn_law T F⟩
