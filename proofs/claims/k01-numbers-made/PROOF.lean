import PyProof.Rows.All
import Wide.All
import OpenK.AllK
import Wide.FinOn
import HandS.ForMost
import HandS.Exc
import HandS.ExcOwn
import HandS.ExcCtx
import HandS.ExcInit
import HandS.ExcField
import HandS.HotCalls
import HandS.TryOnly
import HandS.TryMany
import HandS.WordsExc
import HandS.Wide
import HandS.IsInst
import HandS.Style
import HandS.Defaults
import HandS.TupAny
import HandS.Deep
import HandS.RaiseMore
import HandS.NoneIn
import HandS.FStr
import HandS.Head0
import HandS.Head1
import HandS.Head2
import HandS.HeadEnd
import HandS.HeadHook1
import HandS.HeadHook2
import HandS.HeadHook3
import HandS.HeadHook4
import HandS.HeadWalk
import KE.KExcIs
import PySem.Challenge.RW_mendrounds_k01_numbers_made
set_option Elab.async false
set_option linter.all false
set_option maxRecDepth 100000
set_option maxHeartbeats 4000000
namespace M
open PySem PySem.Spec PyProof.Rows L2
/-! ## values of any depth -/
inductive J where
  | non | bl (b : Bool) | int (i : Int) | str (s : Str) | lst (l : List J) | tup (l : List J) | dct (l : List (Key × J))
mutual
inductive Jp (K : PySem.W.Frag) (H : Hp) : V → J → Prop
  | non : Jp K H .non .non
  | bl (b : Bool) : Jp K H (.bl b) (.bl b)
  | int (i : Int) : Jp K H (.int i) (.int i)
  | str (x : Str) : Jp K H (.str x) (.str x)
  | lst {a : Addr} {xs : List V} {ds : List J} : H a = some (.lst xs) → Jps K H xs ds → Jp K H (.ref a) (.lst ds)
  | tup {a : Addr} {xs : List V} {ds : List J} : SqT K H a xs → Jps K H xs ds → Jp K H (.ref a) (.tup ds)
  | dct {a : Addr} {xs : List (Key × V)} {ds : List (Key × J)} : H a = some (.dK xs) → Jpd K H xs ds → Jp K H (.ref a) (.dct ds)
inductive Jps (K : PySem.W.Frag) (H : Hp) : List V → List J → Prop
  | nil : Jps K H [] []
  | cons {v : V} {vs : List V} {d : J} {ds : List J} : Jp K H v d → Jps K H vs ds → Jps K H (v :: vs) (d :: ds)
inductive Jpd (K : PySem.W.Frag) (H : Hp) : List (Key × V) → List (Key × J) → Prop
  | nil : Jpd K H [] []
  | cons {k : Key} {v : V} {vs : List (Key × V)} {d : J} {ds : List (Key × J)} : Jp K H v d → Jpd K H vs ds → Jpd K H ((k, v) :: vs) ((k, d) :: ds)
end
section
variable {K : PySem.W.Frag} {H H' : Hp}
theorem sqt_same (e : Same H H') {a : Addr} {xs : List V} (h : SqT K H a xs) : SqT K H' a xs := by
  rcases h with (h | ⟨o, h⟩) | h
  · exact .inl (.inl (e _ _ h))
  · exact .inl (.inr ⟨o, e _ _ h⟩)
  · exact .inr h
mutual
theorem Jp.same (e : Same H H') : ∀ {v : V} {d : J}, Jp K H v d → Jp K H' v d
  | _, _, .non => .non
  | _, _, .bl b => .bl b
  | _, _, .int b => .int b
  | _, _, .str b => .str b
  | _, _, .lst h r => .lst (e _ _ h) (Jps.same e r)
  | _, _, .tup h r => .tup (sqt_same e h) (Jps.same e r)
  | _, _, .dct h r => .dct (e _ _ h) (Jpd.same e r)
theorem Jps.same (e : Same H H') : ∀ {v : List V} {d : List J}, Jps K H v d → Jps K H' v d
  | _, _, .nil => .nil
  | _, _, .cons h r => .cons (Jp.same e h) (Jps.same e r)
theorem Jpd.same (e : Same H H') : ∀ {v : List (Key × V)} {d : List (Key × J)}, Jpd K H v d → Jpd K H' v d
  | _, _, .nil => .nil
  | _, _, .cons h r => .cons (Jp.same e h) (Jpd.same e r)
end
theorem Jps.length : ∀ {v : List V} {d : List J}, Jps K H v d → v.length = d.length
  | _, _, .nil => rfl
  | _, _, .cons _ r => congrArg Nat.succ (Jps.length r)
end
end M
/-! ## reading steps -/
namespace M
open PySem PySem.Spec PyProof.Rows L2
section
variable {K : PySem.W.Frag} {H H' : Hp} {σ σ' : L2.St} {Q : VK} {v x y : V} {ta tb tc te : TE} {tt tu : TT} {t tr : TA} {i j : Nat} {a b : Addr} {xs ys : List V}
/-! ### universal operators -/
def uAdd (K : PySem.W.Frag) : R2 := fun x y H Q => rI0 (fun i j => .int (i + j)) x y H Q ∨ ((∃ i j, x = .str i ∧ y = .str j ∧ i.length + j.length ≤ sizeLine ∧ Q (.str (i ++ j)) H) ∨ (rCat x y H Q ∨ rCatA K x y H Q))
theorem op_addU {X : Cx} : OpR X (binaryOp .Add) (uAdd X.K) := OpR.or op_add (OpR.or op_add_str (OpR.or op_cat op_catA))
theorem addU_i {i j : Int} (q : Q (.int (i + j)) H) : uAdd K (.int i) (.int j) H Q := .inl ⟨i, j, rfl, rfl, q⟩
theorem addU_s {i j : Str} (q : Q (.str (i ++ j)) H) (h : i.length + j.length ≤ 100000) : uAdd K (.str i) (.str j) H Q := .inr (.inl ⟨i, j, rfl, rfl, Nat.le_trans h (by decide), q⟩)
theorem addU_l (ha : H a = some (.lst xs)) (hb : H b = some (.lst ys)) (hz : xs.length + ys.length ≤ 100000) (q : ∀ p H1, H p = none → Same H H1 → H1 p = some (.lst (xs ++ ys)) → Q (.ref p) H1) : uAdd K (.ref a) (.ref b) H Q :=
  .inr (.inr (.inl ⟨a, b, xs, ys, rfl, rfl, ha, hb, Nat.le_trans hz (by decide), fun p hp => q p _ hp (fun c o e => by rw [upd_ne (ne_of_none e hp)]; exact e) upd_same⟩))
theorem same_new {p : Addr} {o : HO} (hp : H p = none) : Same H (upd H p o) := fun c u e => by rw [upd_ne (ne_of_none e hp)]; exact e
def uMul (K : PySem.W.Frag) : R2 := fun x y H Q => rI CMulW (fun i j => .int (i * j)) x y H Q ∨ rRep x y H Q
theorem op_mulU {X : Cx} : OpR X (binaryOp .Mult) (uMul X.K) := OpR.or op_mulW op_rep
theorem mulU_i {i j : Int} (q : Q (.int (i * j)) H) (h : CMulW i j) : uMul K (.int i) (.int j) H Q := .inl ⟨i, j, rfl, rfl, h, q⟩
theorem cmul {i j : Int} (h : i.natAbs < 10 ^ 200) (h' : j.natAbs < 10 ^ 200) : CMulW i j :=
  wide_mul (a := 4000) (b := 4000) (Nat.lt_of_lt_of_le h (by decide +kernel)) (Nat.lt_of_lt_of_le h' (by decide +kernel)) (by decide) (by decide) (by decide)
theorem cdiv {i j : Int} (h : 0 < j) (h' : j.natAbs < 10 ^ 200) : CDivW i j := wide_div h (b := 4000) (Nat.lt_of_lt_of_le h' (by decide +kernel)) (by decide) (by decide)
/-- subscripts: lists, tuples, texts -/
def uIx (K : PySem.W.Frag) : R2 := fun x y H Q => rIxL K x y H Q ∨ (rIxT K x y H Q ∨ rIxS x y H Q)
theorem ix_U {X : Cx} : IxR X (uIx X.K) := IxR.or ix_list (IxR.or ix_tup ix_str)
theorem ixU_l {i : Int} (h : H a = some (.lst xs)) (e : atI xs i = some v) (q : Q v H) : uIx K (.ref a) (.int i) H Q := .inl ⟨a, xs, i, v, rfl, rfl, .inl (.inl h), e, q⟩
theorem ixU_L {i : Int} (h : SqL K H a xs) (e : atI xs i = some v) (q : Q v H) : uIx K (.ref a) (.int i) H Q := .inl ⟨a, xs, i, v, rfl, rfl, h, e, q⟩
theorem ixU_T {i : Int} (h : SqT K H a xs) (e : atI xs i = some v) (q : Q v H) : uIx K (.ref a) (.int i) H Q := .inr (.inl ⟨a, xs, i, v, rfl, rfl, h, e, q⟩)
theorem ixU_t {i : Int} (h : H a = some (.tup xs)) (e : atI xs i = some v) (q : Q v H) : uIx K (.ref a) (.int i) H Q := .inr (.inl ⟨a, xs, i, v, rfl, rfl, .inl (.inl h), e, q⟩)
theorem ixU_s {s : Str} {i : Int} {c : Nat} (hz : s.length ≤ 100000) (e : atI s.cps.toList i = some c) (q : Q (.str ⟨#[c]⟩) H) : uIx K (.str s) (.int i) H Q := .inr (.inr ⟨s, i, c, rfl, rfl, Nat.le_trans hz (by decide), e, q⟩)
/-- len -/
def uLen (K : PySem.W.Frag) : List V → Hp → VK → Prop := fun xs H Q => (∃ p ys, xs = [.ref p] ∧ (SqL K H p ys ∨ SqT K H p ys) ∧ Q (.int ys.length) H) ∨ ((∃ z, xs = [.str z] ∧ z.length ≤ sizeLine ∧ Q (.int z.length) H) ∨ (∃ a kvs, xs = [V.ref a] ∧ H a = some (.dK kvs) ∧ Q (.int kvs.length) H))
theorem call_lenU {X : Cx} : CallR X (.builtin "len") (uLen X.K) := CallR.or call_len_seq (CallR.or call_len_str call_lenD)
theorem lenU_l (h : H a = some (.lst xs)) (q : Q (.int xs.length) H) : uLen K [.ref a] H Q := .inl ⟨a, xs, rfl, .inl (.inl (.inl h)), q⟩
theorem lenU_L (h : SqL K H a xs) (q : Q (.int xs.length) H) : uLen K [.ref a] H Q := .inl ⟨a, xs, rfl, .inl h, q⟩
theorem lenU_t (h : H a = some (.tup xs)) (q : Q (.int xs.length) H) : uLen K [.ref a] H Q := .inl ⟨a, xs, rfl, .inr (.inl (.inl h)), q⟩
theorem lenU_T (h : SqT K H a xs) (q : Q (.int xs.length) H) : uLen K [.ref a] H Q := .inl ⟨a, xs, rfl, .inr h, q⟩
theorem lenU_s {s : Str} (hz : s.length ≤ 100000) (q : Q (.int s.length) H) : uLen K [.str s] H Q := .inr (.inl ⟨s, rfl, Nat.le_trans hz (by decide), q⟩)
theorem lenU_d {kvs : List (Key × V)} (h : H a = some (.dK kvs)) (q : Q (.int kvs.length) H) : uLen K [.ref a] H Q := .inr (.inr ⟨a, kvs, rfl, h, q⟩)

/-! ### expressions -/
theorem x_var (q : Q v H) (h : σ[i]? = some (some v) := by with_unfolding_all rfl) : tVar i σ H Q := ⟨v, h, q⟩
theorem x_c (q : Q v H) : tC v σ H Q := q
theorem x_op {r : R2} (h : ta σ H fun x H1 => tb σ H1 fun y H2 => r x y H2 Q) : tOp r ta tb σ H Q := h
theorem x_un {r : V → Hp → VK → Prop} (h : ta σ H fun x H1 => r x H1 Q) : tUn r ta σ H Q := h
theorem x_I0 {g : Int → Int → V} {i j : Int} (q : Q (g i j) H) : rI0 g (.int i) (.int j) H Q := ⟨i, j, rfl, rfl, q⟩
theorem x_I {C : Int → Int → Prop} {g : Int → Int → V} {i j : Int} (c : C i j) (q : Q (g i j) H) : rI C g (.int i) (.int j) H Q := ⟨i, j, rfl, rfl, c, q⟩
theorem x_U {g : Int → V} {i : Int} (q : Q (g i) H) : rU g (.int i) H Q := ⟨i, rfl, q⟩
theorem x_if (h : tt σ H fun c H1 => if c = true then ta σ H1 Q else tb σ H1 Q) : tIf tt ta tb σ H Q := h
theorem x_test {R : Bool → Hp → Prop} (h : te σ H fun x H1 => ∃ k, x = .bl k ∧ R k H1) : tTest te σ H R := h
theorem x_tB {R : Bool → Hp → Prop} (h : te σ H fun x H1 => ∃ k, x = .bl k ∧ R k H1) : tB te σ H R := h
theorem x_bl {c : Bool} {R : Bool → Prop} (h : R c) : ∃ k, V.bl c = .bl k ∧ R k := ⟨c, rfl, h⟩
theorem x_not {R : Bool → Hp → Prop} (h : tt σ H fun c H1 => R (!c) H1) : tNot tt σ H R := h
theorem x_and {R : Bool → Hp → Prop} (h : tt σ H fun c H1 => if c = true then tu σ H1 R else R false H1) : tAnd tt tu σ H R := h
theorem x_or {R : Bool → Hp → Prop} (h : tt σ H fun c H1 => if c = true then R true H1 else tu σ H1 R) : tOr tt tu σ H R := h
theorem x_andV (h : ta σ H fun x H1 => ∃ c, x = .bl c ∧ if c = true then tb σ H1 Q else Q (.bl false) H1) : tAndV ta tb σ H Q := h
theorem x_orV (h : ta σ H fun x H1 => ∃ c, x = .bl c ∧ if c = true then Q (.bl true) H1 else tb σ H1 Q) : tOrV ta tb σ H Q := h
theorem x_notV (h : ta σ H fun x H1 => ∃ c, x = .bl c ∧ Q (.bl (!c)) H1) : tNotV ta σ H Q := h
theorem x_chain {r r' : R2} (h : ta σ H fun x H1 => tb σ H1 fun y H2 => r x y H2 fun z H3 => ∃ k, z = .bl k ∧ (if k = true then tc σ H3 fun w' H4 => r' y w' H4 Q else Q (.bl false) H3)) : tChain r r' ta tb tc σ H Q := h
theorem x_isN (h : ta σ H fun x H1 => Q (.bl (decide (x = .non))) H1) : tIsN ta σ H Q := h
theorem x_notN (h : ta σ H fun x H1 => Q (.bl (!decide (x = .non))) H1) : tNotN ta σ H Q := h
theorem x_nil {R : List V → Hp → Prop} (h : R [] H) : tNil σ H R := h
theorem x_cons {R : List V → Hp → Prop} (h : ta σ H fun x H1 => tr σ H1 fun xs H2 => R (x :: xs) H2) : tCons ta tr σ H R := h
def NewO (o : HO) (n : Nat) (H : Hp) (Q : VK) : Prop := n ≤ sizeLine ∧ ∀ p, H p = none → Q (.ref p) (upd H p o)
theorem x_tup (h : t σ H fun xs H1 => NewO (.tup xs) xs.length H1 Q) : tTup t σ H Q := h
theorem x_lst (h : t σ H fun xs H1 => NewO (.lst xs) xs.length H1 Q) : tLst t σ H Q := h
theorem x_new {o : HO} {n : Nat} (h : ∀ p H1, H p = none → Same H H1 → H1 p = some o → Q (.ref p) H1) (hz : n ≤ 100000 := by first | decide | (simp only [List.length_cons, List.length_nil]; decide)) : NewO o n H Q :=
  ⟨Nat.le_trans hz (by decide), fun p hp => h p _ hp (same_new hp) upd_same⟩
theorem x_new0 {o : HO} {R : V → Hp → Prop} (h : ∀ p H1, H p = none → Same H H1 → H1 p = some o → R (.ref p) H1) : ∀ p, H p = none → R (.ref p) (upd H p o) := fun p hp => h p _ hp (same_new hp) upd_same
theorem x_call {sp : Sp} {dvs : List V} {E : XK} (h : t σ H fun vs H1 => sp (vs ++ dvs) H1 Q E) : tCall sp dvs E t σ H Q := h
theorem x_call0 {sp : Sp} {E : XK} (h : t σ H fun vs H1 => sp vs H1 Q E) (m : ∀ R R' : List V → Hp → Prop, (∀ a b, R a b → R' a b) → t σ H R → t σ H R') : tCall sp [] E t σ H Q := m _ _ (fun a b e => by show sp (a ++ []) b Q E; rw [List.append_nil]; exact e) h
theorem x_cb {r : List V → Hp → VK → Prop} (h : t σ H fun vs H1 => r vs H1 Q) : tCB r t σ H Q := h
theorem x_bm {T : String} {r : V → List V → Hp → VK → Prop} (h : ta σ H fun x H1 => tyV K T x H1 ∧ t σ H1 fun xs H2 => r x xs H2 Q) : tBM K T r ta t σ H Q := h
theorem x_tyS {s : Str} {P : Prop} (h : P) : tyV K "str" (.str s) H ∧ P := ⟨rfl, h⟩
theorem x_tyL {P : Prop} (e : H a = some (.lst xs)) (h : P) : tyV K "list" (.ref a) H ∧ P := ⟨.inl ⟨rfl, xs, .inl (.inl e)⟩, h⟩

/-! ### statements -/
variable {D : Ends} {n bk ct : L2.St → Hp → Prop} {r : VK} {u s1 : TS} {g : TG} {gs : TGs}
theorem x_seq (h : s1 (Ends.mk (u (Ends.mk n r bk ct)) r bk ct) σ H) : tSeq s1 u (Ends.mk n r bk ct) σ H := h
theorem x_next (h : n σ H) : tNext (Ends.mk n r bk ct) σ H := h
theorem x_break (h : bk σ H) : tBreak (Ends.mk n r bk ct) σ H := h
theorem x_cont (h : ct σ H) : tCont (Ends.mk n r bk ct) σ H := h
theorem x_ret (h : te σ H r) : tRet te (Ends.mk n r bk ct) σ H := h
theorem x_retN (h : r .non H) : tRetN (Ends.mk n r bk ct) σ H := h
theorem x_drop (h : te σ H fun _ H1 => n σ H1) : tDrop te (Ends.mk n r bk ct) σ H := h
theorem x_ifS (h : tt σ H fun b H1 => if b = true then s1 (Ends.mk n r bk ct) σ H1 else u (Ends.mk n r bk ct) σ H1) : tIfS tt s1 u (Ends.mk n r bk ct) σ H := h
theorem x_asg (h : te σ H fun x H1 => g x σ H1 n) : tAsg te g (Ends.mk n r bk ct) σ H := h
theorem x_par (h : t σ H fun vs H1 => ∃ v w, vs = [v, w] ∧ n ((σ.set i (some v)).set j (some w)) H1) : tPar i j t (Ends.mk n r bk ct) σ H := h
theorem x_par3 {l : Nat} (h : t σ H fun vs H1 => ∃ u v w, vs = [u, v, w] ∧ n (((σ.set i (some u)).set j (some v)).set l (some w)) H1) : tPar3 i j l t (Ends.mk n r bk ct) σ H := h
theorem x_two {v w : V} {R : V → V → Prop} (h : R v w) : ∃ v' w', [v, w] = [v', w'] ∧ R v' w' := ⟨v, w, rfl, h⟩
theorem x_three {u v w : V} {R : V → V → V → Prop} (h : R u v w) : ∃ u' v' w', [u, v, w] = [u', v', w'] ∧ R u' v' w' := ⟨u, v, w, rfl, h⟩
theorem x_name {R : L2.St → Hp → Prop} (h : R (σ.set i (some v)) H) : gName i v σ H R := h
theorem x_gsub {to ti : TE} {ts : TSet} {R : L2.St → Hp → Prop} (h : to σ H fun o H1 => ti σ H1 fun i H2 => ts o i v H2 fun H3 => R σ H3) : gSub to ti ts v σ H R := h
theorem x_setL {i : Int} {k : Nat} {R : Hp → Prop} (h : H a = some (.lst xs)) (q : R (upd H a (.lst (xs.set k v)))) (e : ixN xs.length i = some k := by with_unfolding_all rfl) : rSetL (.ref a) (.int i) v H R := ⟨a, xs, i, k, rfl, rfl, h, e, q⟩
theorem x_gtup {k : Nat} {R : L2.St → Hp → Prop} (h : SqT K H a xs) (q : gs xs σ H R) (e : xs.length = k := by rfl) : gTup K k gs (.ref a) σ H R := ⟨a, xs, rfl, h, e, q⟩
theorem x_gcons {R : L2.St → Hp → Prop} (h : g v σ H fun σ' H' => gs xs σ' H' R) : gCons g gs (v :: xs) σ H R := ⟨v, xs, rfl, h⟩
theorem x_gnil {R : L2.St → Hp → Prop} (h : R σ H) : gNil [] σ H R := ⟨rfl, h⟩
theorem x_while {tb : TS} (Pv : L2.St → Hp → Prop) (μ : L2.St → Hp → Nat) (h0 : Pv σ H)
    (hs : ∀ σ H, Pv σ H → tt σ H fun b H1 => if b = true then (∃ N : L2.St → Hp → Prop, (∀ σ' H', N σ' H' → ∃ m', m' < μ σ H ∧ (m' = μ σ' H' ∧ Pv σ' H')) ∧ tb (Ends.mk N r n N) σ H1) else n σ H1) :
    tWhile tt tb (Ends.mk n r bk ct) σ H := ⟨fun m σ H => m = μ σ H ∧ Pv σ H, ⟨_, rfl, h0⟩, fun m σ H ⟨e, p⟩ => by subst e; exact hs σ H p⟩
theorem x_whileN {tb : TS} {Pv : L2.St → Hp → Prop} {μ : L2.St → Hp → Nat} {m : Nat} (h : tb (Ends.mk (fun σ' H' => Pv σ' H' ∧ μ σ' H' < m) r n (fun σ' H' => Pv σ' H' ∧ μ σ' H' < m)) σ H) :
    ∃ N : L2.St → Hp → Prop, (∀ σ' H', N σ' H' → ∃ m', m' < m ∧ (m' = μ σ' H' ∧ Pv σ' H')) ∧ tb (Ends.mk N r n N) σ H := ⟨_, fun _ _ ⟨p, l⟩ => ⟨_, l, rfl, p⟩, h⟩
/-! ### conditions -/
theorem ite_t {A B : Prop} (h : A) : if true = true then A else B := h
theorem ite_f {A B : Prop} (h : B) : if false = true then A else B := iteF h
theorem ite_d {c A B : Prop} [Decidable c] (h1 : c → A) (h2 : ¬ c → B) : if decide c = true then A else B := by
  by_cases h : c
  · rw [decide_eq_true h]; exact h1 h
  · rw [decide_eq_false h]; exact iteF (h2 h)
theorem ite_nd {c A B : Prop} [Decidable c] (h1 : c → B) (h2 : ¬ c → A) : if (!decide c) = true then A else B := by
  by_cases h : c
  · rw [decide_eq_true h]; exact iteF (h1 h)
  · rw [decide_eq_false h]; exact h2 h
theorem ite_T {c : Bool} {A B : Prop} (hc : c = true) (h : A) : if c = true then A else B := by rw [hc]; exact h
theorem ite_F {c : Bool} {A B : Prop} (hc : c = false) (h : B) : if c = true then A else B := by rw [hc]; exact iteF h
theorem ite_b {c : Bool} {A B : Prop} (h1 : c = true → A) (h2 : c = false → B) : if c = true then A else B := by
  cases c with
  | true => exact h1 rfl
  | false => exact iteF (h2 rfl)
theorem same_to {H H1 : Hp} {a : Addr} {o : HO} (e : Same H H1) (h : H a = some o) : H1 a = some o := e a o h
theorem same_up {H H1 : Hp} {p : Addr} {o : HO} (e : Same H H1) (h : H p = none) : Same H (upd H1 p o) := fun c u q => by rw [upd_ne (ne_of_none q h)]; exact e c u q
end
end M
/-! ## errors of the program's own, with one field -/
namespace M
open PySem PySem.Spec PyProof.Rows L2
def oexB (K : PySem.W.Frag) (C : Addr) : Bool :=
  (match K.lookup C with
    | some ⟨.type "type", _, .cls cd, sl⟩ =>
      (match cd.mro, sl.toList with
        | .ref C' :: bm, [_, _, _, _, some (.builtin n), _] =>
          decide (C' = C) && (decide (n = "ValueError.__new__") && (!cd.hasDel && (cd.hasDict && PySem.HandSPX.refsVE bm)))
        | _, _ => false)
    | _ => false) &&
  (He.eqO (PySem.W.findIn K (.ref C) "__setattr__") (some (some (.builtin "object.__setattr__"))) &&
  (decide (PySem.W.subIn K (.ref C) (.type "BaseException") = some true) &&
  (decide (PySem.W.typeIn K (.ref C) = some (.type "type")) && PySem.W.keepIn K (.ref C))))
theorem oexB_ok {K : PySem.W.Frag} {C : Addr} (h : oexB K C = true) : OexC K C := by
  unfold oexB at h
  rw [Bool.and_eq_true, Bool.and_eq_true, Bool.and_eq_true, Bool.and_eq_true] at h
  obtain ⟨h1, h2, h3, h4, h5⟩ := h
  refine ⟨?_, He.eqO_ok h2, of_decide_eq_true h3, of_decide_eq_true h4, h5⟩
  split at h1
  · rename_i dd cd sl ho
    split at h1
    · rename_i C' bm k0 k1 k2 k3 nn k5 hm hs
      rw [Bool.and_eq_true, Bool.and_eq_true, Bool.and_eq_true, Bool.and_eq_true] at h1
      obtain ⟨c1, c2, c3, c4, c5⟩ := h1
      have e1 := of_decide_eq_true c1
      have e2 := of_decide_eq_true c2
      subst e1 e2
      obtain ⟨nm, bs, mro, ns, qn, hd, sn, sub, ab, col, del⟩ := cd
      dsimp only at hm c3 c4
      subst hm
      cases hd with
      | false => cases c4
      | true =>
        cases del with
        | true => cases c3
        | false =>
          have hsl : sl = #[k0, k1, k2, k3, some (.builtin "ValueError.__new__"), k5] := by
            obtain ⟨l⟩ := sl
            simp only at hs
            rw [hs]
          subst hsl
          exact ⟨nm, qn, ns, bs, bm, sn, sub, ab, col, dd, k0, k1, k2, k3, k5, ho, c5⟩
    · cases h1
  · cases h1
/-- what isinstance asks of an error's class -/
def kxB (K : PySem.W.Frag) (C : Addr) : Bool :=
  (PySem.W.clsIn K C).isSome &&
  (He.eqO (PySem.W.findIn K (.ref C) "__class__") (some (some (.builtin "object.__class__"))) &&
  (He.eqO (PySem.W.specialIn K (.builtin "object.__class__") "__get__") (some (some (.builtin "getset_descriptor.__get__"))) &&
  (decide (PySem.W.takesIn K (.builtin "object.__class__") = some true) && decide (PySem.W.mroIn K C (.type "object") = some true))))
/-- an error class x whose __init__(self, f) says self.f = f -/
structure Err (K : PySem.W.Frag) (C : Addr) (f : Str) : Prop where
  T : OexC K C
  iC : PySem.W.findIn K (.ref C) "__init__" = some (some (.ref (He.ma K C "__init__")))
  tI : PySem.W.typeIn K (.ref (He.ma K C "__init__")) = some (.type "function")
  nf : PySem.W.findIn K (.ref C) f = some none
  xf : XfC K C
  kx : kxB K C = true
  te : PySem.W.exmOne K (.ref C) (.ref C) = some true
def errB (K : PySem.W.Frag) (C : Addr) (f : Str) : Bool :=
  oexB K C && (He.eqO (PySem.W.findIn K (.ref C) "__init__") (some (some (.ref (He.ma K C "__init__")))) &&
  (decide (PySem.W.typeIn K (.ref (He.ma K C "__init__")) = some (.type "function")) && (He.eqO (PySem.W.findIn K (.ref C) f) (some none) &&
  (xfB K C && (kxB K C && decide (PySem.W.exmOne K (.ref C) (.ref C) = some true))))))
theorem errB_ok {K : PySem.W.Frag} {C : Addr} {f : Str} (h : errB K C f = true) : Err K C f := by
  unfold errB at h
  rw [Bool.and_eq_true, Bool.and_eq_true, Bool.and_eq_true, Bool.and_eq_true, Bool.and_eq_true, Bool.and_eq_true] at h
  obtain ⟨h1, h2, h3, h4, h5, h6, h7⟩ := h
  exact ⟨oexB_ok h1, He.eqO_ok h2, of_decide_eq_true h3, He.eqO_ok h4, xfB_ok h5, h6, of_decide_eq_true h7⟩
/-- isinstance(e, c), e held by the suite -/
def rIsX (K : PySem.W.Frag) (a : Addr) (cls : Value) (d : Option Addr) : List V → Hp → VK → Prop := fun xs H Q =>
  ∃ (C : Addr) (c : V) (cv : Value) (b : Bool), xs = [.ref a, c] ∧ cls = .ref C ∧ (d = none ∨ ∃ dd fs, d = some dd ∧ H dd = some (.xd fs)) ∧ kxB K C = true ∧ XfC K C ∧ ClsV c cv ∧ PySem.W.kitOne K (.ref C) cv = some b ∧ Q (.bl b) H
theorem call_isX {X : Cx} {a : Addr} {cls : Value} {d : Option Addr} {oe : Obj} {pn : List (Addr × Obj)} (hz : L2N.Zn cls d oe) (hf : ∃ vs, oe.data = .fields vs) :
    CallR (X.suite a ((a, oe) :: pn)) (.builtin "isinstance") (rIsX X.K a cls d) := by
  intro pins s σ H xs us Q I r h
  obtain ⟨C, c, cv, b, rfl, rfl, hd, kx, xf, cl, e, q⟩ := h
  obtain ⟨u1, u2, rfl, r1, r2⟩ := vals2 r
  obtain rfl : u1 = Value.ref a := r1
  have e2 := cl.eq r2
  subst e2
  unfold kxB at kx
  rw [Bool.and_eq_true, Bool.and_eq_true, Bool.and_eq_true, Bool.and_eq_true] at kx
  obtain ⟨k1, k2, k3, k4, k5⟩ := kx
  have hp := I.pin (a, oe) (List.mem_append_left _ List.mem_cons_self)
  have hget : s.heap.get? a = some oe := hp.1
  obtain ⟨vs, hv⟩ := hf
  have hno : PySem.W.notCls oe = true := by unfold PySem.W.notCls; rw [hv] <;> rfl
  have key : ∃ od, PySem.W.InstAt s.heap a oe C od := by
    rcases hd with rfl | ⟨dd, fs, rfl, hdd⟩
    · refine ⟨none, hget, hz.1, hno, ?_⟩
      have z : oe.dict = none := hz.2.1
      rw [z]
      exact True.intro
    · have hx : ObjOk X.prog X.w H s.heap dd (.xd fs) := I.hok dd _ hdd
      obtain ⟨mA, ⟨o, es, ep, ho, _⟩, _⟩ := hx
      refine ⟨some o, hget, hz.1, hno, ?_⟩
      have z : oe.dict = some dd := hz.2.1
      rw [z]
      exact ho
  obtain ⟨od, J⟩ := key
  have Z := PySem.W.kitx_exc (K := X.K) (C := C) (x := a) (ox := oe) (od := od) k1 xf.ga xf.gg xf.exC (He.eqO_ok k2) (He.eqO_ok k3) (of_decide_eq_true k4) (of_decide_eq_true k5)
  exact PySem.W.kia_one Z I.kIn J e (fun z => nomatch z) fun tk => ⟨.bl b, H, I.tok tk, rfl, q⟩
/-- raise C(e, ..) where nothing is handled: the exception's context is None -/
theorem pmkN_oex {X : Cx} {CX : CXT} {x : Str} {e : Expr} {es : List Expr} {ta : TA} {p pos : Pos} {C fI : Addr} {k : Nat} {fd : FuncData} {ps : List Str} {sp : Sp} {ds : List Value} {dvs : List V}
    (T : OexC X.K C) (iC : PySem.W.findIn X.K (.ref C) "__init__" = some (some (.ref fI)))
    (tI : PySem.W.typeIn X.K (.ref fI) = some (.type "function"))
    (F1 : FnOk X.prog X.w X.K X.mg X.base CX k fI fd ps sp)
    (hr : Room (k + 1) X.A) (hb : Binds X.K fd ps ds) (hd : Vals dvs ds)
    (hx : Passes CX X (fun _ _ _ => False)) (hg : Gl X x)
    (hm : X.mg x = some (.ref C)) (ha : PA X (e :: es) ta)
    (hdb : (x == ("__debug__" : Str)) = false := by decide)
    (he : starEach (e :: es) X.env = (false, eval e X.env) :: starEach es X.env := by rfl)
    (hpl : (backTo pos (starEach es X.env)).any (·.1) = false := by rfl) :
    L2N.PMk X (.Call (.Name x p) (e :: es) [] pos) (tMkO C sp dvs ta) := by
  intro pins st0 σ H Q I0 hq0
  obtain ⟨nm, qn, NN, bs, bm, sn, sub, ab, col, ddd, m0, m1, m2, m3, m5, hC, hbm⟩ := T.cls
  refine wpAny_Call_Name_kw (ld_glob I0 hg hm ?_ hdb)
  refine PySem.W.callWith_K (h₀ := X.base) I0.ok.mod.kin T.kC
    (thn (ha.run pos pins st0 σ H _ I0 hq0) fun us s1 ⟨vs, H1, I1, r1, hz, q1⟩ => ⟨I1.kIn, ?_⟩) he hpl
  show wpAny _ _ (call (.ref C) us) _ _ _
  obtain ⟨hp, gg, dr, tk, oss⟩ := s1
  have hsz : hp.objs.size ≤ hp.objs.size + 1 := Nat.le_succ _
  have hfree : H1 (hp.objs.size + 1) = none := I1.hok.fresh hsz
  have hq := q1 (hp.objs.size + 1) hfree
  generalize hh2 : (hp.push (PySem.W.kdv_tup us)).push (PySem.HandSPX.excO C hp.objs.size) = hp2
  have kk : ∀ b o, hp.get? b = some o → hp2.get? b = some o := fun b o q => by
    rw [← hh2]
    exact Heap.get?_push_of_some _ (Heap.get?_push_of_some _ q)
  have hget : hp2.get? (hp.objs.size + 1) = some (PySem.HandSPX.excO C hp.objs.size) := by
    rw [← hh2]
    heap_get
  have I2 : Inv X pins σ (upd H1 (hp.objs.size + 1) (exo (hp.objs.size + 1) C none)) ⟨hp2, gg, dr, tk, oss⟩ :=
    I1.laid (t' := tk) (a := hp.objs.size + 1) (h' := hp2) kk hsz (exo_ok hget)
  have r2 : Vals (V.ref (hp.objs.size + 1) :: (vs ++ dvs)) (Value.ref (hp.objs.size + 1) :: (us ++ ds)) :=
    .cons rfl (r1.append hd)
  have hl : (Value.ref (hp.objs.size + 1) :: us ++ ds).length = ps.length := by
    have e1 := r2.length
    rw [F1.len _ _ _ _ hq] at e1
    exact e1.symm
  have hus : us.length ≤ sizeLine := by
    rw [← Paired.length r1, sizeLine_eq]
    omega
  refine wpAny_call (PySem.HandSPX.call_own F.excBase_ValueError
    (fun Y => PySem.HandSPX.refsVE_contains Y bm hbm) (I1.kIn _ _ hC) (PySem.W.looks_findIn I1.kIn iC)
    (fun self => PySem.W.bind_fn I1.kIn self tI) hus ?_)
  rw [hh2]
  refine codeAny_mono (F1.run _ X.stack _ _ ⟨Value.ref (hp.objs.size + 1) :: us, []⟩
    (Value.ref (hp.objs.size + 1) :: (us ++ ds)) _ _ (fun _ _ _ => False) (hr.make C us [])
    (I2.env0.make C us []) (hb _ (Value.ref (hp.objs.size + 1) :: us) I2.kIn hl) r2 hq) fun rr s' hq' => ?_
  cases rr with
  | error er => exact hx pins σ _ _ er s' I2 hq'
  | ok fl =>
    cases fl with
    | ret u =>
      obtain ⟨v, H2, os2, bare2, un2, hok2, rv, ev, d, fs, ea, ed, hd1, q2⟩ := hq'
      subst ev
      obtain ⟨h2, g2, d2, t2, os'⟩ := s'
      obtain ⟨t0, G, J, kG, ge, hoe, na⟩ := mk_end0 (d2 := d2) (t2 := t2) I1 hsz kk un2 hok2 os2 bare2 ea ed hd1
      refine ⟨rv, _, _, _, ⟨G, g2, d2, t2, os'⟩, _, .ref C, some d, rfl, J, kG, ge, hoe, ⟨rfl, rfl, ?_⟩, rfl, rfl, na, rfl, bare2, raises_own T.exC T.tyC, q2⟩
      intro vs e
      cases e
      rfl
    | next => exact False.elim hq'
    | brk => exact False.elim hq'
    | cont => exact False.elim hq'
end M
/-! ## defs -/
namespace M
open PySem PySem.Spec PyProof.Rows L2
/-- the def at f keeps sp, called with the first of its parameters; the others are dvs -/
def Ok (P : Program) (w : World) (K : PySem.W.Frag) (mg : Str → Option Value) (base : Heap) (k : Nat) (f : Addr) (ps : List Str) (dvs : List V) (sp : Sp) : Prop :=
  ∃ fd ds, FnOk P w K mg base (L2N.CX P w) k f fd ps sp ∧ PySem.W.keepIn K (.ref f) = true ∧ Vals dvs ds ∧ Binds K fd ps ds
theorem passN0 {X : Cx} : Passes (L2N.CX X.prog X.w) X E0 := fun _ _ _ _ _ _ _ h => by
  obtain ⟨_, _, _, _, _, _, _, _, _, _, _, _, z⟩ := h
  exact z.elim
theorem takesN0 {X : Cx} : L2N.Takes X (fun _ _ _ _ => False) := fun _ _ x => by
  obtain ⟨_, _, _, _, _, _, _, _, _, _, _, _, _, _, _, _, z⟩ := x
  exact z.elim
section
variable {X : Cx} {k j : Nat} {f C : Addr} {ps : List Str} {sp : Sp} {dvs : List V} {x m : Str} {p pos apos : Pos} {e o : Expr} {es : List Expr} {t : TA} {ta : TE} {E : XK} {W : WX}
theorem pe_c (h : Ok X.prog X.w X.K X.mg X.base k f ps dvs sp) (hr : Room j X.A) (hj : k ≤ j) (hm : X.mg x = some (.ref f)) (hx : Passes (L2N.CX X.prog X.w) X E) (ha : PA X (e :: es) t)
    (hg : Gl X x := by rfl) (hdb : (x == ("__debug__" : Str)) = false := by decide) (he : starEach (e :: es) X.env = (false, eval e X.env) :: starEach es X.env := by rfl) (hpl : (backTo pos (starEach es X.env)).any (·.1) = false := by rfl) :
    PE X (.Call (.Name x p) (e :: es) [] pos) (tCall sp dvs E t) := by
  obtain ⟨fd, ds, F, kp, v, b⟩ := h
  exact pe_call F (hr.mono hj) hg hm kp b v hx ha hdb he hpl
theorem pe_c0 (h : Ok X.prog X.w X.K X.mg X.base k f ps dvs sp) (hr : Room j X.A) (hj : k ≤ j) (hm : X.mg x = some (.ref f)) (hx : Passes (L2N.CX X.prog X.w) X E)
    (hg : Gl X x := by rfl) (hdb : (x == ("__debug__" : Str)) = false := by decide) : PE X (.Call (.Name x p) [] [] pos) (tCall sp dvs E tNil) := by
  obtain ⟨fd, ds, F, kp, v, b⟩ := h
  exact pe_call0 F (hr.mono hj) hg hm kp b v hx hdb
/-- in a try's body -/
theorem pe_cS (h : Ok X.prog X.w X.K X.mg X.base k f ps [] sp) (hr : Room j X.A) (hj : k ≤ j) (hm : X.mg x = some (.ref f)) (tk : L2N.Takes X W) (ha : PA X (e :: es) t)
    (hg : Gl X x := by rfl) (hdb : (x == ("__debug__" : Str)) = false := by decide) (he : starEach (e :: es) X.env = (false, eval e X.env) :: starEach es X.env := by rfl) (hpl : (backTo pos (starEach es X.env)).any (·.1) = false := by rfl) :
    PE X (.Call (.Name x p) (e :: es) [] pos) (tCallS sp (WE W) t) := by
  obtain ⟨fd, ds, F, kp, v, b⟩ := h
  cases v
  exact pe_callS F (hr.mono hj) hg hm kp b (fun σ => L2N.passAt tk σ) ha hdb he hpl
theorem x_callS {σ : L2.St} {H : Hp} {Q : VK} {E : L2.St → XK} (h : t σ H fun vs H1 => sp vs H1 Q (E σ)) : tCallS sp E t σ H Q := h
theorem hu64 (hr : Room j X.A) : X.A.units + 64 < cLine := by have := hr.un; omega
theorem hu65 (hr : Room j X.A) : X.A.units + 65 < cLine := by have := hr.un; omega
theorem pe_gstr {z : Str} (h : ∃ t, X.mg x = some (.str z t)) (hg : Gl X x := by rfl) (hd : (x == ("__debug__" : Str)) = false := by decide) : PE X (.Name x pos) (tC (.str z)) := by
  obtain ⟨t, h⟩ := h
  exact pe_glob hg h ⟨t, rfl⟩ hd
theorem pe_gint {z : Int} (h : ∃ t, X.mg x = some (.int z t)) (hg : Gl X x := by rfl) (hd : (x == ("__debug__" : Str)) = false := by decide) : PE X (.Name x pos) (tC (.int z)) := by
  obtain ⟨t, h⟩ := h
  exact pe_glob hg h ⟨t, rfl⟩ hd
theorem pe_gref {a : Addr} (h : X.mg x = some (.ref a)) (hg : Gl X x := by rfl) (hd : (x == ("__debug__" : Str)) = false := by decide) : PE X (.Name x pos) (tC (.ref a)) := pe_glob hg h rfl hd
theorem pe_ty {n : String} (h : X.mg x = none) (hv : bootBuiltins x = some (.type n)) (hg : Gl X x := by rfl) (hn : x ≠ "__name__" := by decide) (hd : (x == ("__debug__" : Str)) = false := by decide) : PE X (.Name x pos) (tC (.ty n)) := pe_bltn hg h hv rfl hn hd
end
/-! ### the error raised -/
/-- C(e) of an error class with the one field f: its dict d holds it -/
def spErr (K : PySem.W.Frag) (C : Addr) (f : Str) : Sp := fun vs H Q _ => ∃ (a : Addr) (y : V), vs = [.ref a, y] ∧ H a = some (exo a C none) ∧ OexC K C ∧ PySem.W.findIn K (.ref C) f = some none ∧
  ∀ dx, H dx = none → dx ≠ a → Q .non (upd (upd H dx (exd dx [(f, y)])) a (exo a C (some dx)))
theorem pmk_err {X : Cx} {x f pf : Str} {e : Expr} {ta : TA} {p pos : Pos} {C : Addr} {k j : Nat} (T : Err X.K C f) (O : Ok X.prog X.w X.K X.mg X.base k (He.ma X.K C "__init__") ["self", pf] [] (spErr X.K C f))
    (hr : Room j X.A) (hj : k + 1 ≤ j) (hm : X.mg x = some (.ref C)) (ha : PA X [e] ta) (hg : Gl X x := by rfl) (hdb : (x == ("__debug__" : Str)) = false := by decide) (he : starEach [e] X.env = (false, eval e X.env) :: starEach [] X.env := by rfl)
    (hpl : (backTo pos (starEach [] X.env)).any (·.1) = false := by rfl) : L2N.PMk X (.Call (.Name x p) [e] [] pos) (tMkO C (spErr X.K C f) [] ta) := by
  obtain ⟨fd, ds, F, kp, v, b⟩ := O
  cases v
  exact pmkN_oex (dvs := []) (ds := []) T.T T.iC T.tI F (hr.mono hj) b .nil passN0 hg hm ha hdb he hpl
theorem x_mk {σ : L2.St} {H : Hp} {C : Addr} {sp : Sp} {ta : TA} {Q : XK} (h : ta σ H fun vs H1 => vs.length ≤ 1000 ∧ ∀ a, H1 a = none → sp (.ref a :: (vs ++ [])) (upd H1 a (exo a C none))
  (fun v H2 => v = .non ∧ ∃ (d : Addr) (fs : List (Str × V)), H2 a = some (exo a C (some d)) ∧ H2 d = some (exd d fs) ∧ H1 d = none ∧ Q (.ref C) (some d) (upd (del H2 a) d (.xd fs))) (fun _ _ _ => False)) : tMkO C sp [] ta σ H Q := h
theorem x_err {K : PySem.W.Frag} {H : Hp} {C : Addr} {f : Str} {y : V} {Q : XK} (T : Err K C f) (h : ∀ d H2, H d = none → Same H H2 → H2 d = some (.xd [(f, y)]) → Q (.ref C) (some d) H2) :
    [y].length ≤ 1000 ∧ ∀ a, H a = none → spErr K C f (.ref a :: ([y] ++ [])) (upd H a (exo a C none))
      (fun v H2 => v = .non ∧ ∃ (d : Addr) (fs : List (Str × V)), H2 a = some (exo a C (some d)) ∧ H2 d = some (exd d fs) ∧ H d = none ∧ Q (.ref C) (some d) (upd (del H2 a) d (.xd fs))) (fun _ _ _ => False) := by
  refine ⟨Nat.le_trans (Nat.le_refl 1) (by decide), fun a ha => ⟨a, y, rfl, upd_same, T.T, T.nf, fun dx hdx hne => ⟨rfl, dx, [(f, y)], upd_same, ?_, ?_, ?_⟩⟩⟩
  · rw [upd_ne hne]
    exact upd_same
  · rw [upd_ne hne] at hdx
    exact hdx
  · have hd : H dx = none := by
      rw [upd_ne hne] at hdx
      exact hdx
    refine h dx _ hd (fun b o q => ?_) upd_same
    have nb : b ≠ dx := ne_of_none q hd
    have na : b ≠ a := ne_of_none q ha
    rw [upd_ne nb, del_ne na, upd_ne na, upd_ne nb, upd_ne na]
    exact q
end M
/-! ## == of data; more built-ins; except suites -/
namespace M
open PySem PySem.Spec PyProof.Rows L2
mutual
def J.py : J → PyData
  | .non => .none
  | .bl b => .bool b
  | .int i => .int i
  | .str s => .str s
  | .lst l => .list (J.pys l)
  | .tup l => .tuple (J.pys l)
  | .dct _ => .dict []
def J.pys : List J → List PyData
  | [] => []
  | d :: r => d.py :: J.pys r
end
mutual
/- no dict within -/
def J.nd : J → Bool
  | .lst l => J.nds l
  | .tup l => J.nds l
  | .dct _ => false
  | _ => true
def J.nds : List J → Bool
  | [] => true
  | d :: r => d.nd && J.nds r
end
section
variable {K : PySem.W.Frag} {H : Hp}
mutual
theorem Jp.dp : ∀ {v : V} {d : J}, Jp K H v d → d.nd = true → Dp K H v d.py
  | _, _, .non, _ => .non
  | _, _, .bl b, _ => .bl b
  | _, _, .int b, _ => .int b
  | _, _, .str b, _ => .str b
  | _, _, .lst h r, n => .lst (.inl (.inl h)) (Jps.dp r (by unfold J.nd at n; exact n))
  | _, _, .tup h r, n => .tup h (Jps.dp r (by unfold J.nd at n; exact n))
  | _, _, .dct h r, n => by unfold J.nd at n; cases n
theorem Jps.dp : ∀ {v : List V} {d : List J}, Jps K H v d → J.nds d = true → DpAll K H v (J.pys d)
  | _, _, .nil, _ => .nil
  | _, _, .cons h r, n => by
    unfold J.nds at n
    rw [Bool.and_eq_true] at n
    unfold J.pys
    exact .cons (Jp.dp h n.1) (Jps.dp r n.2)
end
end
def eqJ (d e : J) : Bool := PyData.eqv d.py e.py
/-- may be compared -/
def J.ok (d : J) : Bool := d.nd && PySem.SeqAt.shaped d.py
section
variable {K : PySem.W.Frag} {H : Hp} {Q : VK} {x y : V} {d e : J} {X : Cx}
def uEq (K : PySem.W.Frag) : R2 := fun x y H Q => rEq x y H Q ∨ rEqD K x y H Q
def uNe (K : PySem.W.Frag) : R2 := fun x y H Q => rNe x y H Q ∨ rNeD K x y H Q
theorem op_eqU (hu : X.A.units + 64 < cLine) : OpR X (compareOp .Eq) (uEq X.K) := OpR.or op_eq (op_eqD hu)
theorem op_neU (hu : X.A.units + 64 < cLine) : OpR X (compareOp .NotEq) (uNe X.K) := OpR.or op_ne (op_neD hu)
theorem eqU_s (q : Q (.bl (decide (x = y))) H) (h : scal x y = true := by rfl) : uEq K x y H Q := .inl ⟨h, q⟩
theorem neU_s (q : Q (.bl (!decide (x = y))) H) (h : scal x y = true := by rfl) : uNe K x y H Q := .inl ⟨h, q⟩
theorem eqU_i {i j : Int} (q : Q (.bl (decide (i = j))) H) : uEq K (.int i) (.int j) H Q := eqU_s (by
  have e : decide (V.int i = V.int j) = decide (i = j) := by by_cases h : i = j <;> simp [h]
  rw [e]; exact q)
theorem neU_i {i j : Int} (q : Q (.bl (!decide (i = j))) H) : uNe K (.int i) (.int j) H Q := neU_s (by
  have e : decide (V.int i = V.int j) = decide (i = j) := by by_cases h : i = j <;> simp [h]
  rw [e]; exact q)
theorem eqU_str {i j : Str} (q : Q (.bl (decide (i = j))) H) : uEq K (.str i) (.str j) H Q := eqU_s (by
  have e : decide (V.str i = V.str j) = decide (i = j) := by by_cases h : i = j <;> simp [h]
  rw [e]; exact q)
theorem neU_str {i j : Str} (q : Q (.bl (!decide (i = j))) H) : uNe K (.str i) (.str j) H Q := neU_s (by
  have e : decide (V.str i = V.str j) = decide (i = j) := by by_cases h : i = j <;> simp [h]
  rw [e]; exact q)
theorem jok {d : J} (h : d.ok = true) : d.nd = true ∧ PySem.SeqAt.shaped d.py = true := by unfold J.ok at h; rw [Bool.and_eq_true] at h; exact h
theorem eqU_J (hx : Jp K H x d) (hy : Jp K H y e) (q : Q (.bl (eqJ d e)) H) (h1 : d.ok = true) (h2 : e.ok = true) : uEq K x y H Q := .inr ⟨d.py, e.py, hx.dp (jok h1).1, hy.dp (jok h2).1, (jok h1).2, (jok h2).2, q⟩
theorem neU_J (hx : Jp K H x d) (hy : Jp K H y e) (q : Q (.bl (!eqJ d e)) H) (h1 : d.ok = true) (h2 : e.ok = true) : uNe K x y H Q := .inr ⟨d.py, e.py, hx.dp (jok h1).1, hy.dp (jok h2).1, (jok h1).2, (jok h2).2, q⟩
abbrev mSub : R2 := rI0 fun i j => .int (i - j)
abbrev mDiv : R2 := rI CDivW fun i j => .int (i / j)
abbrev mMod : R2 := rI (fun _ j => 0 < j) fun i j => .int (i % j)
abbrev mPow : R2 := rI CPow fun i j => .int (i ^ j.toNat)
abbrev mLt : R2 := rI0 fun i j => .bl (decide (i < j))
abbrev mLe : R2 := rI0 fun i j => .bl (decide (i ≤ j))
abbrev mGt : R2 := rI0 fun i j => .bl (decide (j < i))
abbrev mGe : R2 := rI0 fun i j => .bl (decide (j ≤ i))
abbrev mNeg : V → Hp → VK → Prop := rU fun i => .int (-i)
def mAbs : List V → Hp → VK → Prop := fun xs H Q => ∃ i, xs = [.int i] ∧ Q (.int (if i < 0 then -i else i)) H
theorem x_abs {i : Int} (q : Q (.int (i.natAbs : Int)) H) : mAbs [.int i] H Q := ⟨i, rfl, by
  have e : (if i < 0 then -i else i) = (i.natAbs : Int) := by split <;> omega
  rw [e]; exact q⟩
def mInt : List V → Hp → VK → Prop := fun xs H Q => (∃ i, xs = [.int i] ∧ Q (.int i) H) ∨ ∃ k, xs = [.bl k] ∧ Q (.int (if k then 1 else 0)) H
theorem x_int1 {i : Int} (q : Q (.int i) H) : mInt [.int i] H Q := .inl ⟨i, rfl, q⟩
def mMax2 : List V → Hp → VK → Prop := fun xs H Q => ∃ i j, xs = [.int i, .int j] ∧ Q (.int (if j > i then j else i)) H
def mMin2 : List V → Hp → VK → Prop := fun xs H Q => ∃ i j, xs = [.int i, .int j] ∧ Q (.int (if j < i then j else i)) H
theorem x_max2 {i j : Int} (q : Q (.int (max i j)) H) : mMax2 [.int i, .int j] H Q := ⟨i, j, rfl, by
  have e : (if j > i then j else i) = max i j := by rw [Int.max_def]; split <;> split <;> omega
  rw [e]; exact q⟩
theorem x_min2 {i j : Int} (q : Q (.int (min i j)) H) : mMin2 [.int i, .int j] H Q := ⟨i, j, rfl, by
  have e : (if j < i then j else i) = min i j := by rw [Int.min_def]; split <;> split <;> omega
  rw [e]; exact q⟩
def uStr : List V → Hp → VK → Prop := fun xs H Q => (∃ i, xs = [.int i] ∧ i.natAbs.log2 < 1920 ∧ Q (.str (toString i)) H) ∨ ∃ a, xs = [.str a] ∧ Q (.str a) H
theorem call_strU : CallR X (.type "str") uStr := CallR.or call_str_int SkE.call_str_str
theorem strU_i {i : Int} (h : i.natAbs < 10 ^ 300) (q : Q (.str (toString i)) H) : uStr [.int i] H Q := by
  have h1 : i.natAbs < 2 ^ 1000 := Nat.lt_of_lt_of_le h (by decide +kernel)
  have h2 := PySem.Flt.log2_lt_of (by decide : 0 < 1000) h1
  exact .inl ⟨i, rfl, Nat.lt_trans h2 (by decide), q⟩
def tTruth (K : PySem.W.Frag) (ta : TE) : TT := fun σ H Q => ta σ H fun x H' => ∃ k, TruV K x H' k ∧ Q k H'
theorem pt_tru {a : Expr} {ta : TE} (ha : PE X a ta) (he : ∀ whole, isTrue a X.env whole = (do let v ← whole; standAt a.pos; holding [v] (truthy v)) := by intro _; rfl) : PT X a (tTruth X.K ta) := pt_truth ha he
theorem x_truth {σ : L2.St} {ta : TE} {R : Bool → Hp → Prop} (h : ta σ H fun x H' => ∃ k, TruV K x H' k ∧ R k H') : tTruth K ta σ H R := h
theorem x_truB {b : Bool} {R : Bool → Prop} (h : R b) : ∃ k, TruV K (.bl b) H k ∧ R k := ⟨b, rfl, h⟩
theorem x_truI {i : Int} {R : Bool → Prop} (h : R (i != 0)) : ∃ k, TruV K (.int i) H k ∧ R k := ⟨_, rfl, h⟩
theorem x_truL {a : Addr} {xs : List V} {R : Bool → Prop} (e : H a = some (.lst xs)) (h : R (!xs.isEmpty)) : ∃ k, TruV K (.ref a) H k ∧ R k := ⟨_, .inl ⟨xs, .inl (.inl e), rfl⟩, h⟩
theorem x_truT {a : Addr} {xs : List V} {R : Bool → Prop} (e : SqT K H a xs) (h : R (!xs.isEmpty)) : ∃ k, TruV K (.ref a) H k ∧ R k := ⟨_, .inr (.inl ⟨xs, e, rfl⟩), h⟩
theorem x_isB {a b : Bool} (q : Q (.bl (decide (a = b))) H) : rIsB (.bl a) (.bl b) H Q := ⟨a, b, rfl, rfl, q⟩
theorem x_notB {a b : Bool} (q : Q (.bl (!decide (a = b))) H) : rNotB (.bl a) (.bl b) H Q := ⟨a, b, rfl, rfl, q⟩
/-! ### types -/
def J.ty : J → String
  | .non => "NoneType"
  | .bl _ => "bool"
  | .int _ => "int"
  | .str _ => "str"
  | .lst _ => "list"
  | .tup _ => "tuple"
  | .dct _ => "dict"
theorem Jp.tyx {d : J} (h : Jp K H x d) : TyX K H x (.type d.ty) := by
  cases h with
  | non => exact .base .non
  | bl b => exact .base (.bl b)
  | int b => exact .base (.int b)
  | str b => exact .base (.str b)
  | lst h r => exact .base (.lst h)
  | tup h r =>
    rcases h with (h | ⟨o, h⟩) | ⟨o, its, n, h, c, _⟩
    · exact .base (.tup h)
    · exact .fTuple h
    · exact .kTuple h c
  | dct h r => exact .base (.dK h)
def isT (t c : String) : Bool := t == c || (t == "bool" && c == "int")
theorem kit_isT {t c : String} (h1 : t ∈ ["NoneType", "bool", "int", "str", "list", "tuple", "dict"]) (h2 : c ∈ ["bool", "int", "str", "list", "tuple", "dict"]) : kitB t c = some (isT t c) := by
  simp only [List.mem_cons, List.not_mem_nil, or_false] at h1 h2
  rcases h1 with rfl | rfl | rfl | rfl | rfl | rfl | rfl <;> rcases h2 with rfl | rfl | rfl | rfl | rfl | rfl <;> decide +kernel
theorem J.ty_mem (d : J) : d.ty ∈ ["NoneType", "bool", "int", "str", "list", "tuple", "dict"] := by cases d <;> simp [J.ty]
theorem x_isi {c : String} (hc : c ∈ ["bool", "int", "str", "list", "tuple", "dict"]) (h : Jp K H x d) (q : Q (.bl (isT d.ty c)) H) : rIsi K [x, .ty c] H Q :=
  ⟨x, .ty c, .type d.ty, .type c, _, rfl, .ty c, h.tyx, kit_ty (kit_isT d.ty_mem hc), q⟩
end
/-! ### raise and try -/
def tRaise (W : WX) (t : L2.St → Hp → XK → Prop) : TS := fun _ σ H => t σ H fun cls d H' => W cls d σ H'
theorem x_raise {W : WX} {t : L2.St → Hp → XK → Prop} {D : Ends} {σ : L2.St} {H : Hp} (h : t σ H fun cls d H' => W cls d σ H') : tRaise W t D σ H := h
def tTry (K : PySem.W.Frag) (c : Value) (i : Nat) (tb : WX → TS) (ts : Addr → Value → Option Addr → TS) : TS := fun D σ H => tb (wAs K c i ts (fun _ _ _ _ => False) D) D σ H
theorem x_try {K : PySem.W.Frag} {c : Value} {i : Nat} {tb : WX → TS} {ts : Addr → Value → Option Addr → TS} {D : Ends} {σ : L2.St} {H : Hp} (h : tb (wAs K c i ts (fun _ _ _ _ => False) D) D σ H) : tTry K c i tb ts D σ H := h
/-- the clause's own error comes -/
theorem x_caught {K : PySem.W.Frag} {C : Addr} {i : Nat} {ts : Addr → Value → Option Addr → TS} {n bk ct : L2.St → Hp → Prop} {r : VK} {σ : L2.St} {H : Hp} {d : Option Addr} (te : PySem.W.exmOne K (.ref C) (.ref C) = some true)
    (h : ∀ a, H a = none → ts a (.ref C) d (Ends.mk (fun σ' H' => n (σ'.set i none) H') r (fun σ' H' => bk (σ'.set i none) H') (fun σ' H' => ct (σ'.set i none) H')) (σ.set i (some (.ref a))) H) :
    wAs K (.ref C) i ts (fun _ _ _ _ => False) (Ends.mk n r bk ct) (.ref C) d σ H := ⟨true, te, fun _ a ha => h a ha, fun q => Bool.noConfusion q⟩
theorem x_xf {a : Addr} {cls : Value} {d : Option Addr} {C : Addr} {f : Str} {te : TE} {σ : L2.St} {H : Hp} {Q : VK} (h : te σ H fun x H1 => x = .ref a ∧ cls = .ref C ∧ ∃ (dd : Addr) (fs : List (Str × V)) (v : V), d = some dd ∧ H1 dd = some (.xd fs) ∧ fs.lookup f = some v ∧ Q v H1) : tXf a cls d C f te σ H Q := h
theorem x_xf1 {a C dd : Addr} {f : Str} {v : V} {H : Hp} {R : V → Prop} (e : H dd = some (.xd [(f, v)])) (q : R v) :
    V.ref a = .ref a ∧ Value.ref C = .ref C ∧ ∃ (d2 : Addr) (fs : List (Str × V)) (v : V), some dd = some d2 ∧ H d2 = some (.xd fs) ∧ fs.lookup f = some v ∧ R v := ⟨rfl, rfl, dd, _, v, rfl, e, by simp [List.lookup], q⟩
theorem x_isX {K : PySem.W.Frag} {C a dd : Addr} {f : Str} {v c : V} {cv : Value} {b : Bool} {H : Hp} {Q : VK} (T : Err K C f) (e : H dd = some (.xd [(f, v)])) (cl : ClsV c cv) (k : PySem.W.kitOne K (.ref C) cv = some b) (q : Q (.bl b) H) :
    rIsX K a (.ref C) (some dd) [.ref a, c] H Q := ⟨C, c, cv, b, rfl, rfl, .inr ⟨dd, _, rfl, e⟩, T.kx, T.xf, cl, k, q⟩
/-! ### calls in an except suite -/
def OkH (P : Program) (w : World) (K : PySem.W.Frag) (mg : Str → Option Value) (base : Heap) (k : Nat) (f : Addr) (ps : List Str) (sp : Sp) : Prop :=
  ∃ fd, L2H.FnH P w K mg base (L2N.CX P w) k f fd ps sp ∧ PySem.W.keepIn K (.ref f) = true ∧ Binds K fd ps []
theorem hot_of {X : Cx} {a : Addr} {cls : Value} {d : Option Addr} {oe : Obj} {pn : List (Addr × Obj)} (hz : L2N.Zn cls d oe) (hf : ∃ vs, oe.data = .fields vs) : L2H.HotC (X.suite a ((a, oe) :: pn)) := by
  obtain ⟨vs, h⟩ := hf
  exact ⟨(a, oe), ⟨rfl, vs, h, hz.2.2 vs h⟩, List.mem_cons_self⟩
theorem passAtN0 {X : Cx} {σ : L2.St} : PassesAt (L2N.CX X.prog X.w) X σ E0 := fun _ _ _ _ _ _ h => by
  obtain ⟨_, _, _, _, _, _, _, _, _, _, _, _, z⟩ := h
  exact z.elim
section
variable {X : Cx} {k j : Nat} {f : Addr} {ps : List Str} {sp : Sp} {x : Str} {p pos : Pos} {e : Expr} {es : List Expr} {t : TA}
theorem pe_cH {A : Around} {hv : Option Value} (h : OkH X.prog X.w X.K X.mg X.base k f ps sp) (hr : Room j A) (hj : k ≤ j) (hc : L2H.HotC X) (hm : X.mg x = some (.ref f)) (ha : PA X (e :: es) t) (hA : X.A = A.mark hv := by rfl)
    (hg : Gl X x := by rfl) (hdb : (x == ("__debug__" : Str)) = false := by decide) (he : starEach (e :: es) X.env = (false, eval e X.env) :: starEach es X.env := by rfl) (hpl : (backTo pos (starEach es X.env)).any (·.1) = false := by rfl) :
    PE X (.Call (.Name x p) (e :: es) [] pos) (tCallS sp (fun _ => E0) t) := by
  obtain ⟨fd, F, kp, b⟩ := h
  have r : L2H.RoomH k X.A := by
    rw [hA]
    exact ⟨by have := (hr.mono hj).dp; exact this, by have := (hr.mono hj).un; exact this⟩
  exact L2H.pe_callH F r hc hg hm kp b (fun _ => passAtN0) ha hdb he hpl
end
theorem okH_of {P : Program} {w : World} {K : PySem.W.Frag} {mg : Str → Option Value} {base : Heap} {x qual : Str} {params : Arguments} {body : List Stmt} {scope : Scope} {f : Addr} {fd : FuncData} {N ps : List Str} {k : Nat} {sp : Sp}
    (F : FunD K x qual params body scope [] [] f fd) (S : FnScope N ps scope) (len : ∀ vs H Q E, sp vs H Q E → vs.length = ps.length) (b : Binds K fd ps [])
    (hbody : ∀ (cdv : Value) (A : Around) (outer : List Env) (s : Shared) (H : Hp) (vs : List V) (Q : VK) (E : XK) (p : Addr × Obj), L2H.Hot1 A p → L2H.RoomH k (A.deeper (envOfC qual scope s.heap.objs.size f cdv)) → sp vs H Q E →
      ∃ t, PSs (L2H.cxH (L2N.CX P w) P w K mg base N qual scope f cdv A outer s H E p) body t ∧ t { nx := fun _ H' => Q .non H', rt := Q } (start N vs) H) : OkH P w K mg base (k + 1) f ps sp := by
  have kp := F.kp
  obtain ⟨oc, od, dV, kV, doc, pm, an, cdv, ct, osl, rfl, lk, hcd, _, _⟩ := F.ex
  exact ⟨_, L2H.fn_ofH lk hcd S len fun A outer s H vs Q E p hot hr h => hbody cdv A outer s H vs Q E p hot hr h, kp, b⟩
end M
namespace M
open PySem PySem.Spec PyProof.Rows L2
/-! ## keywords alone; a def's proof in parts -/
def tKw0 (m : Nat) (sp : Sp) (gV : List V → List V → List V) (E : XK) (tk : TA) : TE := fun σ H Q => tk σ H fun zs H2 => zs.length = m ∧ sp (gV [] zs) H2 Q E
theorem x_kw0 {m : Nat} {sp : Sp} {gV : List V → List V → List V} {E : XK} {tk : TA} {σ : L2.St} {H : Hp} {Q : VK} (h : tk σ H fun zs H2 => zs.length = m ∧ sp (gV [] zs) H2 Q E) : tKw0 m sp gV E tk σ H Q := h
def OkK (P : Program) (w : World) (K : PySem.W.Frag) (mg : Str → Option Value) (base : Heap) (k : Nat) (f : Addr) (ps : List Str) (n : Nat) (ks : List Str) (gV : List V → List V → List V) (sp : Sp) : Prop :=
  ∃ fd g, FnOk P w K mg base (L2N.CX P w) k f fd ps sp ∧ PySem.W.keepIn K (.ref f) = true ∧ KBn K fd ps n ks g gV
section
variable {X : Cx} {k j n : Nat} {f : Addr} {ps ks : List Str} {sp : Sp} {E : XK} {x : Str} {p pos : Pos} {e : Expr} {es : List Expr} {kws : List Keyword} {t tk : TA} {gV : List V → List V → List V}
theorem pe_kw0 (h : OkK X.prog X.w X.K X.mg X.base k f ps 0 ks gV sp) (hr : Room j X.A) (hj : k ≤ j) (hm : X.mg x = some (.ref f)) (hx : Passes (L2N.CX X.prog X.w) X E) (hkw : PK X kws tk)
    (hg : Gl X x := by rfl) (hall : (backToKw pos (keywordEach kws X.env)).all (·.1.isSome) = true := by rfl) (hks : (backToKw pos (keywordEach kws X.env)).filterMap (·.1) = ks := by rfl)
    (hdb : (x == ("__debug__" : Str)) = false := by decide)
    (hpl : ((backTo pos (starEach [] X.env)).any (·.1) || (backToKw pos (keywordEach kws X.env)).any (·.1.isNone)) = false := by rfl) :
    PE X (.Call (.Name x p) [] kws pos) (tKw0 ks.length sp gV E tk) := by
  obtain ⟨fd, g, F, kp, b⟩ := h
  refine ⟨fun pins s σ H Q I h => ?_⟩
  refine wpAny_Call_Name_kw (ld_glob I hg hm ?_ hdb)
  refine PySem.W.callWith_KW0 (h₀ := X.base) I.ok.mod.kin kp hall ?_ hpl
  refine thn (hkw.run pos pins s σ H _ I h) fun ws s2 ⟨zs, H2, I2, rz, l2, q2⟩ => ⟨I2.kIn, ?_⟩
  rw [hks]
  exact run_fnN (us := []) (vs := []) F (hr.mono hj) b hx I2 .nil rz rfl l2 q2
theorem pe_kwN (h : OkK X.prog X.w X.K X.mg X.base k f ps n ks gV sp) (hr : Room j X.A) (hj : k ≤ j) (hm : X.mg x = some (.ref f)) (hx : Passes (L2N.CX X.prog X.w) X E) (ha : PA X (e :: es) t) (hkw : PK X kws tk)
    (hg : Gl X x := by rfl) (hall : (backToKw pos (keywordEach kws X.env)).all (·.1.isSome) = true := by rfl) (hks : (backToKw pos (keywordEach kws X.env)).filterMap (·.1) = ks := by rfl)
    (hdb : (x == ("__debug__" : Str)) = false := by decide) (he : starEach (e :: es) X.env = (false, eval e X.env) :: starEach es X.env := by rfl)
    (hpl : ((backTo pos (starEach (e :: es) X.env)).any (·.1) || (backToKw pos (keywordEach kws X.env)).any (·.1.isNone)) = false := by rfl) :
    PE X (.Call (.Name x p) (e :: es) kws pos) (tCallN n ks.length sp gV E t tk) := by
  obtain ⟨fd, g, F, kp, b⟩ := h
  exact pe_callN F (hr.mono hj) hg hm kp b hx ha hkw hall hks hdb he hpl
end
theorem vals_getD : ∀ {vs : List V} {us : List Value} (i : Nat), Vals vs us → RelV (vs.getD i .non) (us.getD i .none)
  | _, _, _, .nil => rfl
  | _, _, 0, .cons r _ => r
  | _, _, i + 1, .cons _ t => vals_getD i t
theorem vals_pick {vs : List V} {us : List Value} (r : Vals vs us) : ∀ idx : List Nat, Vals (idx.map fun i => vs.getD i .non) (idx.map fun i => us.getD i .none)
  | [] => .nil
  | i :: l => .cons (vals_getD i r) (vals_pick r l)
section
variable {K : PySem.W.Frag} {x qual : Str} {params : Arguments} {body : List Stmt} {scope : Scope} {dvs : List V} {kws : List (Str × V)} {f : Addr} {fd : FuncData} {ps : List Str}
/-- keywords, positional defaults: each parameter takes its value out of: positional values, keywords' values, defaults -/
theorem kbinds1 (F : FunD K x qual params body scope dvs kws f fd) (n : Nat) (ks : List Str) (idx : List Nat) (hd : dvs ≠ [])
    (h : ∀ (T : Addr) (kV doc pm : Value) (an : Option Addr) (cdv ct : Value) (us its ws : List Value), us.length = n → its.length = dvs.length → ws.length = ks.length →
      ∃ k, bindArgs (PySem.W.fnOf x qual params body scope (.ref T) kV doc pm an cdv ct) ⟨us, ks.zip ws⟩ = seqItems? (.ref T) >>= k ∧ k (some its.toArray) = pure (ps.zip (idx.map fun i => (us ++ ws ++ its).getD i .none))) :
    ∃ g, KBn K fd ps n ks g (fun vs zs => idx.map fun i => (vs ++ zs ++ dvs).getD i .non) := by
  obtain ⟨oc, od, dV, kV, doc, pm, an, cdv, ct, osl, rfl, lk, hcd, hD, hK⟩ := F.ex
  rcases hD with ⟨e, _⟩ | ⟨_, T, o, its, m, rfl, lT, oT, rT⟩
  · exact absurd e hd
  · refine ⟨fun us ws => idx.map fun i => (us ++ ws ++ its).getD i .none, fun s us ws X l1 l2 => BindsTo.of_looks fun M => ?_, fun r1 r2 => vals_pick ((r1.append r2).append rT) idx⟩
    obtain ⟨k, e1, e2⟩ := h T kV doc pm an cdv ct us its ws l1 rT.length.symm l2
    rw [e1]
    exact looks_items X lT oT (.of_pure e2)
/-- keywords, no defaults -/
theorem kbindsN (F : FunD K x qual params body scope [] kws f fd) (n : Nat) (ks : List Str) (idx : List Nat)
    (h : ∀ (kV doc pm : Value) (an : Option Addr) (cdv ct : Value) (us ws : List Value), us.length = n → ws.length = ks.length →
      bindArgs (PySem.W.fnOf x qual params body scope .none kV doc pm an cdv ct) ⟨us, ks.zip ws⟩ = pure (ps.zip (idx.map fun i => (us ++ ws).getD i .none))) :
    ∃ g, KBn K fd ps n ks g (fun vs zs => idx.map fun i => (vs ++ zs).getD i .non) := by
  obtain ⟨oc, od, dV, kV, doc, pm, an, cdv, ct, osl, rfl, lk, hcd, hD, hK⟩ := F.ex
  rcases hD with ⟨_, rfl⟩ | ⟨e, _⟩
  · exact ⟨fun us ws => idx.map fun i => (us ++ ws).getD i .none, fun s us ws X l1 l2 => .of_eq (h kV doc pm an cdv ct us ws l1 l2), fun r1 r2 => vals_pick (r1.append r2) idx⟩
  · exact absurd rfl e
end
section
variable {P : Program} {w : World} {K : PySem.W.Frag} {mg : Str → Option Value} {base : Heap} {x qual : Str} {params : Arguments} {body : List Stmt} {scope : Scope} {dvs : List V} {kws : List (Str × V)} {f : Addr} {N ps : List Str} {k : Nat} {sp : Sp}
theorem fnF {fd : FuncData} (F : FunD K x qual params body scope dvs kws f fd) (S : FnScope N ps scope) (len : ∀ vs H Q E, sp vs H Q E → vs.length = ps.length) {t : XK → TS}
    (der : ∀ (f : Addr) (cdv : Value) (A : Around) (outer : List Env) (s : Shared) (H : Hp) (E : XK), Room k (A.deeper (envOfC qual scope s.heap.objs.size f cdv)) → PSs (cxOf (L2N.CX P w) P w K mg base N qual scope f cdv A outer s H E) body (t E))
    (rd : ∀ vs H Q E, sp vs H Q E → t E (Ends.mk (fun _ H' => Q .non H') Q (fun _ _ => False) (fun _ _ => False)) (start N vs) H) : FnOk P w K mg base (L2N.CX P w) (k + 1) f fd ps sp :=
  F.ok S len fun cdv A outer s H vs Q E hr h => ⟨t E, der f cdv A outer s H E hr, rd vs H Q E h⟩
theorem okF (F : ∃ fd, FunD K x qual params body scope [] kws f fd) (S : FnScope N ps scope) (len : ∀ vs H Q E, sp vs H Q E → vs.length = ps.length) {t : XK → TS}
    (b : ∀ (kV doc pm : Value) (an : Option Addr) (cdv ct : Value) (us : List Value), us.length = ps.length → bindArgs (PySem.W.fnOf x qual params body scope .none kV doc pm an cdv ct) ⟨us, []⟩ = pure (ps.zip us))
    (der : ∀ (f : Addr) (cdv : Value) (A : Around) (outer : List Env) (s : Shared) (H : Hp) (E : XK), Room k (A.deeper (envOfC qual scope s.heap.objs.size f cdv)) → PSs (cxOf (L2N.CX P w) P w K mg base N qual scope f cdv A outer s H E) body (t E))
    (rd : ∀ vs H Q E, sp vs H Q E → t E (Ends.mk (fun _ H' => Q .non H') Q (fun _ _ => False) (fun _ _ => False)) (start N vs) H) : Ok P w K mg base (k + 1) f ps [] sp := by
  obtain ⟨fd, F⟩ := F
  exact ⟨fd, [], fnF F S len der rd, F.kp, .nil, F.bindsN b⟩
/-- some positional defaults: n values are written, j of the defaults are not needed -/
theorem okF1 (n j : Nat) (F : ∃ fd, FunD K x qual params body scope dvs kws f fd) (S : FnScope N ps scope) (len : ∀ vs H Q E, sp vs H Q E → vs.length = ps.length) {t : XK → TS} (hd : dvs ≠ []) (hn : n + (dvs.length - j) = ps.length)
    (b : ∀ (T : Addr) (kV doc pm : Value) (an : Option Addr) (cdv ct : Value) (us its : List Value), us.length = n → its.length = dvs.length →
      ∃ k, bindArgs (PySem.W.fnOf x qual params body scope (.ref T) kV doc pm an cdv ct) ⟨us, []⟩ = seqItems? (.ref T) >>= k ∧ k (some its.toArray) = pure (ps.zip (us ++ its.drop j)))
    (der : ∀ (f : Addr) (cdv : Value) (A : Around) (outer : List Env) (s : Shared) (H : Hp) (E : XK), Room k (A.deeper (envOfC qual scope s.heap.objs.size f cdv)) → PSs (cxOf (L2N.CX P w) P w K mg base N qual scope f cdv A outer s H E) body (t E))
    (rd : ∀ vs H Q E, sp vs H Q E → t E (Ends.mk (fun _ H' => Q .non H') Q (fun _ _ => False) (fun _ _ => False)) (start N vs) H) : Ok P w K mg base (k + 1) f ps (dvs.drop j) sp := by
  obtain ⟨fd, F⟩ := F
  obtain ⟨ds, v, bb⟩ := F.binds1 n j hd hn b
  exact ⟨fd, ds, fnF F S len der rd, F.kp, v, bb⟩
end
end M
namespace M
open PySem PySem.Spec PyProof.Rows L2
theorem get_new {H : Hp} {p a : Addr} {o u : HO} (hp : H p = none) (h : H a = some o) : upd H p u a = some o := by rw [upd_ne (ne_of_none h hp)]; exact h
end M
namespace M
open PySem PySem.Spec PyProof.Rows L2
/-! ## all stands but b -/
def But (b : Addr) (H H' : Hp) : Prop := ∀ a o, a ≠ b → H a = some o → H' a = some o
section
variable {K : PySem.W.Frag} {H H1 H' : Hp} {a b : Addr} {o : HO} {xs : List V}
theorem But.refl : But b H H := fun _ _ _ h => h
theorem But.trans (e : But b H H1) (f : But b H1 H') : But b H H' := fun c u n h => f c u n (e c u n h)
theorem Same.but (e : Same H H') : But b H H' := fun c u _ h => e c u h
theorem But.up {u : HO} : But b H (upd H b u) := fun c v n h => by rw [upd_ne n]; exact h
/-- what is not there before b was -/
theorem But.same (e : But b H1 H') (h : Same H H1) (hb : H b = none) : Same H H' := fun c u q => e c u (ne_of_none q hb) (h c u q)
theorem sql_same (e : Same H H') (h : SqL K H a xs) : SqL K H' a xs := e.seq h
/- no list within -/
mutual
def J.nl : J → Bool
  | .lst _ => false
  | .tup l => J.nls l
  | .dct _ => false
  | _ => true
def J.nls : List J → Bool
  | [] => true
  | d :: r => d.nl && J.nls r
end
theorem sqt_but {ys : List V} (e : But b H H') (hb : H b = some (.lst ys)) (h : SqT K H a xs) : SqT K H' a xs := by
  rcases h with (h | ⟨o, h⟩) | h
  · exact .inl (.inl (e _ _ (ne_of h hb (by intro z; cases z)) h))
  · exact .inl (.inr ⟨o, e _ _ (ne_of h hb (by intro z; cases z)) h⟩)
  · exact .inr h
mutual
theorem Jp.but {ys : List V} (e : But b H H') (hb : H b = some (.lst ys)) : ∀ {v : V} {d : J}, Jp K H v d → d.nl = true → Jp K H' v d
  | _, _, .non, _ => .non
  | _, _, .bl b, _ => .bl b
  | _, _, .int b, _ => .int b
  | _, _, .str b, _ => .str b
  | _, _, .lst h r, n => by unfold J.nl at n; cases n
  | _, _, .tup h r, n => .tup (sqt_but e hb h) (Jps.but e hb r (by unfold J.nl at n; exact n))
  | _, _, .dct h r, n => by unfold J.nl at n; cases n
theorem Jps.but {ys : List V} (e : But b H H') (hb : H b = some (.lst ys)) : ∀ {v : List V} {d : List J}, Jps K H v d → J.nls d = true → Jps K H' v d
  | _, _, .nil, _ => .nil
  | _, _, .cons h r, n => by
    unfold J.nls at n
    rw [Bool.and_eq_true] at n
    exact .cons (Jp.but e hb h n.1) (Jps.but e hb r n.2)
end
end
/-! ## the law's bag of draws: n draws at most were mixed -/
def Bag (H : Hp) (b : Addr) (n : Nat) : Prop := ∃ L M c : Int, H b = some (.lst [.int L, .int M, .int c]) ∧ 0 ≤ M ∧ M < 7 * 2 ^ 61 + 10 ^ 6 ∧ 0 ≤ c ∧ c ≤ n
theorem Bag.mono {H : Hp} {b : Addr} {n m : Nat} (h : Bag H b n) (l : n ≤ m) : Bag H b m := by
  obtain ⟨L, M, c, e, h1, h2, h3, h4⟩ := h
  exact ⟨L, M, c, e, h1, h2, h3, by omega⟩
theorem Bag.same {H H' : Hp} {b : Addr} {n : Nat} (h : Bag H b n) (e : Same H H') : Bag H' b n := by
  obtain ⟨L, M, c, q, r⟩ := h
  exact ⟨L, M, c, e _ _ q, r⟩
theorem Bag.but {H H' : Hp} {b c : Addr} {n : Nat} (h : Bag H b n) (e : But c H H') (ne : b ≠ c) : Bag H' b n := by
  obtain ⟨L, M, k, q, r⟩ := h
  exact ⟨L, M, k, e _ _ ne q, r⟩
theorem Bag.lst {H : Hp} {b : Addr} {n : Nat} (h : Bag H b n) : ∃ ys, H b = some (.lst ys) := by
  obtain ⟨L, M, k, q, r⟩ := h
  exact ⟨_, q⟩
theorem Jp.bag {K : PySem.W.Frag} {H H' : Hp} {b : Addr} {n : Nat} {v : V} {d : J} (h : Jp K H v d) (e : But b H H') (g : Bag H b n) (nl : d.nl = true) : Jp K H' v d := by
  obtain ⟨ys, q⟩ := g.lst
  exact h.but e q nl
theorem x_dnew {H : Hp} {σ : L2.St} {Q : VK} (h : ∀ p H1, H p = none → Same H H1 → H1 p = some (.dK []) → Q (.ref p) H1) : tDNewK σ H Q := fun p hp => h p _ hp (same_new hp) upd_same
end M
namespace M
open PySem PySem.Spec PyProof.Rows L2
theorem cpow {i j : Int} (h0 : 0 ≤ j) (h1 : j ≤ 1000000) (h : i.natAbs < 2 ^ 64) : CPow i j := ⟨h0, h1, h⟩
theorem x_pow {i j : Int} {k : Nat} {H : Hp} {Q : VK} (h : i.natAbs < 2 ^ 64) (q : Q (.int (i ^ k)) H) (e : j.toNat = k := by with_unfolding_all rfl) (h0 : 0 ≤ j := by decide) (h1 : j ≤ 1000000 := by decide) : mPow (.int i) (.int j) H Q := by
  subst e
  exact ⟨i, j, rfl, rfl, ⟨h0, h1, h⟩, q⟩
theorem atI_of {α : Type} {xs : List α} {i : Int} {x : α} (h0 : 0 ≤ i) (h : xs[i.toNat]? = some x) : atI xs i = some x := by
  have hl : i.toNat < xs.length := by
    rcases Nat.lt_or_ge i.toNat xs.length with l | l
    · exact l
    · rw [List.getElem?_eq_none l] at h; cases h
  unfold atI ixN
  rw [if_pos h0, if_pos (by omega)]
  exact h
theorem atI_ints {ns : List Int} {i : Int} (h0 : 0 ≤ i) (h : i < ns.length) : atI (ns.map V.int) i = some (.int (ns.getD i.toNat 0)) := by
  refine atI_of h0 ?_
  have hl : i.toNat < ns.length := by omega
  rw [List.getElem?_map, List.getElem?_eq_getElem hl, List.getD_eq_getElem?_getD, List.getElem?_eq_getElem hl]
  rfl
end M
namespace M
open PySem PySem.Spec PyProof.Rows L2
theorem sqt_of {K : PySem.W.Frag} {H : Hp} {a : Addr} {xs : List V} (h : H a = some (.tup xs)) : SqT K H a xs := .inl (.inl h)
theorem sql_of {K : PySem.W.Frag} {H : Hp} {a : Addr} {xs : List V} (h : H a = some (.lst xs)) : SqL K H a xs := .inl (.inl h)
end M
namespace M
open PySem PySem.Spec PyProof.Rows L2
theorem hu64M {j : Nat} {A : Around} {h : Option Value} (hr : Room j A) : (A.mark h).units + 64 < cLine := by
  have := hr.un
  show A.units + 64 < cLine
  omega
theorem hu65M {j : Nat} {A : Around} {h : Option Value} (hr : Room j A) : (A.mark h).units + 65 < cLine := by
  have := hr.un
  show A.units + 65 < cLine
  omega
end M
namespace M
open PySem PySem.Spec PyProof.Rows L2
theorem x_WE {W : WX} {σ : L2.St} {cls : Value} {d : Option Addr} {H : Hp} (h : W cls d σ H) : WE W σ cls d H := h
end M
namespace M
open PySem PySem.Spec PyProof.Rows L2
/-! ## for -/
def ForB (J : It) (g : TG) (tb : TS) (D : Ends) (σ : L2.St) (H : Hp) : Prop := ∃ W : Nat → Nat → L2.St → Hp → Prop, (∃ m, W 0 m σ H) ∧ ∀ i m σ H, W i m σ H →
  (J.stop i H ∧ D.nx σ H) ∨ (J.go i H ∧ ∃ N : L2.St → Hp → Prop, (∀ σ' H', N σ' H' → ∃ m', m' < m ∧ W (i + 1) m' σ' H') ∧ ∀ x H', J.yld i H x H' → g x σ H' fun σ2 H2 => tb { D with nx := N, ct := N, bk := D.nx } σ2 H2)
section
variable {K : PySem.W.Frag} {wi : TI} {g : TG} {tb : TS} {n bk ct : L2.St → Hp → Prop} {r : VK} {σ : L2.St} {H : Hp} {ta : TA} {tl : TE} {R : It → Hp → Prop} {a : Addr} {xs : List V}
theorem x_for (h : wi σ H fun J H1 => ForB J g tb (Ends.mk n r bk ct) σ H1) : tFor wi g tb (Ends.mk n r bk ct) σ H := h
def RngJ (vs : List V) (H : Hp) (R : It → Hp → Prop) : Prop := ∃ j : Int, vs = [.int j] ∧ -(2 ^ 62) ≤ j ∧ j < 2 ^ 62 ∧ R (Itr 0 j.toNat) H
theorem x_rng1 (h : ta σ H fun vs H1 => RngJ vs H1 R) : iRng1 ta σ H R := h
theorem x_rngJ {j : Int} (h1 : -(2 ^ 62) ≤ j) (h2 : j < 2 ^ 62) (q : R (Itr 0 j.toNat) H) : RngJ [.int j] H R := ⟨j, rfl, h1, h2, q⟩
def IterL (K : PySem.W.Frag) (x : V) (H : Hp) (R : It → Hp → Prop) : Prop := ∃ a, x = .ref a ∧ (∃ xs, SqL K H a xs) ∧ R (Itl K a) H
def IterT (K : PySem.W.Frag) (x : V) (H : Hp) (R : It → Hp → Prop) : Prop := ∃ a, x = .ref a ∧ (∃ xs, SqT K H a xs) ∧ R (Itt K a) H
theorem x_iL (h : tl σ H fun x H1 => IterL K x H1 R) : iList K tl σ H R := h
theorem x_iL1 (h : SqL K H a xs) (q : R (Itl K a) H) : IterL K (.ref a) H R := ⟨a, rfl, ⟨xs, h⟩, q⟩
theorem x_iT (h : tl σ H fun x H1 => IterT K x H1 R) : iTup K tl σ H R := h
theorem x_iT1 (h : SqT K H a xs) (q : R (Itt K a) H) : IterT K (.ref a) H R := ⟨a, rfl, ⟨xs, h⟩, q⟩
theorem forR {k : Nat} (Pv : Nat → L2.St → Hp → Prop) (h0 : Pv 0 σ H) (hs : ∀ (i : Nat) σ H, i < k → Pv i σ H → g (.int (i : Int)) σ H fun σ2 H2 => tb (Ends.mk (Pv (i + 1)) r n (Pv (i + 1))) σ2 H2) (hd : ∀ σ H, Pv k σ H → n σ H) :
    ForB (Itr 0 k) g tb (Ends.mk n r bk ct) σ H := for_range (lo := 0) (n := k) (D := Ends.mk n r bk ct) Pv h0 (fun i σ H h p => by
      have e : (0 : Int) + (i : Int) = (i : Int) := by omega
      rw [e]
      exact hs i σ H h p) hd
theorem forL (xs : List V) (Pv : Nat → L2.St → Hp → Prop) (h0 : Pv 0 σ H) (hl : ∀ i σ H, i ≤ xs.length → Pv i σ H → SqL K H a xs) (hs : ∀ (i : Nat) x σ H, xs[i]? = some x → Pv i σ H → g x σ H fun σ2 H2 => tb (Ends.mk (Pv (i + 1)) r n (Pv (i + 1))) σ2 H2) (hd : ∀ σ H, Pv xs.length σ H → n σ H) :
    ForB (Itl K a) g tb (Ends.mk n r bk ct) σ H := for_list (D := Ends.mk n r bk ct) Pv h0 hl hs hd
theorem forT (xs : List V) (Pv : Nat → L2.St → Hp → Prop) (h0 : Pv 0 σ H) (hl : ∀ i σ H, i ≤ xs.length → Pv i σ H → SqT K H a xs) (hs : ∀ (i : Nat) x σ H, xs[i]? = some x → Pv i σ H → g x σ H fun σ2 H2 => tb (Ends.mk (Pv (i + 1)) r n (Pv (i + 1))) σ2 H2) (hd : ∀ σ H, Pv xs.length σ H → n σ H) :
    ForB (Itt K a) g tb (Ends.mk n r bk ct) σ H := for_tup (D := Ends.mk n r bk ct) Pv h0 hl hs hd
end
end M

namespace T
open PySem PySem.Spec PyProof.Rows L2 M
/-! ## words: x (steps of a reading), get (what stands at an address), same (all stands), sd (side conditions), jp (data) -/
local macro_rules | `(tactic| walk_at "sd") => `(tactic| first | assumption | omega | decide)
local macro_rules | `(tactic| walk_at "len") => `(tactic| first | omega | decide | (simp only [List.length_cons, List.length_nil]; decide))
local macro_rules | `(tactic| walk_at "same") => `(tactic| first
  | assumption
  | exact Same.refl _
  | (with_reducible refine same_new (by assumption))
  | (with_reducible refine Same.trans ?_ (by assumption); walk_at "same"))
local macro_rules | `(tactic| walk_at "get") => `(tactic| first
  | assumption
  | (with_reducible apply upd_same)
  | ((with_reducible apply same_to); assumption; walk_at "get")
  | ((with_reducible apply get_new); assumption; walk_at "get"))
local macro_rules | `(tactic| walk_at "sqt") => `(tactic| first
  | assumption
  | ((with_reducible apply sqt_of); walk_at "get")
  | ((with_reducible apply sqt_same); assumption; walk_at "sqt"))
local macro_rules | `(tactic| walk_at "sql") => `(tactic| first
  | assumption
  | ((with_reducible apply sql_of); walk_at "get")
  | ((with_reducible apply sql_same); assumption; walk_at "sql"))
local macro_rules | `(tactic| walk_at "jp") => `(tactic| first
  | assumption
  | (with_reducible apply Jp.int) | (with_reducible apply Jp.str) | (with_reducible apply Jp.bl) | (with_reducible apply Jp.non)
  | (with_reducible apply Jps.nil)
  | ((with_reducible apply Jps.cons); walk_at "jp"; walk_at "jp")
  | ((with_reducible apply Jp.tup); walk_at "sqt"; walk_at "jp")
  | ((with_reducible apply Jp.lst); walk_at "get"; walk_at "jp")
  | ((with_reducible apply Jp.dct); walk_at "get"; walk_at "jp")
  | (with_reducible apply Jpd.nil)
  | ((with_reducible apply Jpd.cons); walk_at "jp"; walk_at "jp")
  | ((with_reducible apply Jp.same); assumption; walk_at "jp")
  | ((with_reducible apply Jps.same); assumption; walk_at "jp"))
local macro_rules | `(tactic| walk_at "x") => `(tactic| (repeat (first
  | with_reducible refine x_var ?_
  | with_reducible refine x_c ?_
  | with_reducible refine x_op ?_
  | with_reducible refine x_cons ?_
  | with_reducible refine x_nil ?_
  | with_reducible refine x_seq ?_
  | with_reducible refine x_asg ?_
  | with_reducible refine x_name ?_
  | with_reducible refine x_next ?_
  | with_reducible refine x_ret ?_
  | with_reducible refine x_ifS ?_
  | with_reducible refine x_test ?_
  | with_reducible refine x_bl ?_
  | with_reducible refine x_truth ?_
  | with_reducible refine x_truB ?_
  | with_reducible refine x_truI ?_
  | with_reducible refine x_I0 ?_
  | with_reducible refine x_I (by walk_at "sd") ?_
  | with_reducible refine addU_i ?_
  | with_reducible refine mulU_i ?_ (by first | assumption | exact cmul (by walk_at "sd") (by walk_at "sd"))
  | with_reducible refine x_I (cdiv (by walk_at "sd") (by walk_at "sd")) ?_
  | with_reducible refine x_pow (by walk_at "sd") ?_
  | with_reducible refine eqU_i ?_
  | with_reducible refine neU_i ?_
  | with_reducible refine eqU_str ?_
  | with_reducible refine neU_str ?_
  | with_reducible refine x_un ?_
  | with_reducible refine x_U ?_
  | with_reducible refine x_not ?_
  | with_reducible refine x_and ?_
  | with_reducible refine x_or ?_
  | with_reducible refine x_andV ?_
  | with_reducible refine x_orV ?_
  | with_reducible refine x_notV ?_
  | with_reducible refine x_if ?_
  | with_reducible refine x_tB ?_
  | with_reducible refine x_isN ?_
  | with_reducible refine x_notN ?_
  | with_reducible refine x_isB ?_
  | with_reducible refine x_notB ?_
  | with_reducible refine x_cb ?_
  | with_reducible refine x_abs ?_
  | with_reducible refine x_int1 ?_
  | with_reducible refine x_max2 ?_
  | with_reducible refine strU_i (by walk_at "sd") ?_
  | with_reducible refine x_min2 ?_
  | with_reducible refine x_call ?_
  | with_reducible refine x_callS ?_
  | with_reducible refine x_tup ?_
  | with_reducible refine x_lst ?_
  | with_reducible refine x_par ?_
  | with_reducible refine x_two ?_
  | with_reducible refine x_par3 ?_
  | with_reducible refine x_three ?_
  | with_reducible refine x_drop ?_
  | with_reducible refine x_retN ?_
  | with_reducible refine x_chain ?_
  | with_reducible refine x_break ?_
  | with_reducible refine x_cont ?_
  | with_reducible refine x_gsub ?_
  | with_reducible refine x_gcons ?_
  | with_reducible refine x_gnil ?_
  | with_reducible refine x_gtup (by walk_at "sqt") ?_
  | with_reducible refine x_raise ?_
  | with_reducible refine x_try ?_
  | with_reducible refine x_mk ?_
  | with_reducible refine x_kw0 ?_
  | with_reducible refine x_for ?_
  | with_reducible refine x_rng1 ?_
  | with_reducible refine x_iL ?_
  | with_reducible refine x_iT ?_
  | with_reducible refine x_xf ?_
  | with_reducible refine x_xf1 (by walk_at "get") ?_
  | with_reducible refine x_bm ?_
  | with_reducible refine ite_t ?_
  | with_reducible refine ite_f ?_
  | with_reducible refine lenU_l (by walk_at "get") ?_
  | with_reducible refine lenU_T (by walk_at "sqt") ?_
  | with_reducible refine lenU_L (by walk_at "sql") ?_
  | with_reducible refine ixU_l (by walk_at "get") (by with_unfolding_all rfl) ?_
  | with_reducible refine ixU_T (by walk_at "sqt") (by with_unfolding_all rfl) ?_
  | with_reducible refine x_setL (by walk_at "get") ?_
  | ((with_reducible apply x_isi); decide; walk_at "jp")
  | with_reducible refine ite_T (by with_unfolding_all rfl) ?_
  | with_reducible refine ite_F (by with_unfolding_all rfl) ?_)))
local macro_rules | `(tactic| walk_at "new") => `(tactic| (first
  | (with_reducible refine x_new ?_; intro _ _ _ _ _)
  | (with_reducible refine x_new0 ?_; intro _ _ _ _ _)
  | (with_reducible refine x_dnew ?_; intro _ _ _ _ _)
  | (with_reducible refine addU_l (by walk_at "get") (by walk_at "get") (by walk_at "len") ?_; intro _ _ _ _ _)))
local macro_rules | `(tactic| walk_at "xx") => `(tactic| (walk_at "x"; repeat (walk_at "new"; walk_at "x")))

def top (i : Nat) : Stmt := PySem.Challenge.pw_mendrounds_k01_numbers_made.main.body.getD i (.Pass ⟨0, 0, 0, 0⟩)
abbrev s_BadNumber__init : Stmt := inClass (top 2) 0
abbrev N_BadNumber__init : List Str := ["self", "thing"]
theorem sc_BadNumber__init : FnScope N_BadNumber__init ["self", "thing"] (defScope s_BadNumber__init) := ⟨rfl, rfl, rfl, by decide +kernel, rfl, by decide +kernel, by decide +kernel⟩
abbrev s_common_divisor : Stmt := top 4
abbrev N_common_divisor : List Str := ["one", "other", "low", "high"]
theorem sc_common_divisor : FnScope N_common_divisor ["one", "other"] (defScope s_common_divisor) := ⟨rfl, rfl, rfl, by decide +kernel, rfl, by decide +kernel, by decide +kernel⟩
abbrev s_number : Stmt := top 5
abbrev N_number : List Str := ["top", "bottom", "common"]
theorem sc_number : FnScope N_number ["top", "bottom"] (defScope s_number) := ⟨rfl, rfl, rfl, by decide +kernel, rfl, by decide +kernel, by decide +kernel⟩
abbrev s_is_integer : Stmt := top 6
abbrev N_is_integer : List Str := ["thing"]
theorem sc_is_integer : FnScope N_is_integer ["thing"] (defScope s_is_integer) := ⟨rfl, rfl, rfl, by decide +kernel, rfl, by decide +kernel, by decide +kernel⟩
abbrev s_is_number : Stmt := top 7
abbrev N_is_number : List Str := ["thing"]
theorem sc_is_number : FnScope N_is_number ["thing"] (defScope s_is_number) := ⟨rfl, rfl, rfl, by decide +kernel, rfl, by decide +kernel, by decide +kernel⟩
abbrev s_lbag : Stmt := top 9
abbrev N_lbag : List Str := ["_law_script", "_law_at", "_law_cell", "_law_large"]
theorem sc_lbag : FnScope N_lbag ["_law_script", "_law_at"] (defScope s_lbag) := ⟨rfl, rfl, rfl, by decide +kernel, rfl, by decide +kernel, by decide +kernel⟩
abbrev s_ltake : Stmt := top 10
abbrev N_ltake : List Str := ["_law_bag_here", "_law_many", "_law_digit", "_law_mixed"]
theorem sc_ltake : FnScope N_ltake ["_law_bag_here", "_law_many"] (defScope s_ltake) := ⟨rfl, rfl, rfl, by decide +kernel, rfl, by decide +kernel, by decide +kernel⟩
abbrev s_lof : Stmt := top 11
abbrev N_lof : List Str := ["_law_bag_here", "_law_some"]
theorem sc_lof : FnScope N_lof ["_law_bag_here", "_law_some"] (defScope s_lof) := ⟨rfl, rfl, rfl, by decide +kernel, rfl, by decide +kernel, by decide +kernel⟩
abbrev s_lvalue : Stmt := top 12
abbrev N_lvalue : List Str := ["_law_p", "_law_q", "_law_low", "_law_high"]
theorem sc_lvalue : FnScope N_lvalue ["_law_p", "_law_q"] (defScope s_lvalue) := ⟨rfl, rfl, rfl, by decide +kernel, rfl, by decide +kernel, by decide +kernel⟩
abbrev s_lpair : Stmt := top 13
abbrev N_lpair : List Str := ["_law_value_here"]
theorem sc_lpair : FnScope N_lpair ["_law_value_here"] (defScope s_lpair) := ⟨rfl, rfl, rfl, by decide +kernel, rfl, by decide +kernel, by decide +kernel⟩
abbrev s_lis_int : Stmt := top 14
abbrev N_lis_int : List Str := ["_law_thing"]
theorem sc_lis_int : FnScope N_lis_int ["_law_thing"] (defScope s_lis_int) := ⟨rfl, rfl, rfl, by decide +kernel, rfl, by decide +kernel, by decide +kernel⟩
abbrev s_lsame : Stmt := top 15
abbrev N_lsame : List Str := ["_law_actual", "_law_due"]
theorem sc_lsame : FnScope N_lsame ["_law_actual", "_law_due"] (defScope s_lsame) := ⟨rfl, rfl, rfl, by decide +kernel, rfl, by decide +kernel, by decide +kernel⟩
abbrev s_lbad : Stmt := top 16
abbrev N_lbad : List Str := ["_law_p", "_law_q", "_law_found"]
theorem sc_lbad : FnScope N_lbad ["_law_p", "_law_q"] (defScope s_lbad) := ⟨rfl, rfl, rfl, by decide +kernel, rfl, by decide +kernel, by decide +kernel⟩
abbrev s_lzero : Stmt := top 17
abbrev N_lzero : List Str := ["_law_upper", "e"]
theorem sc_lzero : FnScope N_lzero ["_law_upper"] (defScope s_lzero) := ⟨rfl, rfl, rfl, by decide +kernel, rfl, by decide +kernel, by decide +kernel⟩
abbrev s_law : Stmt := top 18
abbrev N_law : List Str := ["_law_script", "_law_at", "_law_bag_here", "_law_most", "_law_upper", "_law_lower", "_law_due", "_law_common", "_law_p", "_law_q", "_law_thing"]
theorem sc_law : FnScope N_law ["_law_script"] (defScope s_law) := ⟨rfl, rfl, rfl, by decide +kernel, rfl, by decide +kernel, by decide +kernel⟩
def dd_BadNumber__init : He.DefD := ⟨("BadNumber", some "__init__"), "__init__", "BadNumber.__init__", defArgs s_BadNumber__init, defBody s_BadNumber__init, defScope s_BadNumber__init, [], []⟩
def dd_common_divisor : He.DefD := ⟨("common_divisor", none), "common_divisor", "common_divisor", defArgs s_common_divisor, defBody s_common_divisor, defScope s_common_divisor, [], []⟩
def dd_number : He.DefD := ⟨("number", none), "number", "number", defArgs s_number, defBody s_number, defScope s_number, [.int (1)], []⟩
def dd_is_integer : He.DefD := ⟨("is_integer", none), "is_integer", "is_integer", defArgs s_is_integer, defBody s_is_integer, defScope s_is_integer, [], []⟩
def dd_is_number : He.DefD := ⟨("is_number", none), "is_number", "is_number", defArgs s_is_number, defBody s_is_number, defScope s_is_number, [], []⟩
def dd_lbag : He.DefD := ⟨("_law_bag", none), "_law_bag", "_law_bag", defArgs s_lbag, defBody s_lbag, defScope s_lbag, [], []⟩
def dd_ltake : He.DefD := ⟨("_law_take", none), "_law_take", "_law_take", defArgs s_ltake, defBody s_ltake, defScope s_ltake, [], []⟩
def dd_lof : He.DefD := ⟨("_law_of", none), "_law_of", "_law_of", defArgs s_lof, defBody s_lof, defScope s_lof, [], []⟩
def dd_lvalue : He.DefD := ⟨("_law_value", none), "_law_value", "_law_value", defArgs s_lvalue, defBody s_lvalue, defScope s_lvalue, [], []⟩
def dd_lpair : He.DefD := ⟨("_law_pair", none), "_law_pair", "_law_pair", defArgs s_lpair, defBody s_lpair, defScope s_lpair, [], []⟩
def dd_lis_int : He.DefD := ⟨("_law_is_int", none), "_law_is_int", "_law_is_int", defArgs s_lis_int, defBody s_lis_int, defScope s_lis_int, [], []⟩
def dd_lsame : He.DefD := ⟨("_law_same", none), "_law_same", "_law_same", defArgs s_lsame, defBody s_lsame, defScope s_lsame, [], []⟩
def dd_lbad : He.DefD := ⟨("_law_bad", none), "_law_bad", "_law_bad", defArgs s_lbad, defBody s_lbad, defScope s_lbad, [], []⟩
def dd_lzero : He.DefD := ⟨("_law_zero", none), "_law_zero", "_law_zero", defArgs s_lzero, defBody s_lzero, defScope s_lzero, [], []⟩
def dd_law : He.DefD := ⟨("law", none), "law", "law", defArgs s_law, defBody s_law, defScope s_law, [], []⟩
def fn : List He.DefD := [dd_BadNumber__init, dd_common_divisor, dd_number, dd_is_integer, dd_is_number, dd_lbag, dd_ltake, dd_lof, dd_lvalue, dd_lpair, dd_lis_int, dd_lsame, dd_lbad, dd_lzero, dd_law]
def fa : List He.Fa := [.glo "BadNumber", .glo "MendroundsError", .glo "_law_bad", .glo "_law_bag", .glo "_law_is_int", .glo "_law_of", .glo "_law_pair", .glo "_law_same", .glo "_law_take", .glo "_law_value", .glo "_law_zero", .glo "common_divisor", .glo "is_integer", .glo "is_number", .glo "law", .glo "number", .free "ValueError", .free "abs", .free "bool", .free "int", .free "isinstance", .free "len", .free "max", .free "min", .free "range", .free "str", .free "tuple"]
def exs : List (PySem.W.Frag → Bool) := [fun K => errB K (He.ga K "BadNumber") "thing", fun K => decide (PySem.W.kitOne K (.ref (He.ga K "BadNumber")) (.ref (He.ga K "MendroundsError")) = some true), fun K => decide (PySem.W.kitOne K (.ref (He.ga K "BadNumber")) (.type "ValueError") = some true)]
def ex (K : PySem.W.Frag) : Bool := exs.all fun b => b K
theorem exs_ok {K : PySem.W.Frag} (h : ex K = true) (i : Nat) {b : PySem.W.Frag → Bool} (e : exs[i]? = some b) : b K = true := List.all_eq_true.mp h b (List.mem_of_getElem? e)
structure Txt (K : PySem.W.Frag) (mg : Str → Option Value) : Prop where
  g_BadNumber : mg "BadNumber" = some (.ref (He.ga K "BadNumber"))
  g_MendroundsError : mg "MendroundsError" = some (.ref (He.ga K "MendroundsError"))
  g__law_bad : mg "_law_bad" = some (.ref (He.ga K "_law_bad"))
  g__law_bag : mg "_law_bag" = some (.ref (He.ga K "_law_bag"))
  g__law_is_int : mg "_law_is_int" = some (.ref (He.ga K "_law_is_int"))
  g__law_of : mg "_law_of" = some (.ref (He.ga K "_law_of"))
  g__law_pair : mg "_law_pair" = some (.ref (He.ga K "_law_pair"))
  g__law_same : mg "_law_same" = some (.ref (He.ga K "_law_same"))
  g__law_take : mg "_law_take" = some (.ref (He.ga K "_law_take"))
  g__law_value : mg "_law_value" = some (.ref (He.ga K "_law_value"))
  g__law_zero : mg "_law_zero" = some (.ref (He.ga K "_law_zero"))
  g_common_divisor : mg "common_divisor" = some (.ref (He.ga K "common_divisor"))
  g_is_integer : mg "is_integer" = some (.ref (He.ga K "is_integer"))
  g_is_number : mg "is_number" = some (.ref (He.ga K "is_number"))
  g_law : mg "law" = some (.ref (He.ga K "law"))
  g_number : mg "number" = some (.ref (He.ga K "number"))
  n_ValueError : mg "ValueError" = none
  n_abs : mg "abs" = none
  n_bool : mg "bool" = none
  n_int : mg "int" = none
  n_isinstance : mg "isinstance" = none
  n_len : mg "len" = none
  n_max : mg "max" = none
  n_min : mg "min" = none
  n_range : mg "range" = none
  n_str : mg "str" = none
  n_tuple : mg "tuple" = none
  e_BadNumber : Err K (He.ga K "BadNumber") "thing"
  kM : PySem.W.kitOne K (.ref (He.ga K "BadNumber")) (.ref (He.ga K "MendroundsError")) = some true
  kV : PySem.W.kitOne K (.ref (He.ga K "BadNumber")) (.type "ValueError") = some true
  f_BadNumber__init : ∃ fd, FunD K "__init__" "BadNumber.__init__" (defArgs s_BadNumber__init) (defBody s_BadNumber__init) (defScope s_BadNumber__init) [] [] (He.ma K (He.ga K "BadNumber") "__init__") fd
  f_common_divisor : ∃ fd, FunD K "common_divisor" "common_divisor" (defArgs s_common_divisor) (defBody s_common_divisor) (defScope s_common_divisor) [] [] (He.ga K "common_divisor") fd
  f_number : ∃ fd, FunD K "number" "number" (defArgs s_number) (defBody s_number) (defScope s_number) [V.int (1)] [] (He.ga K "number") fd
  f_is_integer : ∃ fd, FunD K "is_integer" "is_integer" (defArgs s_is_integer) (defBody s_is_integer) (defScope s_is_integer) [] [] (He.ga K "is_integer") fd
  f_is_number : ∃ fd, FunD K "is_number" "is_number" (defArgs s_is_number) (defBody s_is_number) (defScope s_is_number) [] [] (He.ga K "is_number") fd
  f_lbag : ∃ fd, FunD K "_law_bag" "_law_bag" (defArgs s_lbag) (defBody s_lbag) (defScope s_lbag) [] [] (He.ga K "_law_bag") fd
  f_ltake : ∃ fd, FunD K "_law_take" "_law_take" (defArgs s_ltake) (defBody s_ltake) (defScope s_ltake) [] [] (He.ga K "_law_take") fd
  f_lof : ∃ fd, FunD K "_law_of" "_law_of" (defArgs s_lof) (defBody s_lof) (defScope s_lof) [] [] (He.ga K "_law_of") fd
  f_lvalue : ∃ fd, FunD K "_law_value" "_law_value" (defArgs s_lvalue) (defBody s_lvalue) (defScope s_lvalue) [] [] (He.ga K "_law_value") fd
  f_lpair : ∃ fd, FunD K "_law_pair" "_law_pair" (defArgs s_lpair) (defBody s_lpair) (defScope s_lpair) [] [] (He.ga K "_law_pair") fd
  f_lis_int : ∃ fd, FunD K "_law_is_int" "_law_is_int" (defArgs s_lis_int) (defBody s_lis_int) (defScope s_lis_int) [] [] (He.ga K "_law_is_int") fd
  f_lsame : ∃ fd, FunD K "_law_same" "_law_same" (defArgs s_lsame) (defBody s_lsame) (defScope s_lsame) [] [] (He.ga K "_law_same") fd
  f_lbad : ∃ fd, FunD K "_law_bad" "_law_bad" (defArgs s_lbad) (defBody s_lbad) (defScope s_lbad) [] [] (He.ga K "_law_bad") fd
  f_lzero : ∃ fd, FunD K "_law_zero" "_law_zero" (defArgs s_lzero) (defBody s_lzero) (defScope s_lzero) [] [] (He.ga K "_law_zero") fd
  f_law : ∃ fd, FunD K "law" "law" (defArgs s_law) (defBody s_law) (defScope s_law) [] [] (He.ga K "law") fd
theorem txt_of {K : PySem.W.Frag} {h : Heap} {mg : Str → Option Value} (X : K.In h) (G : h.Ns mainGlobals mg) (c : He.SaysD fa fn K) (c2 : ex K = true) : Txt K mg :=
  { g_BadNumber := He.glo_ok X G (c.fact 0 (f := .glo "BadNumber") rfl),
    g_MendroundsError := He.glo_ok X G (c.fact 1 (f := .glo "MendroundsError") rfl),
    g__law_bad := He.glo_ok X G (c.fact 2 (f := .glo "_law_bad") rfl),
    g__law_bag := He.glo_ok X G (c.fact 3 (f := .glo "_law_bag") rfl),
    g__law_is_int := He.glo_ok X G (c.fact 4 (f := .glo "_law_is_int") rfl),
    g__law_of := He.glo_ok X G (c.fact 5 (f := .glo "_law_of") rfl),
    g__law_pair := He.glo_ok X G (c.fact 6 (f := .glo "_law_pair") rfl),
    g__law_same := He.glo_ok X G (c.fact 7 (f := .glo "_law_same") rfl),
    g__law_take := He.glo_ok X G (c.fact 8 (f := .glo "_law_take") rfl),
    g__law_value := He.glo_ok X G (c.fact 9 (f := .glo "_law_value") rfl),
    g__law_zero := He.glo_ok X G (c.fact 10 (f := .glo "_law_zero") rfl),
    g_common_divisor := He.glo_ok X G (c.fact 11 (f := .glo "common_divisor") rfl),
    g_is_integer := He.glo_ok X G (c.fact 12 (f := .glo "is_integer") rfl),
    g_is_number := He.glo_ok X G (c.fact 13 (f := .glo "is_number") rfl),
    g_law := He.glo_ok X G (c.fact 14 (f := .glo "law") rfl),
    g_number := He.glo_ok X G (c.fact 15 (f := .glo "number") rfl),
    n_ValueError := He.free_ok X G (c.fact 16 (f := .free "ValueError") rfl),
    n_abs := He.free_ok X G (c.fact 17 (f := .free "abs") rfl),
    n_bool := He.free_ok X G (c.fact 18 (f := .free "bool") rfl),
    n_int := He.free_ok X G (c.fact 19 (f := .free "int") rfl),
    n_isinstance := He.free_ok X G (c.fact 20 (f := .free "isinstance") rfl),
    n_len := He.free_ok X G (c.fact 21 (f := .free "len") rfl),
    n_max := He.free_ok X G (c.fact 22 (f := .free "max") rfl),
    n_min := He.free_ok X G (c.fact 23 (f := .free "min") rfl),
    n_range := He.free_ok X G (c.fact 24 (f := .free "range") rfl),
    n_str := He.free_ok X G (c.fact 25 (f := .free "str") rfl),
    n_tuple := He.free_ok X G (c.fact 26 (f := .free "tuple") rfl),
    e_BadNumber := errB_ok (exs_ok c2 0 rfl),
    kM := of_decide_eq_true (exs_ok c2 1 rfl),
    kV := of_decide_eq_true (exs_ok c2 2 rfl),
    f_BadNumber__init := c.def_ 0 (d := dd_BadNumber__init) rfl,
    f_common_divisor := c.def_ 1 (d := dd_common_divisor) rfl,
    f_number := c.def_ 2 (d := dd_number) rfl,
    f_is_integer := c.def_ 3 (d := dd_is_integer) rfl,
    f_is_number := c.def_ 4 (d := dd_is_number) rfl,
    f_lbag := c.def_ 5 (d := dd_lbag) rfl,
    f_ltake := c.def_ 6 (d := dd_ltake) rfl,
    f_lof := c.def_ 7 (d := dd_lof) rfl,
    f_lvalue := c.def_ 8 (d := dd_lvalue) rfl,
    f_lpair := c.def_ 9 (d := dd_lpair) rfl,
    f_lis_int := c.def_ 10 (d := dd_lis_int) rfl,
    f_lsame := c.def_ 11 (d := dd_lsame) rfl,
    f_lbad := c.def_ 12 (d := dd_lbad) rfl,
    f_lzero := c.def_ 13 (d := dd_lzero) rfl,
    f_law := c.def_ 14 (d := dd_law) rfl }
/-! ## numbers -/
/-- p / q in lowest terms -/
def numP (t b : Int) : Int × Int := ((if b < 0 then -t else t) / (Int.gcd t b : Int), (b.natAbs : Int) / (Int.gcd t b : Int))
def numJ (t b : Int) : J := if (numP t b).2 = 1 then .int (numP t b).1 else .tup [.int (numP t b).1, .int (numP t b).2]
def isInt : J → Bool
  | .int _ => true
  | _ => false
def isNum : J → Bool
  | .int _ => true
  | .tup [.int p, .int q] => decide (2 ≤ q) && decide (Int.gcd p q = 1)
  | _ => false
abbrev sp_BadNumber__init (K : PySem.W.Frag) : Sp := spErr K (He.ga K "BadNumber") "thing"
def t_BadNumber__init (K : PySem.W.Frag) (E : XK) : TS :=
  (tOst K "thing" (tVar 0) (tVar 1))
theorem d_BadNumber__init {P : Program} {w : World} {K : PySem.W.Frag} {mg : Str → Option Value} {base : Heap} (T : Txt K mg) (f : Addr) (cdv : Value) (A : Around) (outer : List Env) (s : Shared) (H : Hp) (E : XK) (hr : Room 0 (A.deeper (envOfC "BadNumber.__init__" (defScope s_BadNumber__init) s.heap.objs.size f cdv))) :
    PSs (cxOf (L2N.CX P w) P w K mg base N_BadNumber__init "BadNumber.__init__" (defScope s_BadNumber__init) f cdv A outer s H E) (defBody s_BadNumber__init) (t_BadNumber__init K E) := by
  unfold t_BadNumber__init
  exact (pss_one (ps_ost (pv 0) (pv 1)))
theorem rd_BadNumber__init {K : PySem.W.Frag} {mg : Str → Option Value} (T : Txt K mg) : ∀ vs H Q E, sp_BadNumber__init K vs H Q E → t_BadNumber__init K E (Ends.mk (fun _ H' => Q .non H') Q (fun _ _ => False) (fun _ _ => False)) (start N_BadNumber__init vs) H := by
  intro vs H Q E h
  unfold t_BadNumber__init
  obtain ⟨a, y, rfl, ha, T, nf, q⟩ := h
  exact ⟨_, rfl, _, rfl, a, _, rfl, T, nf, .inl ⟨ha, fun dx h1 h2 => q dx h1 h2⟩⟩
theorem len_BadNumber__init {K : PySem.W.Frag} : ∀ vs H Q E, sp_BadNumber__init K vs H Q E → vs.length = 2 := by
  intro vs H Q E h
  unfold sp_BadNumber__init at h
  repeat (first | (obtain ⟨rfl, _⟩ := h; rfl) | obtain ⟨_, h⟩ := h)
theorem ok_BadNumber__init {P : Program} {w : World} {K : PySem.W.Frag} {mg : Str → Option Value} {base : Heap} (T : Txt K mg) : Ok P w K mg base 1 (He.ma K (He.ga K "BadNumber") "__init__") ["self", "thing"] [] (sp_BadNumber__init K) :=
  okF T.f_BadNumber__init sc_BadNumber__init len_BadNumber__init (fun _ _ _ _ _ _ us hl => match us, hl with | [_, _], _ => rfl) (d_BadNumber__init T) (rd_BadNumber__init T)
/-- gcd -/
def sp_common_divisor (K : PySem.W.Frag) : Sp := fun vs H Q _ => ∃ a b : Int, vs = [.int a, .int b] ∧ 0 ≤ b ∧ Q (.int (Int.gcd a b)) H
def t_common_divisor (K : PySem.W.Frag) (E : XK) : TS :=
  (tSeq (tPar 2 3 (tCons (tCB mAbs (tCons (tVar 0) tNil)) (tCons (tVar 1) tNil)))
  (tSeq (tWhile (tTest (tOp mGt (tVar 2) (tC (.int 0))))
  (tPar 2 3 (tCons (tOp mMod (tVar 3) (tVar 2)) (tCons (tVar 2) tNil))))
  (tRet (tVar 3))))
theorem d_common_divisor {P : Program} {w : World} {K : PySem.W.Frag} {mg : Str → Option Value} {base : Heap} (T : Txt K mg) (f : Addr) (cdv : Value) (A : Around) (outer : List Env) (s : Shared) (H : Hp) (E : XK) (hr : Room 0 (A.deeper (envOfC "common_divisor" (defScope s_common_divisor) s.heap.objs.size f cdv))) :
    PSs (cxOf (L2N.CX P w) P w K mg base N_common_divisor "common_divisor" (defScope s_common_divisor) f cdv A outer s H E) (defBody s_common_divisor) (t_common_divisor K E) := by
  unfold t_common_divisor
  exact (pss_cons (ps_par (i := 2) (j := 3) rfl sc_common_divisor.nd rfl rfl (by decide) rfl rfl (pa_cons (pe_callB call_abs (by rfl) T.n_abs (by decide +kernel) (pa_cons (pv 0) pa_nil)) (pa_cons (pv 1) pa_nil)) (by rfl))
  (pss_cons (ps_while (passes_of rfl) (pt_cmpR op_gt (pv 2) pe_int (nomark _))
  (pss_one (ps_par (i := 2) (j := 3) rfl sc_common_divisor.nd rfl rfl (by decide) rfl rfl (pa_cons (pe_op op_mod (pv 3) (pv 2)) (pa_cons (pv 2) pa_nil)) (by rfl))))
  (pss_one (ps_ret (pv 3)))))
theorem rd_common_divisor {K : PySem.W.Frag} {mg : Str → Option Value} (T : Txt K mg) : ∀ vs H Q E, sp_common_divisor K vs H Q E → t_common_divisor K E (Ends.mk (fun _ H' => Q .non H') Q (fun _ _ => False) (fun _ _ => False)) (start N_common_divisor vs) H := by
  intro vs H Q E h
  unfold t_common_divisor
  obtain ⟨a, b, rfl, hb, q⟩ := h
  walk_at "x"
  refine x_while (fun σ H' => H' = H ∧ ∃ l g : Int, σ = [some (.int a), some (.int b), some (.int l), some (.int g)] ∧ 0 ≤ l ∧ 0 ≤ g ∧ Int.gcd l g = Int.gcd a b) (fun σ _ => match σ with | [_, _, some (.int l), _] => l.toNat | _ => 0) ⟨rfl, (a.natAbs : Int), b, rfl, by omega, hb, ?_⟩ ?_
  · show Int.gcd (a.natAbs : Int) b = Int.gcd a b
    unfold Int.gcd
    rw [Int.natAbs_natCast]
  rintro σ H1 ⟨rfl, l, g, rfl, hl, hg, e⟩
  walk_at "x"
  refine ite_d (fun h => ?_) (fun h => ?_)
  · refine x_whileN ?_
    walk_at "x"
    refine ⟨⟨rfl, _, _, rfl, Int.emod_nonneg _ (by omega), hl, ?_⟩, ?_⟩
    · rw [← e]
      obtain ⟨m, rfl⟩ := Int.eq_ofNat_of_zero_le hl
      obtain ⟨n, rfl⟩ := Int.eq_ofNat_of_zero_le hg
      show Int.gcd ((n : Int) % (m : Int)) (m : Int) = Int.gcd (m : Int) (n : Int)
      rw [← Int.natCast_emod]
      exact (Nat.gcd_rec m n).symm
    · show (g % l).toNat < l.toNat
      have := Int.emod_lt_of_pos g h
      have := Int.emod_nonneg g (by omega : l ≠ 0)
      omega
  · walk_at "x"
    have e0 : l = 0 := by omega
    subst e0
    have : (Int.gcd a b : Int) = g := by rw [← e]; simp; omega
    rw [← this]
    exact q
theorem len_common_divisor {K : PySem.W.Frag} : ∀ vs H Q E, sp_common_divisor K vs H Q E → vs.length = 2 := by
  intro vs H Q E h
  unfold sp_common_divisor at h
  repeat (first | (obtain ⟨rfl, _⟩ := h; rfl) | obtain ⟨_, h⟩ := h)
theorem ok_common_divisor {P : Program} {w : World} {K : PySem.W.Frag} {mg : Str → Option Value} {base : Heap} (T : Txt K mg) : Ok P w K mg base 1 (He.ga K "common_divisor") ["one", "other"] [] (sp_common_divisor K) :=
  okF T.f_common_divisor sc_common_divisor len_common_divisor (fun _ _ _ _ _ _ us hl => match us, hl with | [_, _], _ => rfl) (d_common_divisor T) (rd_common_divisor T)
def sp_number (K : PySem.W.Frag) : Sp := fun vs H Q E => ∃ t b : Int, vs = [.int t, .int b] ∧ b.natAbs < 10 ^ 200 ∧
  (b = 0 → ∀ d H2, H d = none → Same H H2 → H2 d = some (.xd [("thing", .int 0)]) → E (.ref (He.ga K "BadNumber")) (some d) H2) ∧
  (b ≠ 0 → ∀ v H', Same H H' → Jp K H' v (numJ t b) → Q v H')
def t_number (K : PySem.W.Frag) (E : XK) : TS :=
  (tSeq (tIfS (tTest (tOp (uEq K) (tVar 1) (tC (.int 0))))
  (tRaise (fun cls d _ H => E cls d H) (tMkO (He.ga K "BadNumber") (spErr K (He.ga K "BadNumber") "thing") [] (tCons (tVar 1) tNil)))
  tNext)
  (tSeq (tIfS (tTest (tOp mLt (tVar 1) (tC (.int 0))))
  (tPar 0 1 (tCons (tUn mNeg (tVar 0)) (tCons (tUn mNeg (tVar 1)) tNil)))
  tNext)
  (tSeq (tAsg (tCall (sp_common_divisor K) [] E0 (tCons (tVar 0) (tCons (tVar 1) tNil))) (gName 2))
  (tSeq (tIfS (tTest (tOp (uEq K) (tVar 1) (tVar 2)))
  (tRet (tOp mDiv (tVar 0) (tVar 2)))
  tNext)
  (tRet (tTup (tCons (tOp mDiv (tVar 0) (tVar 2)) (tCons (tOp mDiv (tVar 1) (tVar 2)) tNil))))))))
theorem d_number {P : Program} {w : World} {K : PySem.W.Frag} {mg : Str → Option Value} {base : Heap} (T : Txt K mg) (f : Addr) (cdv : Value) (A : Around) (outer : List Env) (s : Shared) (H : Hp) (E : XK) (hr : Room 2 (A.deeper (envOfC "number" (defScope s_number) s.heap.objs.size f cdv))) :
    PSs (cxOf (L2N.CX P w) P w K mg base N_number "number" (defScope s_number) f cdv A outer s H E) (defBody s_number) (t_number K E) := by
  unfold t_number
  exact (pss_cons (ps_if (pt_cmpR (op_eqU (hu64 hr)) (pv 1) pe_int (nomark _))
  (pss_one (L2N.ps_raise rfl (L2N.takes_of rfl rfl rfl rfl) (pmk_err T.e_BadNumber (ok_BadNumber__init T) hr (by decide) T.g_BadNumber (pa_cons (pv 1) pa_nil))))
  pss_nil)
  (pss_cons (ps_if (pt_cmpR op_lt (pv 1) pe_int (nomark _))
  (pss_one (ps_par (i := 0) (j := 1) rfl sc_number.nd rfl rfl (by decide) rfl rfl (pa_cons (pe_un un_neg (pv 0)) (pa_cons (pe_un un_neg (pv 1)) pa_nil)) (by rfl)))
  pss_nil)
  (pss_cons (ps_set (i := 2) sc_number.nd rfl (Or.inl rfl) (pe_c (ok_common_divisor T) hr (by decide) T.g_common_divisor passN0 (pa_cons (pv 0) (pa_cons (pv 1) pa_nil))))
  (pss_cons (ps_if (pt_cmpR (op_eqU (hu64 hr)) (pv 1) (pv 2) (nomark _))
  (pss_one (ps_ret (pe_op op_fdivW (pv 0) (pv 2))))
  pss_nil)
  (pss_one (ps_ret (pe_tup (pa_cons (pe_op op_fdivW (pv 0) (pv 2)) (pa_cons (pe_op op_fdivW (pv 1) (pv 2)) pa_nil)))))))))
theorem numP_neg (t : Int) {b : Int} (hb : b ≠ 0) : numP (-t) (-b) = numP t b := by
  unfold numP
  rw [Int.gcd_neg, Int.neg_gcd, Int.natAbs_neg]
  by_cases h : b < 0
  · rw [if_pos h, if_neg (by omega)]
  · rw [if_neg h, if_pos (by omega), Int.neg_neg]
theorem numJ_neg (t : Int) {b : Int} (hb : b ≠ 0) : numJ (-t) (-b) = numJ t b := by unfold numJ; rw [numP_neg t hb]
theorem gcd_pos {t b : Int} (h : 0 < b) : (0 : Int) < (Int.gcd t b : Int) := by
  have : 0 < Int.gcd t b := Int.gcd_pos_of_ne_zero_right t (by omega)
  omega
theorem div_one {g b : Int} (h : 0 < g) (d : g ∣ b) : b / g = 1 ↔ b = g := by
  obtain ⟨k, rfl⟩ := d
  rw [Int.mul_ediv_cancel_left _ (by omega)]
  constructor
  · rintro rfl; omega
  · intro e
    have : g * k = g * 1 := by omega
    exact Int.eq_of_mul_eq_mul_left (by omega) this
theorem natAbs_lit {t : Int} {n : Nat} (h : t.natAbs < n) : (-t).natAbs < n := by rw [Int.natAbs_neg]; exact h
/-- what number gives for a denominator above 0 -/
theorem numJ_pos {t b : Int} (h : 0 < b) : numJ t b = if b = (Int.gcd t b : Int) then .int (t / (Int.gcd t b : Int)) else .tup [.int (t / (Int.gcd t b : Int)), .int (b / (Int.gcd t b : Int))] := by
  unfold numJ numP
  have e1 : (b.natAbs : Int) = b := by omega
  rw [if_neg (by omega : ¬ b < 0), e1]
  have e2 := div_one (gcd_pos (t := t) h) (Int.gcd_dvd_right t b)
  by_cases c : b = (Int.gcd t b : Int)
  · rw [if_pos c, if_pos (e2.mpr c)]
  · rw [if_neg c, if_neg (fun z => c (e2.mp z))]
theorem gcd_lt {t b : Int} {n : Nat} (h : 0 < b) (hb : b.natAbs < n) : ((Int.gcd t b : Int)).natAbs < n := by
  have := Int.le_of_dvd h (Int.gcd_dvd_right t b)
  have := gcd_pos (t := t) h
  omega
theorem rd_number {K : PySem.W.Frag} {mg : Str → Option Value} (T : Txt K mg) : ∀ vs H Q E, sp_number K vs H Q E → t_number K E (Ends.mk (fun _ H' => Q .non H') Q (fun _ _ => False) (fun _ _ => False)) (start N_number vs) H := by
  intro vs H Q E h
  unfold t_number
  obtain ⟨t, b, rfl, hb, k0, k1⟩ := h
  walk_at "x"
  refine ite_d (fun h => ?_) (fun h => ?_)
  · subst h
    walk_at "x"
    refine x_err T.e_BadNumber fun d H2 hd hs he => ?_
    exact k0 rfl d H2 hd hs he
  · walk_at "x"
    have k2 := k1 h
    clear k0 k1
    refine ite_d (fun c => ?neg) (fun c => ?pos) <;> walk_at "x"
    case' neg =>
      have c2 : 0 < -b := by omega
      have hb2 := natAbs_lit hb
      rw [← numJ_neg t h] at k2
      clear c h hb
      generalize -t = t at k2 ⊢
      generalize -b = b at k2 c2 hb2 ⊢
    case' pos =>
      have c2 : 0 < b := by omega
      have hb2 := hb
      clear c h hb
    all_goals
      have g0 := gcd_pos (t := t) c2
      have g1 := gcd_lt (t := t) c2 hb2
      rw [numJ_pos c2] at k2
      refine ⟨t, b, rfl, by omega, ?_⟩
      walk_at "x"
      refine ite_d (fun c => ?_) (fun c => ?_)
      · rw [if_pos c] at k2
        walk_at "x"
        exact k2 _ _ (Same.refl _) (.int _)
      · rw [if_neg c] at k2
        walk_at "xx"
        exact k2 _ _ (by assumption) (by walk_at "jp")
theorem len_number {K : PySem.W.Frag} : ∀ vs H Q E, sp_number K vs H Q E → vs.length = 2 := by
  intro vs H Q E h
  unfold sp_number at h
  repeat (first | (obtain ⟨rfl, _⟩ := h; rfl) | obtain ⟨_, h⟩ := h)
theorem ok_number_1 {P : Program} {w : World} {K : PySem.W.Frag} {mg : Str → Option Value} {base : Heap} (T : Txt K mg) : Ok P w K mg base 3 (He.ga K "number") ["top", "bottom"] [V.int (1)] (sp_number K) :=
  okF1 1 0 T.f_number sc_number len_number (by simp) rfl (fun _ _ _ _ _ _ _ us its hl hi => match us, its, hl, hi with | [_], [_], _, _ => ⟨_, rfl, by kernel_rfl⟩) (d_number T) (rd_number T)
theorem ok_number {P : Program} {w : World} {K : PySem.W.Frag} {mg : Str → Option Value} {base : Heap} (T : Txt K mg) : Ok P w K mg base 3 (He.ga K "number") ["top", "bottom"] [] (sp_number K) :=
  okF1 2 1 T.f_number sc_number len_number (by simp) rfl (fun _ _ _ _ _ _ _ us its hl hi => match us, its, hl, hi with | [_, _], [_], _, _ => ⟨_, rfl, by kernel_rfl⟩) (d_number T) (rd_number T)
theorem okK_number_0_bottom_top {P : Program} {w : World} {K : PySem.W.Frag} {mg : Str → Option Value} {base : Heap} (T : Txt K mg) : OkK P w K mg base 3 (He.ga K "number") ["top", "bottom"] 0 ["bottom", "top"] (fun vs zs => ([1, 0] : List Nat).map fun i => (vs ++ zs ++ [V.int (1)]).getD i .non) (sp_number K) := by
  obtain ⟨fd, F⟩ := T.f_number
  obtain ⟨g, b⟩ := kbinds1 F 0 ["bottom", "top"] [1, 0] (by simp) (fun _ _ _ _ _ _ _ us its ws hl hi hw => match us, its, ws, hl, hi, hw with | [], [_], [_, _], _, _, _ => ⟨_, rfl, by kernel_rfl⟩)
  exact ⟨fd, g, fnF F sc_number len_number (d_number T) (rd_number T), F.kp, b⟩
def sp_is_integer (K : PySem.W.Frag) : Sp := fun vs H Q _ => ∃ x d, vs = [x] ∧ Jp K H x d ∧ Q (.bl (isInt d)) H
def t_is_integer (K : PySem.W.Frag) (E : XK) : TS :=
  (tRet (tAndV (tCB (rIsi K) (tCons (tVar 0) (tCons (tC (.ty "int")) tNil))) (tNotV (tCB (rIsi K) (tCons (tVar 0) (tCons (tC (.ty "bool")) tNil))))))
theorem d_is_integer {P : Program} {w : World} {K : PySem.W.Frag} {mg : Str → Option Value} {base : Heap} (T : Txt K mg) (f : Addr) (cdv : Value) (A : Around) (outer : List Env) (s : Shared) (H : Hp) (E : XK) (hr : Room 0 (A.deeper (envOfC "is_integer" (defScope s_is_integer) s.heap.objs.size f cdv))) :
    PSs (cxOf (L2N.CX P w) P w K mg base N_is_integer "is_integer" (defScope s_is_integer) f cdv A outer s H E) (defBody s_is_integer) (t_is_integer K E) := by
  unfold t_is_integer
  exact (pss_one (ps_ret (pe_and (pe_callB call_isi (by rfl) T.n_isinstance (by decide +kernel) (pa_cons (pv 0) (pa_cons (pe_ty T.n_int (by decide +kernel)) pa_nil))) (pe_one (pe_not (pe_callB call_isi (by rfl) T.n_isinstance (by decide +kernel) (pa_cons (pv 0) (pa_cons (pe_ty T.n_bool (by decide +kernel)) pa_nil))))))))
theorem isT_int (d : J) : (if isT d.ty "int" = true then !isT d.ty "bool" else false) = isInt d := by cases d <;> rfl
theorem rd_is_integer {K : PySem.W.Frag} {mg : Str → Option Value} (T : Txt K mg) : ∀ vs H Q E, sp_is_integer K vs H Q E → t_is_integer K E (Ends.mk (fun _ H' => Q .non H') Q (fun _ _ => False) (fun _ _ => False)) (start N_is_integer vs) H := by
  intro vs H Q E h
  unfold t_is_integer
  obtain ⟨x, d, rfl, hd, q⟩ := h
  walk_at "x"
  have e := isT_int d
  revert e
  cases isT d.ty "int" with
  | true =>
    intro e
    walk_at "x"
    rw [← e] at q
    exact q
  | false =>
    intro e
    walk_at "x"
    rw [← e] at q
    exact q
theorem len_is_integer {K : PySem.W.Frag} : ∀ vs H Q E, sp_is_integer K vs H Q E → vs.length = 1 := by
  intro vs H Q E h
  unfold sp_is_integer at h
  repeat (first | (obtain ⟨rfl, _⟩ := h; rfl) | obtain ⟨_, h⟩ := h)
theorem ok_is_integer {P : Program} {w : World} {K : PySem.W.Frag} {mg : Str → Option Value} {base : Heap} (T : Txt K mg) : Ok P w K mg base 1 (He.ga K "is_integer") ["thing"] [] (sp_is_integer K) :=
  okF T.f_is_integer sc_is_integer len_is_integer (fun _ _ _ _ _ _ us hl => match us, hl with | [_], _ => rfl) (d_is_integer T) (rd_is_integer T)
theorem isNum_two (p q : J) : isNum (.tup [p, q]) = if isInt p = true then (if isInt q = true then isNum (.tup [p, q]) else false) else false := by
  cases p <;> cases q <;> rfl
theorem isNum_len {l : List J} (h : l.length ≠ 2) : isNum (.tup l) = false := by
  match l with
  | [] => rfl
  | [a] => cases a <;> rfl
  | [_, _] => exact absurd rfl h
  | a :: b :: _ :: _ => cases a <;> cases b <;> rfl
theorem isInt_ex {d : J} (h : isInt d = true) : ∃ i, d = .int i := by
  cases d <;> first | exact ⟨_, rfl⟩ | cases h
def sp_is_number (K : PySem.W.Frag) : Sp := fun vs H Q _ => ∃ x d, vs = [x] ∧ Jp K H x d ∧ Q (.bl (isNum d)) H
def t_is_number (K : PySem.W.Frag) (E : XK) : TS :=
  (tSeq (tIfS (tNot (tTruth K (tCB (rIsi K) (tCons (tVar 0) (tCons (tC (.ty "tuple")) tNil)))))
  (tRet (tCall (sp_is_integer K) [] E0 (tCons (tVar 0) tNil)))
  tNext)
  (tSeq (tIfS (tOr (tTest (tOp (uNe K) (tCB (uLen K) (tCons (tVar 0) tNil)) (tC (.int 2)))) (tOr (tNot (tTruth K (tCall (sp_is_integer K) [] E0 (tCons (tOp (uIx K) (tVar 0) (tC (.int 0))) tNil)))) (tNot (tTruth K (tCall (sp_is_integer K) [] E0 (tCons (tOp (uIx K) (tVar 0) (tC (.int 1))) tNil))))))
  (tRet (tC (.bl false)))
  tNext)
  (tRet (tAndV (tOp mGe (tOp (uIx K) (tVar 0) (tC (.int 1))) (tC (.int 2))) (tOp (uEq K) (tCall (sp_common_divisor K) [] E0 (tCons (tOp (uIx K) (tVar 0) (tC (.int 0))) (tCons (tOp (uIx K) (tVar 0) (tC (.int 1))) tNil))) (tC (.int 1)))))))
theorem d_is_number {P : Program} {w : World} {K : PySem.W.Frag} {mg : Str → Option Value} {base : Heap} (T : Txt K mg) (f : Addr) (cdv : Value) (A : Around) (outer : List Env) (s : Shared) (H : Hp) (E : XK) (hr : Room 1 (A.deeper (envOfC "is_number" (defScope s_is_number) s.heap.objs.size f cdv))) :
    PSs (cxOf (L2N.CX P w) P w K mg base N_is_number "is_number" (defScope s_is_number) f cdv A outer s H E) (defBody s_is_number) (t_is_number K E) := by
  unfold t_is_number
  exact (pss_cons (ps_if (pt_not (pt_tru (pe_callB call_isi (by rfl) T.n_isinstance (by decide +kernel) (pa_cons (pv 0) (pa_cons (pe_ty T.n_tuple (by decide +kernel)) pa_nil)))))
  (pss_one (ps_ret (pe_c (ok_is_integer T) hr (by decide) T.g_is_integer passN0 (pa_cons (pv 0) pa_nil))))
  pss_nil)
  (pss_cons (ps_if (PW.pt (pw_or (pt_cmpR (op_neU (hu64 hr)) (pe_callB call_lenU (by rfl) T.n_len (by decide +kernel) (pa_cons (pv 0) pa_nil)) pe_int (nomark _)) (pw_or (pt_not (pt_tru (pe_c (ok_is_integer T) hr (by decide) T.g_is_integer passN0 (pa_cons (pe_ix ix_U (pv 0) pe_int (fun _ _ => rfl)) pa_nil)))) (pw_or1 (pt_not (pt_tru (pe_c (ok_is_integer T) hr (by decide) T.g_is_integer passN0 (pa_cons (pe_ix ix_U (pv 0) pe_int (fun _ _ => rfl)) pa_nil))))))))
  (pss_one (ps_ret pe_bl))
  pss_nil)
  (pss_one (ps_ret (pe_and (pe_cmpR op_ge (pe_ix ix_U (pv 0) pe_int (fun _ _ => rfl)) pe_int (nomark _)) (pe_one (pe_cmpR (op_eqU (hu64 hr)) (pe_c (ok_common_divisor T) hr (by decide) T.g_common_divisor passN0 (pa_cons (pe_ix ix_U (pv 0) pe_int (fun _ _ => rfl)) (pa_cons (pe_ix ix_U (pv 0) pe_int (fun _ _ => rfl)) pa_nil))) pe_int (nomark _))))))))
theorem rd_is_number {K : PySem.W.Frag} {mg : Str → Option Value} (T : Txt K mg) : ∀ vs H Q E, sp_is_number K vs H Q E → t_is_number K E (Ends.mk (fun _ H' => Q .non H') Q (fun _ _ => False) (fun _ _ => False)) (start N_is_number vs) H := by
  intro vs H Q E h
  unfold t_is_number
  obtain ⟨x, d, rfl, hd, q⟩ := h
  walk_at "x"
  refine ite_b (fun c => ?_) (fun c => ?_)
  · walk_at "x"
    refine ⟨x, d, rfl, hd, ?_⟩
    have e : isInt d = isNum d := by cases d <;> first | rfl | simp [isT, J.ty] at c
    rw [e]
    exact q
  · have e : ∃ l, d = .tup l := by cases d <;> first | exact ⟨_, rfl⟩ | simp [isT, J.ty] at c
    obtain ⟨l, rfl⟩ := e
    clear c
    cases hd with
    | tup hs hr =>
      rename_i a xs
      have hl := hr.length
      walk_at "x"
      refine ite_nd (fun c => ?_) (fun c => ?_)
      · have c2 : xs.length = 2 := by omega
        cases hr with
        | nil => cases c2
        | cons h1 hr =>
          cases hr with
          | nil => cases c2
          | cons h2 hr =>
            cases hr with
            | cons _ _ => simp at c2
            | nil =>
              rename_i x1 d1 x2 d2
              clear c c2 hl
              rw [isNum_two] at q
              walk_at "x"
              refine ⟨x1, d1, rfl, h1, ?_⟩
              walk_at "x"
              refine ite_b (fun c => ?_) (fun c => ?_)
              · have c1 : isInt d1 = false := by simpa using c
                rw [c1, if_neg (by decide)] at q
                walk_at "x"
                exact q
              · have c1 : isInt d1 = true := by simpa using c
                rw [c1, if_pos rfl] at q
                walk_at "x"
                refine ⟨x2, d2, rfl, h2, ?_⟩
                walk_at "x"
                refine ite_b (fun c => ?_) (fun c => ?_)
                · have c2 : isInt d2 = false := by simpa using c
                  rw [c2, if_neg (by decide)] at q
                  walk_at "x"
                  exact q
                · have c2 : isInt d2 = true := by simpa using c
                  rw [c2, if_pos rfl] at q
                  obtain ⟨p, rfl⟩ := isInt_ex c1
                  obtain ⟨r, rfl⟩ := isInt_ex c2
                  cases h1
                  cases h2
                  walk_at "x"
                  refine ite_d (fun c => ?_) (fun c => ?_)
                  · walk_at "x"
                    refine ⟨p, r, rfl, by omega, ?_⟩
                    walk_at "x"
                    have e : isNum (.tup [.int p, .int r]) = decide ((Int.gcd p r : Int) = 1) := by
                      show (decide (2 ≤ r) && decide (Int.gcd p r = 1)) = _
                      rw [decide_eq_true c, Bool.true_and]
                      by_cases g : Int.gcd p r = 1
                      · rw [decide_eq_true g, decide_eq_true (by omega)]
                      · rw [decide_eq_false g, decide_eq_false (by omega)]
                    rw [e] at q
                    exact q
                  · walk_at "x"
                    have e : isNum (.tup [.int p, .int r]) = false := by
                      show (decide (2 ≤ r) && decide (Int.gcd p r = 1)) = _
                      rw [decide_eq_false c, Bool.false_and]
                    rw [e] at q
                    exact q
      · have c2 : l.length ≠ 2 := by omega
        rw [isNum_len c2] at q
        walk_at "x"
        exact q
theorem len_is_number {K : PySem.W.Frag} : ∀ vs H Q E, sp_is_number K vs H Q E → vs.length = 1 := by
  intro vs H Q E h
  unfold sp_is_number at h
  repeat (first | (obtain ⟨rfl, _⟩ := h; rfl) | obtain ⟨_, h⟩ := h)
theorem ok_is_number {P : Program} {w : World} {K : PySem.W.Frag} {mg : Str → Option Value} {base : Heap} (T : Txt K mg) : Ok P w K mg base 2 (He.ga K "is_number") ["thing"] [] (sp_is_number K) :=
  okF T.f_is_number sc_is_number len_is_number (fun _ _ _ _ _ _ us hl => match us, hl with | [_], _ => rfl) (d_is_number T) (rd_is_number T)
/-! ## the law's own defs -/
def sp_lbag (K : PySem.W.Frag) : Sp := fun vs H Q _ => ∃ (a : Addr) (ns : List Int) (i : Int), vs = [.ref a, .int i] ∧ SqL K H a (ns.map V.int) ∧ 0 ≤ i ∧ i ≤ 63 ∧ ∀ b H', H b = none → Same H H' → Bag H' b 0 → Q (.ref b) H'
def t_lbag (K : PySem.W.Frag) (E : XK) : TS :=
  (tSeq (tAsg (tIf (tTest (tOp mLt (tVar 1) (tCB (uLen K) (tCons (tVar 0) tNil)))) (tOp (uIx K) (tVar 0) (tVar 1)) (tC (.int 0))) (gName 2))
  (tSeq (tAsg (tIf (tTest (tOp mGe (tCB mAbs (tCons (tVar 2) tNil)) (tOp mPow (tC (.int 10)) (tC (.int 18))))) (tCB mAbs (tCons (tVar 2) tNil)) (tC (.int 0))) (gName 3))
  (tRet (tLst (tCons (tVar 3) (tCons (tOp (uAdd K) (tOp (uAdd K) (tOp (uMul K) (tOp mMod (tCB mInt (tCons (tVar 2) tNil)) (tC (.int 2305843009213693951))) (tC (.int 7))) (tOp (uMul K) (tC (.int 9176)) (tVar 1))) (tC (.int 7001))) (tCons (tC (.int 0)) tNil)))))))
theorem d_lbag {P : Program} {w : World} {K : PySem.W.Frag} {mg : Str → Option Value} {base : Heap} (T : Txt K mg) (f : Addr) (cdv : Value) (A : Around) (outer : List Env) (s : Shared) (H : Hp) (E : XK) (hr : Room 0 (A.deeper (envOfC "_law_bag" (defScope s_lbag) s.heap.objs.size f cdv))) :
    PSs (cxOf (L2N.CX P w) P w K mg base N_lbag "_law_bag" (defScope s_lbag) f cdv A outer s H E) (defBody s_lbag) (t_lbag K E) := by
  unfold t_lbag
  exact (pss_cons (ps_set (i := 2) sc_lbag.nd rfl (Or.inl rfl) (pe_ifExp (pt_cmpR op_lt (pv 1) (pe_callB call_lenU (by rfl) T.n_len (by decide +kernel) (pa_cons (pv 0) pa_nil)) (nomark _)) (pe_ix ix_U (pv 0) (pv 1) (fun _ _ => rfl)) pe_int))
  (pss_cons (ps_set (i := 3) sc_lbag.nd rfl (Or.inl rfl) (pe_ifExp (pt_cmpR op_ge (pe_callB call_abs (by rfl) T.n_abs (by decide +kernel) (pa_cons (pv 2) pa_nil)) (pe_op op_pow pe_int pe_int) (nomark _)) (pe_callB call_abs (by rfl) T.n_abs (by decide +kernel) (pa_cons (pv 2) pa_nil)) pe_int))
  (pss_one (ps_ret (pe_lst (pa_cons (pv 3) (pa_cons (pe_op op_addU (pe_op op_addU (pe_op op_mulU (pe_op op_mod (pe_callTy call_int1 (by rfl) T.n_int (by decide +kernel) (pa_cons (pv 2) pa_nil)) pe_int) pe_int) (pe_op op_mulU pe_int (pv 1))) pe_int) (pa_cons pe_int pa_nil))))))))
theorem bag_mod (c i : Int) (h0 : 0 ≤ i) (h : i ≤ 63) : 0 ≤ c % 2305843009213693951 * 7 + 9176 * i + 7001 ∧ c % 2305843009213693951 * 7 + 9176 * i + 7001 < 7 * 2 ^ 61 + 10 ^ 6 := by omega
theorem rd_lbag {K : PySem.W.Frag} {mg : Str → Option Value} (T : Txt K mg) : ∀ vs H Q E, sp_lbag K vs H Q E → t_lbag K E (Ends.mk (fun _ H' => Q .non H') Q (fun _ _ => False) (fun _ _ => False)) (start N_lbag vs) H := by
  intro vs H Q E h
  unfold t_lbag
  obtain ⟨a, ns, i, rfl, hs, h0, h1, q⟩ := h
  walk_at "x"
  refine ite_d (fun c => ?lt) (fun c => ?ge)
  case' lt =>
    rw [List.length_map] at c
    walk_at "x"
    refine ixU_L hs (atI_ints h0 c) ?_
    generalize ns.getD i.toNat 0 = c
  case' ge => generalize hc : (0 : Int) = c
  all_goals
    walk_at "x"
    refine ite_d (fun c1 => ?_) (fun c1 => ?_)
    all_goals
      walk_at "xx"
      refine q _ _ (by assumption) (by assumption) ⟨_, _, _, by assumption, ?_, ?_, by omega, by omega⟩
      · omega
      · omega
theorem len_lbag {K : PySem.W.Frag} : ∀ vs H Q E, sp_lbag K vs H Q E → vs.length = 2 := by
  intro vs H Q E h
  unfold sp_lbag at h
  repeat (first | (obtain ⟨rfl, _⟩ := h; rfl) | obtain ⟨_, h⟩ := h)
theorem ok_lbag {P : Program} {w : World} {K : PySem.W.Frag} {mg : Str → Option Value} {base : Heap} (T : Txt K mg) : Ok P w K mg base 1 (He.ga K "_law_bag") ["_law_script", "_law_at"] [] (sp_lbag K) :=
  okF T.f_lbag sc_lbag len_lbag (fun _ _ _ _ _ _ us hl => match us, hl with | [_, _], _ => rfl) (d_lbag T) (rd_lbag T)
def sp_ltake (K : PySem.W.Frag) : Sp := fun vs H Q _ => ∃ (b : Addr) (many : Int) (n : Nat), vs = [.ref b, .int many] ∧ Bag H b n ∧ n ≤ 1000000000 ∧ 0 < many ∧ many.natAbs < 10 ^ 200 ∧
  ∀ (d : Int) H', 0 ≤ d → d < many → But b H H' → Bag H' b (n + 1) → Q (.int d) H'
def t_ltake (K : PySem.W.Frag) (E : XK) : TS :=
  (tSeq (tIfS (tTest (tOp mGt (tOp (uIx K) (tVar 0) (tC (.int 0))) (tC (.int 0))))
  (tSeq (tAsg (tOp mMod (tCB mInt (tCons (tOp (uIx K) (tVar 0) (tC (.int 0))) tNil)) (tVar 1)) (gName 2))
  (tSeq (tAsg (tOp mDiv (tOp (uIx K) (tVar 0) (tC (.int 0))) (tVar 1)) (gSub (tVar 0) (tC (.int 0)) rSetL))
  (tRet (tVar 2))))
  tNext)
  (tSeq (tAsg (tOp (uAdd K) (tOp (uIx K) (tVar 0) (tC (.int 2))) (tC (.int 1))) (gSub (tVar 0) (tC (.int 2)) rSetL))
  (tSeq (tAsg (tOp mMod (tCB mInt (tCons (tOp mPow (tOp (uAdd K) (tOp (uIx K) (tVar 0) (tC (.int 1))) (tOp (uMul K) (tC (.int 1000003)) (tOp (uIx K) (tVar 0) (tC (.int 2))))) (tC (.int 3))) tNil)) (tC (.int 2305843009213693921))) (gName 3))
  (tSeq (tAsg (tOp mMod (tCB mInt (tCons (tOp mPow (tOp (uAdd K) (tVar 3) (tOp (uMul K) (tC (.int 15485863)) (tOp (uIx K) (tVar 0) (tC (.int 2))))) (tC (.int 2))) tNil)) (tC (.int 2305843009213693951))) (gName 3))
  (tRet (tOp mMod (tCB mInt (tCons (tOp mDiv (tVar 3) (tC (.int 8192))) tNil)) (tVar 1)))))))
theorem d_ltake {P : Program} {w : World} {K : PySem.W.Frag} {mg : Str → Option Value} {base : Heap} (T : Txt K mg) (f : Addr) (cdv : Value) (A : Around) (outer : List Env) (s : Shared) (H : Hp) (E : XK) (hr : Room 0 (A.deeper (envOfC "_law_take" (defScope s_ltake) s.heap.objs.size f cdv))) :
    PSs (cxOf (L2N.CX P w) P w K mg base N_ltake "_law_take" (defScope s_ltake) f cdv A outer s H E) (defBody s_ltake) (t_ltake K E) := by
  unfold t_ltake
  exact (pss_cons (ps_if (pt_cmpR op_gt (pe_ix ix_U (pv 0) pe_int (fun _ _ => rfl)) pe_int (nomark _))
  (pss_cons (ps_set (i := 2) sc_ltake.nd rfl (Or.inl rfl) (pe_op op_mod (pe_callTy call_int1 (by rfl) T.n_int (by decide +kernel) (pa_cons (pe_ix ix_U (pv 0) pe_int (fun _ _ => rfl)) pa_nil)) (pv 1)))
  (pss_cons (ps_asg (pe_op op_fdivW (pe_ix ix_U (pv 0) pe_int (fun _ _ => rfl)) (pv 1)) (pg_sub (pv 0) pe_int set_list))
  (pss_one (ps_ret (pv 2)))))
  pss_nil)
  (pss_cons (ps_asg (pe_op op_addU (pe_ix ix_U (pv 0) pe_int (fun _ _ => rfl)) pe_int) (pg_sub (pv 0) pe_int set_list))
  (pss_cons (ps_set (i := 3) sc_ltake.nd rfl (Or.inl rfl) (pe_op op_mod (pe_callTy call_int1 (by rfl) T.n_int (by decide +kernel) (pa_cons (pe_op op_pow (pe_op op_addU (pe_ix ix_U (pv 0) pe_int (fun _ _ => rfl)) (pe_op op_mulU pe_int (pe_ix ix_U (pv 0) pe_int (fun _ _ => rfl)))) pe_int) pa_nil)) pe_int))
  (pss_cons (ps_set (i := 3) sc_ltake.nd rfl (Or.inl rfl) (pe_op op_mod (pe_callTy call_int1 (by rfl) T.n_int (by decide +kernel) (pa_cons (pe_op op_pow (pe_op op_addU (pv 3) (pe_op op_mulU pe_int (pe_ix ix_U (pv 0) pe_int (fun _ _ => rfl)))) pe_int) pa_nil)) pe_int))
  (pss_one (ps_ret (pe_op op_mod (pe_callTy call_int1 (by rfl) T.n_int (by decide +kernel) (pa_cons (pe_op op_fdivW (pv 3) pe_int) pa_nil)) (pv 1))))))))
theorem rd_ltake {K : PySem.W.Frag} {mg : Str → Option Value} (T : Txt K mg) : ∀ vs H Q E, sp_ltake K vs H Q E → t_ltake K E (Ends.mk (fun _ H' => Q .non H') Q (fun _ _ => False) (fun _ _ => False)) (start N_ltake vs) H := by
  intro vs H Q E h
  unfold t_ltake
  obtain ⟨b, many, n, rfl, ⟨L, M, c, hb, m0, m1, c0, c1⟩, hn, h0, h1, q⟩ := h
  walk_at "x"
  refine ite_d (fun c => ?_) (fun c => ?_)
  · walk_at "x"
    refine q _ _ (Int.emod_nonneg _ (by omega)) (Int.emod_lt_of_pos _ h0) But.up ⟨_, _, _, upd_same, m0, m1, c0, by omega⟩
  · walk_at "x"
    refine q _ _ (Int.emod_nonneg _ (by omega)) (Int.emod_lt_of_pos _ h0) But.up ⟨_, _, _, upd_same, m0, m1, by omega, by omega⟩
theorem len_ltake {K : PySem.W.Frag} : ∀ vs H Q E, sp_ltake K vs H Q E → vs.length = 2 := by
  intro vs H Q E h
  unfold sp_ltake at h
  repeat (first | (obtain ⟨rfl, _⟩ := h; rfl) | obtain ⟨_, h⟩ := h)
theorem ok_ltake {P : Program} {w : World} {K : PySem.W.Frag} {mg : Str → Option Value} {base : Heap} (T : Txt K mg) : Ok P w K mg base 1 (He.ga K "_law_take") ["_law_bag_here", "_law_many"] [] (sp_ltake K) :=
  okF T.f_ltake sc_ltake len_ltake (fun _ _ _ _ _ _ us hl => match us, hl with | [_, _], _ => rfl) (d_ltake T) (rd_ltake T)
def sp_lof (K : PySem.W.Frag) : Sp := fun vs H Q _ => ∃ (b : Addr) (v : V) (n : Nat), vs = [.ref b, v] ∧ Bag H b n ∧ n ≤ 1000000000 ∧
  ((∃ (s : Addr) (xs : List V), v = .ref s ∧ s ≠ b ∧ H s = some (.lst xs) ∧ 0 < xs.length ∧ xs.length ≤ 1000 ∧ ∀ (k : Nat) x H', xs[k]? = some x → But b H H' → Bag H' b (n + 1) → Q x H') ∨
   (∃ z : Str, v = .str z ∧ 0 < z.length ∧ z.length ≤ 1000 ∧ ∀ (c : Nat) H', c ∈ z.cps.toList → But b H H' → Bag H' b (n + 1) → Q (.str ⟨#[c]⟩) H'))
def t_lof (K : PySem.W.Frag) (E : XK) : TS :=
  (tRet (tOp (uIx K) (tVar 1) (tCall (sp_ltake K) [] E0 (tCons (tVar 0) (tCons (tCB (uLen K) (tCons (tVar 1) tNil)) tNil)))))
theorem d_lof {P : Program} {w : World} {K : PySem.W.Frag} {mg : Str → Option Value} {base : Heap} (T : Txt K mg) (f : Addr) (cdv : Value) (A : Around) (outer : List Env) (s : Shared) (H : Hp) (E : XK) (hr : Room 1 (A.deeper (envOfC "_law_of" (defScope s_lof) s.heap.objs.size f cdv))) :
    PSs (cxOf (L2N.CX P w) P w K mg base N_lof "_law_of" (defScope s_lof) f cdv A outer s H E) (defBody s_lof) (t_lof K E) := by
  unfold t_lof
  exact (pss_one (ps_ret (pe_ix ix_U (pv 1) (pe_c (ok_ltake T) hr (by decide) T.g__law_take passN0 (pa_cons (pv 0) (pa_cons (pe_callB call_lenU (by rfl) T.n_len (by decide +kernel) (pa_cons (pv 1) pa_nil)) pa_nil))) (fun _ _ => rfl))))
theorem get_some {α : Type} {xs : List α} {k : Nat} (h : k < xs.length) : ∃ x, xs[k]? = some x := ⟨xs[k], List.getElem?_eq_getElem h⟩
theorem rd_lof {K : PySem.W.Frag} {mg : Str → Option Value} (T : Txt K mg) : ∀ vs H Q E, sp_lof K vs H Q E → t_lof K E (Ends.mk (fun _ H' => Q .non H') Q (fun _ _ => False) (fun _ _ => False)) (start N_lof vs) H := by
  intro vs H Q E h
  unfold t_lof
  obtain ⟨b, v, n, rfl, hb, hn, ⟨s, xs, rfl, ne, hs, l0, l1, q⟩ | ⟨z, rfl, l0, l1, q⟩⟩ := h
  · walk_at "x"
    refine ⟨b, xs.length, n, rfl, hb, hn, by omega, by omega, fun d H' d0 d1 e g => ?_⟩
    obtain ⟨x, hx⟩ := get_some (xs := xs) (k := d.toNat) (by omega)
    exact ixU_l (e _ _ ne hs) (atI_of d0 hx) (q _ _ _ hx e g)
  · walk_at "x"
    refine lenU_s (by omega) ?_
    walk_at "x"
    refine ⟨b, z.length, n, rfl, hb, hn, by omega, by omega, fun d H' d0 d1 e g => ?_⟩
    have hl : z.cps.toList.length = z.length := by simp [Str.length]
    obtain ⟨x, hx⟩ := get_some (xs := z.cps.toList) (k := d.toNat) (by omega)
    exact ixU_s (by omega) (atI_of d0 hx) (q _ _ (List.mem_of_getElem? hx) e g)
theorem len_lof {K : PySem.W.Frag} : ∀ vs H Q E, sp_lof K vs H Q E → vs.length = 2 := by
  intro vs H Q E h
  unfold sp_lof at h
  repeat (first | (obtain ⟨rfl, _⟩ := h; rfl) | obtain ⟨_, h⟩ := h)
theorem ok_lof {P : Program} {w : World} {K : PySem.W.Frag} {mg : Str → Option Value} {base : Heap} (T : Txt K mg) : Ok P w K mg base 2 (He.ga K "_law_of") ["_law_bag_here", "_law_some"] [] (sp_lof K) :=
  okF T.f_lof sc_lof len_lof (fun _ _ _ _ _ _ us hl => match us, hl with | [_, _], _ => rfl) (d_lof T) (rd_lof T)
def sp_lvalue (K : PySem.W.Frag) : Sp := fun vs H Q _ => ∃ p r : Int, vs = [.int p, .int r] ∧ 0 < r ∧ r.natAbs < 10 ^ 200 ∧ ∀ v H', Same H H' → Jp K H' v (numJ p r) → Q v H'
def t_lvalue (K : PySem.W.Frag) (E : XK) : TS :=
  (tSeq (tPar 2 3 (tCons (tCB mAbs (tCons (tVar 0) tNil)) (tCons (tVar 1) tNil)))
  (tSeq (tWhile (tTest (tOp mGt (tVar 2) (tC (.int 0))))
  (tPar 2 3 (tCons (tOp mMod (tCB mInt (tCons (tVar 3) tNil)) (tVar 2)) (tCons (tVar 2) tNil))))
  (tRet (tIf (tTest (tOp (uEq K) (tVar 1) (tVar 3))) (tOp mDiv (tVar 0) (tVar 3)) (tTup (tCons (tOp mDiv (tVar 0) (tVar 3)) (tCons (tOp mDiv (tVar 1) (tVar 3)) tNil)))))))
theorem d_lvalue {P : Program} {w : World} {K : PySem.W.Frag} {mg : Str → Option Value} {base : Heap} (T : Txt K mg) (f : Addr) (cdv : Value) (A : Around) (outer : List Env) (s : Shared) (H : Hp) (E : XK) (hr : Room 0 (A.deeper (envOfC "_law_value" (defScope s_lvalue) s.heap.objs.size f cdv))) :
    PSs (cxOf (L2N.CX P w) P w K mg base N_lvalue "_law_value" (defScope s_lvalue) f cdv A outer s H E) (defBody s_lvalue) (t_lvalue K E) := by
  unfold t_lvalue
  exact (pss_cons (ps_par (i := 2) (j := 3) rfl sc_lvalue.nd rfl rfl (by decide) rfl rfl (pa_cons (pe_callB call_abs (by rfl) T.n_abs (by decide +kernel) (pa_cons (pv 0) pa_nil)) (pa_cons (pv 1) pa_nil)) (by rfl))
  (pss_cons (ps_while (passes_of rfl) (pt_cmpR op_gt (pv 2) pe_int (nomark _))
  (pss_one (ps_par (i := 2) (j := 3) rfl sc_lvalue.nd rfl rfl (by decide) rfl rfl (pa_cons (pe_op op_mod (pe_callTy call_int1 (by rfl) T.n_int (by decide +kernel) (pa_cons (pv 3) pa_nil)) (pv 2)) (pa_cons (pv 2) pa_nil)) (by rfl))))
  (pss_one (ps_ret (pe_ifExp (pt_cmpR (op_eqU (hu64 hr)) (pv 1) (pv 3) (nomark _)) (pe_op op_fdivW (pv 0) (pv 3)) (pe_tup (pa_cons (pe_op op_fdivW (pv 0) (pv 3)) (pa_cons (pe_op op_fdivW (pv 1) (pv 3)) pa_nil))))))))
theorem rd_lvalue {K : PySem.W.Frag} {mg : Str → Option Value} (T : Txt K mg) : ∀ vs H Q E, sp_lvalue K vs H Q E → t_lvalue K E (Ends.mk (fun _ H' => Q .non H') Q (fun _ _ => False) (fun _ _ => False)) (start N_lvalue vs) H := by
  intro vs H Q E h
  unfold t_lvalue
  obtain ⟨a, b, rfl, h0, h1, q⟩ := h
  walk_at "x"
  refine x_while (fun σ H' => H' = H ∧ ∃ l g : Int, σ = [some (.int a), some (.int b), some (.int l), some (.int g)] ∧ 0 ≤ l ∧ 0 ≤ g ∧ Int.gcd l g = Int.gcd a b) (fun σ _ => match σ with | [_, _, some (.int l), _] => l.toNat | _ => 0) ⟨rfl, (a.natAbs : Int), b, rfl, by omega, by omega, ?_⟩ ?_
  · show Int.gcd (a.natAbs : Int) b = Int.gcd a b
    unfold Int.gcd
    rw [Int.natAbs_natCast]
  rintro σ H1 ⟨rfl, l, g, rfl, hl, hg, e⟩
  walk_at "x"
  refine ite_d (fun h => ?_) (fun h => ?_)
  · refine x_whileN ?_
    walk_at "x"
    refine ⟨⟨rfl, _, _, rfl, Int.emod_nonneg _ (by omega), hl, ?_⟩, ?_⟩
    · rw [← e]
      obtain ⟨m, rfl⟩ := Int.eq_ofNat_of_zero_le hl
      obtain ⟨n, rfl⟩ := Int.eq_ofNat_of_zero_le hg
      show Int.gcd ((n : Int) % (m : Int)) (m : Int) = Int.gcd (m : Int) (n : Int)
      rw [← Int.natCast_emod]
      exact (Nat.gcd_rec m n).symm
    · show (g % l).toNat < l.toNat
      have := Int.emod_lt_of_pos g h
      have := Int.emod_nonneg g (by omega : l ≠ 0)
      omega
  · have e0 : l = 0 := by omega
    subst e0
    have e1 : g = (Int.gcd a b : Int) := by rw [← e]; simp; omega
    clear e hl hg h
    subst e1
    have g0 := gcd_pos (t := a) h0
    have g1 := gcd_lt (t := a) h0 h1
    rw [numJ_pos h0] at q
    walk_at "x"
    refine ite_d (fun c => ?_) (fun c => ?_)
    · rw [if_pos c] at q
      walk_at "x"
      exact q _ _ (Same.refl _) (.int _)
    · rw [if_neg c] at q
      walk_at "xx"
      exact q _ _ (by assumption) (by walk_at "jp")
theorem len_lvalue {K : PySem.W.Frag} : ∀ vs H Q E, sp_lvalue K vs H Q E → vs.length = 2 := by
  intro vs H Q E h
  unfold sp_lvalue at h
  repeat (first | (obtain ⟨rfl, _⟩ := h; rfl) | obtain ⟨_, h⟩ := h)
theorem ok_lvalue {P : Program} {w : World} {K : PySem.W.Frag} {mg : Str → Option Value} {base : Heap} (T : Txt K mg) : Ok P w K mg base 1 (He.ga K "_law_value") ["_law_p", "_law_q"] [] (sp_lvalue K) :=
  okF T.f_lvalue sc_lvalue len_lvalue (fun _ _ _ _ _ _ us hl => match us, hl with | [_, _], _ => rfl) (d_lvalue T) (rd_lvalue T)
def sp_lpair (K : PySem.W.Frag) : Sp := fun vs H Q _ => ∃ x l, vs = [x] ∧ Jp K H x (.tup l) ∧ Q x H
def t_lpair (K : PySem.W.Frag) (E : XK) : TS :=
  (tRet (tIf (tTruth K (tCB (rIsi K) (tCons (tVar 0) (tCons (tC (.ty "tuple")) tNil)))) (tVar 0) (tTup (tCons (tVar 0) (tCons (tC (.int 1)) tNil)))))
theorem d_lpair {P : Program} {w : World} {K : PySem.W.Frag} {mg : Str → Option Value} {base : Heap} (T : Txt K mg) (f : Addr) (cdv : Value) (A : Around) (outer : List Env) (s : Shared) (H : Hp) (E : XK) (hr : Room 0 (A.deeper (envOfC "_law_pair" (defScope s_lpair) s.heap.objs.size f cdv))) :
    PSs (cxOf (L2N.CX P w) P w K mg base N_lpair "_law_pair" (defScope s_lpair) f cdv A outer s H E) (defBody s_lpair) (t_lpair K E) := by
  unfold t_lpair
  exact (pss_one (ps_ret (pe_ifExp (pt_tru (pe_callB call_isi (by rfl) T.n_isinstance (by decide +kernel) (pa_cons (pv 0) (pa_cons (pe_ty T.n_tuple (by decide +kernel)) pa_nil)))) (pv 0) (pe_tup (pa_cons (pv 0) (pa_cons pe_int pa_nil))))))
theorem rd_lpair {K : PySem.W.Frag} {mg : Str → Option Value} (T : Txt K mg) : ∀ vs H Q E, sp_lpair K vs H Q E → t_lpair K E (Ends.mk (fun _ H' => Q .non H') Q (fun _ _ => False) (fun _ _ => False)) (start N_lpair vs) H := by
  intro vs H Q E h
  unfold t_lpair
  obtain ⟨x, l, rfl, hx, q⟩ := h
  walk_at "x"
  exact q
theorem len_lpair {K : PySem.W.Frag} : ∀ vs H Q E, sp_lpair K vs H Q E → vs.length = 1 := by
  intro vs H Q E h
  unfold sp_lpair at h
  repeat (first | (obtain ⟨rfl, _⟩ := h; rfl) | obtain ⟨_, h⟩ := h)
theorem ok_lpair {P : Program} {w : World} {K : PySem.W.Frag} {mg : Str → Option Value} {base : Heap} (T : Txt K mg) : Ok P w K mg base 1 (He.ga K "_law_pair") ["_law_value_here"] [] (sp_lpair K) :=
  okF T.f_lpair sc_lpair len_lpair (fun _ _ _ _ _ _ us hl => match us, hl with | [_], _ => rfl) (d_lpair T) (rd_lpair T)
def sp_lis_int (K : PySem.W.Frag) : Sp := fun vs H Q _ => ∃ x d, vs = [x] ∧ Jp K H x d ∧ Q (.bl (isInt d)) H
def t_lis_int (K : PySem.W.Frag) (E : XK) : TS :=
  (tRet (tAndV (tCB (rIsi K) (tCons (tVar 0) (tCons (tC (.ty "int")) tNil))) (tNotV (tCB (rIsi K) (tCons (tVar 0) (tCons (tC (.ty "bool")) tNil))))))
theorem d_lis_int {P : Program} {w : World} {K : PySem.W.Frag} {mg : Str → Option Value} {base : Heap} (T : Txt K mg) (f : Addr) (cdv : Value) (A : Around) (outer : List Env) (s : Shared) (H : Hp) (E : XK) (hr : Room 0 (A.deeper (envOfC "_law_is_int" (defScope s_lis_int) s.heap.objs.size f cdv))) :
    PSs (cxOf (L2N.CX P w) P w K mg base N_lis_int "_law_is_int" (defScope s_lis_int) f cdv A outer s H E) (defBody s_lis_int) (t_lis_int K E) := by
  unfold t_lis_int
  exact (pss_one (ps_ret (pe_and (pe_callB call_isi (by rfl) T.n_isinstance (by decide +kernel) (pa_cons (pv 0) (pa_cons (pe_ty T.n_int (by decide +kernel)) pa_nil))) (pe_one (pe_not (pe_callB call_isi (by rfl) T.n_isinstance (by decide +kernel) (pa_cons (pv 0) (pa_cons (pe_ty T.n_bool (by decide +kernel)) pa_nil))))))))
theorem rd_lis_int {K : PySem.W.Frag} {mg : Str → Option Value} (T : Txt K mg) : ∀ vs H Q E, sp_lis_int K vs H Q E → t_lis_int K E (Ends.mk (fun _ H' => Q .non H') Q (fun _ _ => False) (fun _ _ => False)) (start N_lis_int vs) H := by
  intro vs H Q E h
  unfold t_lis_int
  obtain ⟨x, d, rfl, hd, q⟩ := h
  walk_at "x"
  have e := isT_int d
  revert e
  cases isT d.ty "int" with
  | true =>
    intro e
    walk_at "x"
    rw [← e] at q
    exact q
  | false =>
    intro e
    walk_at "x"
    rw [← e] at q
    exact q
theorem len_lis_int {K : PySem.W.Frag} : ∀ vs H Q E, sp_lis_int K vs H Q E → vs.length = 1 := by
  intro vs H Q E h
  unfold sp_lis_int at h
  repeat (first | (obtain ⟨rfl, _⟩ := h; rfl) | obtain ⟨_, h⟩ := h)
theorem ok_lis_int {P : Program} {w : World} {K : PySem.W.Frag} {mg : Str → Option Value} {base : Heap} (T : Txt K mg) : Ok P w K mg base 1 (He.ga K "_law_is_int") ["_law_thing"] [] (sp_lis_int K) :=
  okF T.f_lis_int sc_lis_int len_lis_int (fun _ _ _ _ _ _ us hl => match us, hl with | [_], _ => rfl) (d_lis_int T) (rd_lis_int T)
theorem okH_lis_int {P : Program} {w : World} {K : PySem.W.Frag} {mg : Str → Option Value} {base : Heap} (T : Txt K mg) : OkH P w K mg base 1 (He.ga K "_law_is_int") ["_law_thing"] (sp_lis_int K) := by
  obtain ⟨fd, F⟩ := T.f_lis_int
  refine okH_of (k := 0) F sc_lis_int len_lis_int (F.bindsN (fun _ _ _ _ _ _ us hl => match us, hl with | [_], _ => rfl)) fun cdv A outer s H vs Q E p hot hr h => ⟨t_lis_int K E, ?_, rd_lis_int T vs H Q E h⟩
  unfold t_lis_int
  exact (pss_one (ps_ret (pe_and (pe_callB call_isi (by rfl) T.n_isinstance (by decide +kernel) (pa_cons (pv 0) (pa_cons (pe_ty T.n_int (by decide +kernel)) pa_nil))) (pe_one (pe_not (pe_callB call_isi (by rfl) T.n_isinstance (by decide +kernel) (pa_cons (pv 0) (pa_cons (pe_ty T.n_bool (by decide +kernel)) pa_nil))))))))
/-- an int, or a tuple of two -/
def numLike (d : J) : Prop := (∃ i, d = .int i) ∨ ∃ p q, d = .tup [.int p, .int q]
theorem numJ_like (t b : Int) : numLike (numJ t b) := by
  unfold numJ
  split
  · exact .inl ⟨_, rfl⟩
  · exact .inr ⟨_, _, rfl⟩
def sp_lsame (K : PySem.W.Frag) : Sp := fun vs H Q _ => ∃ x y d, vs = [x, y] ∧ Jp K H x d ∧ Jp K H y d ∧ numLike d ∧ Q (.bl true) H
def t_lsame (K : PySem.W.Frag) (E : XK) : TS :=
  (tSeq (tIfS (tNot (tTruth K (tCB (rIsi K) (tCons (tVar 1) (tCons (tC (.ty "tuple")) tNil)))))
  (tRet (tAndV (tCall (sp_lis_int K) [] E0 (tCons (tVar 0) tNil)) (tOp (uEq K) (tVar 0) (tVar 1))))
  tNext)
  (tSeq (tIfS (tOr (tNot (tTruth K (tCB (rIsi K) (tCons (tVar 0) (tCons (tC (.ty "tuple")) tNil))))) (tTest (tOp (uNe K) (tCB (uLen K) (tCons (tVar 0) tNil)) (tC (.int 2)))))
  (tRet (tC (.bl false)))
  tNext)
  (tRet (tAndV (tCall (sp_lis_int K) [] E0 (tCons (tOp (uIx K) (tVar 0) (tC (.int 0))) tNil)) (tAndV (tCall (sp_lis_int K) [] E0 (tCons (tOp (uIx K) (tVar 0) (tC (.int 1))) tNil)) (tOp (uEq K) (tVar 0) (tVar 1)))))))
theorem d_lsame {P : Program} {w : World} {K : PySem.W.Frag} {mg : Str → Option Value} {base : Heap} (T : Txt K mg) (f : Addr) (cdv : Value) (A : Around) (outer : List Env) (s : Shared) (H : Hp) (E : XK) (hr : Room 1 (A.deeper (envOfC "_law_same" (defScope s_lsame) s.heap.objs.size f cdv))) :
    PSs (cxOf (L2N.CX P w) P w K mg base N_lsame "_law_same" (defScope s_lsame) f cdv A outer s H E) (defBody s_lsame) (t_lsame K E) := by
  unfold t_lsame
  exact (pss_cons (ps_if (pt_not (pt_tru (pe_callB call_isi (by rfl) T.n_isinstance (by decide +kernel) (pa_cons (pv 1) (pa_cons (pe_ty T.n_tuple (by decide +kernel)) pa_nil)))))
  (pss_one (ps_ret (pe_and (pe_c (ok_lis_int T) hr (by decide) T.g__law_is_int passN0 (pa_cons (pv 0) pa_nil)) (pe_one (pe_cmpR (op_eqU (hu64 hr)) (pv 0) (pv 1) (nomark _))))))
  pss_nil)
  (pss_cons (ps_if (PW.pt (pw_or (pt_not (pt_tru (pe_callB call_isi (by rfl) T.n_isinstance (by decide +kernel) (pa_cons (pv 0) (pa_cons (pe_ty T.n_tuple (by decide +kernel)) pa_nil))))) (pw_or1 (pt_cmpR (op_neU (hu64 hr)) (pe_callB call_lenU (by rfl) T.n_len (by decide +kernel) (pa_cons (pv 0) pa_nil)) pe_int (nomark _)))))
  (pss_one (ps_ret pe_bl))
  pss_nil)
  (pss_one (ps_ret (pe_and (pe_c (ok_lis_int T) hr (by decide) T.g__law_is_int passN0 (pa_cons (pe_ix ix_U (pv 0) pe_int (fun _ _ => rfl)) pa_nil)) (pe_and (pe_c (ok_lis_int T) hr (by decide) T.g__law_is_int passN0 (pa_cons (pe_ix ix_U (pv 0) pe_int (fun _ _ => rfl)) pa_nil)) (pe_one (pe_cmpR (op_eqU (hu64 hr)) (pv 0) (pv 1) (nomark _)))))))))
theorem eqJ_two (p q : Int) : eqJ (.tup [.int p, .int q]) (.tup [.int p, .int q]) = true := by
  simp [eqJ, J.py, J.pys, PyData.eqv, PyData.eqvAll]
theorem rd_lsame {K : PySem.W.Frag} {mg : Str → Option Value} (T : Txt K mg) : ∀ vs H Q E, sp_lsame K vs H Q E → t_lsame K E (Ends.mk (fun _ H' => Q .non H') Q (fun _ _ => False) (fun _ _ => False)) (start N_lsame vs) H := by
  intro vs H Q E h
  unfold t_lsame
  obtain ⟨x, y, d, rfl, hx, hy, hd, q⟩ := h
  rcases hd with ⟨i, rfl⟩ | ⟨p, r, rfl⟩
  · cases hx
    cases hy
    walk_at "x"
    refine ⟨_, _, rfl, .int _, ?_⟩
    walk_at "x"
    rw [decide_eq_true rfl]
    exact q
  · cases hx with
    | tup hs hr =>
    rename_i a xs
    cases hr with
    | cons h1 hr =>
    cases hr with
    | cons h2 hr =>
    cases hr
    cases h1
    cases h2
    walk_at "x"
    refine ⟨_, _, rfl, .int _, ?_⟩
    walk_at "x"
    refine ⟨_, _, rfl, .int _, ?_⟩
    walk_at "x"
    refine eqU_J (.tup hs (.cons (.int _) (.cons (.int _) .nil))) hy ?_ (by rfl) (by rfl)
    rw [eqJ_two]
    exact q
theorem len_lsame {K : PySem.W.Frag} : ∀ vs H Q E, sp_lsame K vs H Q E → vs.length = 2 := by
  intro vs H Q E h
  unfold sp_lsame at h
  repeat (first | (obtain ⟨rfl, _⟩ := h; rfl) | obtain ⟨_, h⟩ := h)
theorem ok_lsame {P : Program} {w : World} {K : PySem.W.Frag} {mg : Str → Option Value} {base : Heap} (T : Txt K mg) : Ok P w K mg base 2 (He.ga K "_law_same") ["_law_actual", "_law_due"] [] (sp_lsame K) :=
  okF T.f_lsame sc_lsame len_lsame (fun _ _ _ _ _ _ us hl => match us, hl with | [_, _], _ => rfl) (d_lsame T) (rd_lsame T)
def sp_lbad (K : PySem.W.Frag) : Sp := fun vs H Q _ => ∃ p r : Int, vs = [.int p, .int r] ∧ 2 ≤ r ∧ p.natAbs < 10 ^ 100 ∧ r.natAbs < 10 ^ 100 ∧
  ∀ a xs H', Same H H' → H' a = some (.lst xs) → (∀ x ∈ xs, ∃ d, Jp K H' x d ∧ isNum d = false) → Q (.ref a) H'
def t_lbad (K : PySem.W.Frag) (E : XK) : TS :=
  (tSeq (tAsg (tLst (tCons (tTup (tCons (tOp (uMul K) (tVar 0) (tC (.int 2))) (tCons (tOp (uMul K) (tVar 1) (tC (.int 2))) tNil))) (tCons (tTup (tCons (tVar 0) (tCons (tC (.int 1)) tNil))) (tCons (tTup (tCons (tVar 0) (tCons (tUn mNeg (tVar 1)) tNil))) (tCons (tTup (tCons (tC (.bl true)) (tCons (tC (.int 2)) tNil))) (tCons (tTup (tCons (tVar 0) (tCons (tC (.bl true)) tNil))) (tCons (tC (.bl true)) (tCons (tC (.bl false)) (tCons (tC .non) (tCons (tCB uStr (tCons (tVar 0) tNil)) (tCons (tLst (tCons (tVar 0) (tCons (tVar 1) tNil))) (tCons (tTup (tCons (tVar 0) (tCons (tVar 1) (tCons (tC (.int 1)) tNil)))) tNil)))))))))))) (gName 2))
  (tRet (tOp (uAdd K) (tVar 2) (tLst (tCons (tTup (tCons (tVar 0) tNil)) (tCons (tTup tNil) (tCons (tTup (tCons (tCB uStr (tCons (tVar 0) tNil)) (tCons (tVar 1) tNil))) (tCons (tTup (tCons (tC (.int 0)) (tCons (tVar 1) tNil))) (tCons (tTup (tCons (tVar 0) (tCons (tC .non) tNil))) (tCons tDNewK tNil))))))))))
theorem d_lbad {P : Program} {w : World} {K : PySem.W.Frag} {mg : Str → Option Value} {base : Heap} (T : Txt K mg) (f : Addr) (cdv : Value) (A : Around) (outer : List Env) (s : Shared) (H : Hp) (E : XK) (hr : Room 0 (A.deeper (envOfC "_law_bad" (defScope s_lbad) s.heap.objs.size f cdv))) :
    PSs (cxOf (L2N.CX P w) P w K mg base N_lbad "_law_bad" (defScope s_lbad) f cdv A outer s H E) (defBody s_lbad) (t_lbad K E) := by
  unfold t_lbad
  exact (pss_cons (ps_set (i := 2) sc_lbad.nd rfl (Or.inl rfl) (pe_lst (pa_cons (pe_tup (pa_cons (pe_op op_mulU (pv 0) pe_int) (pa_cons (pe_op op_mulU (pv 1) pe_int) pa_nil))) (pa_cons (pe_tup (pa_cons (pv 0) (pa_cons pe_int pa_nil))) (pa_cons (pe_tup (pa_cons (pv 0) (pa_cons (pe_un un_neg (pv 1)) pa_nil))) (pa_cons (pe_tup (pa_cons pe_bl (pa_cons pe_int pa_nil))) (pa_cons (pe_tup (pa_cons (pv 0) (pa_cons pe_bl pa_nil))) (pa_cons pe_bl (pa_cons pe_bl (pa_cons pe_non (pa_cons (pe_callTy call_strU (by rfl) T.n_str (by decide +kernel) (pa_cons (pv 0) pa_nil)) (pa_cons (pe_lst (pa_cons (pv 0) (pa_cons (pv 1) pa_nil))) (pa_cons (pe_tup (pa_cons (pv 0) (pa_cons (pv 1) (pa_cons pe_int pa_nil)))) pa_nil)))))))))))))
  (pss_one (ps_ret (pe_op op_addU (pv 2) (pe_lst (pa_cons (pe_tup (pa_cons (pv 0) pa_nil)) (pa_cons (pe_tup pa_nil) (pa_cons (pe_tup (pa_cons (pe_callTy call_strU (by rfl) T.n_str (by decide +kernel) (pa_cons (pv 0) pa_nil)) (pa_cons (pv 1) pa_nil))) (pa_cons (pe_tup (pa_cons pe_int (pa_cons (pv 1) pa_nil))) (pa_cons (pe_tup (pa_cons (pv 0) (pa_cons pe_non pa_nil))) (pa_cons pe_dnewK pa_nil)))))))))))
theorem bad_twice (p r : Int) : isNum (.tup [.int (p * 2), .int (r * 2)]) = false := by
  show (decide (2 ≤ r * 2) && decide (Int.gcd (p * 2) (r * 2) = 1)) = false
  rw [Int.gcd_mul_right]
  rw [Bool.and_eq_false_iff]
  right
  refine decide_eq_false ?_
  have : Int.natAbs 2 = 2 := rfl
  rw [this]
  omega
theorem bad_neg {p r : Int} (h : 2 ≤ r) : isNum (.tup [.int p, .int (-r)]) = false := by
  show (decide (2 ≤ -r) && _) = false
  rw [decide_eq_false (by omega), Bool.false_and]
theorem bad_nought {r : Int} (h : 2 ≤ r) : isNum (.tup [.int 0, .int r]) = false := by
  show (decide (2 ≤ r) && decide (Int.gcd 0 r = 1)) = false
  rw [Bool.and_eq_false_iff]
  right
  refine decide_eq_false ?_
  rw [Int.zero_gcd]
  omega
theorem all_nil {α : Type} {P : α → Prop} : ∀ x ∈ ([] : List α), P x := fun _ h => nomatch h
theorem all_cons {α : Type} {P : α → Prop} {a : α} {l : List α} (h : P a) (r : ∀ x ∈ l, P x) : ∀ x ∈ a :: l, P x := fun x m => by
  rcases List.mem_cons.mp m with e | m
  · rw [e]; exact h
  · exact r x m
theorem bad_of {K : PySem.W.Frag} {H : Hp} {x : V} {d : J} (h : Jp K H x d) (n : isNum d = false) : ∃ d, Jp K H x d ∧ isNum d = false := ⟨d, h, n⟩
theorem dct_new {K : PySem.W.Frag} {H : Hp} {a : Addr} (h : H a = some (.dK [])) : Jp K H (.ref a) (.dct []) := .dct h .nil
theorem rd_lbad {K : PySem.W.Frag} {mg : Str → Option Value} (T : Txt K mg) : ∀ vs H Q E, sp_lbad K vs H Q E → t_lbad K E (Ends.mk (fun _ H' => Q .non H') Q (fun _ _ => False) (fun _ _ => False)) (start N_lbad vs) H := by
  intro vs H Q E h
  unfold t_lbad
  obtain ⟨p, r, rfl, hr, h1, h2, q⟩ := h
  walk_at "xx"
  refine q _ _ _ (by walk_at "same") (by assumption) ?_
  simp only [List.cons_append, List.nil_append]
  repeat refine all_cons (bad_of (by walk_at "jp") (by first | rfl | exact bad_twice _ _ | exact bad_neg hr | exact bad_nought hr)) ?_
  exact all_nil
theorem len_lbad {K : PySem.W.Frag} : ∀ vs H Q E, sp_lbad K vs H Q E → vs.length = 2 := by
  intro vs H Q E h
  unfold sp_lbad at h
  repeat (first | (obtain ⟨rfl, _⟩ := h; rfl) | obtain ⟨_, h⟩ := h)
theorem ok_lbad {P : Program} {w : World} {K : PySem.W.Frag} {mg : Str → Option Value} {base : Heap} (T : Txt K mg) : Ok P w K mg base 1 (He.ga K "_law_bad") ["_law_p", "_law_q"] [] (sp_lbad K) :=
  okF T.f_lbad sc_lbad len_lbad (fun _ _ _ _ _ _ us hl => match us, hl with | [_, _], _ => rfl) (d_lbad T) (rd_lbad T)
def sp_lzero (K : PySem.W.Frag) : Sp := fun vs H Q _ => ∃ p : Int, vs = [.int p] ∧ ∀ H', Same H H' → Q (.bl true) H'
def t_lzero (K : PySem.W.Frag) (E : XK) : TS :=
  (tSeq (tTry K (.ref (He.ga K "BadNumber")) 1 (fun W => (tDrop (tCallS (sp_number K) (WE W) (tCons (tVar 0) (tCons (tC (.int 0)) tNil))))) (fun a cls d => (tRet (tAndV (tCallS (sp_lis_int K) (fun _ => E0) (tCons (tXf a cls d (He.ga K "BadNumber") "thing" (tVar 1)) tNil)) (tAndV (tOp (uEq K) (tXf a cls d (He.ga K "BadNumber") "thing" (tVar 1)) (tC (.int 0))) (tAndV (tCB (rIsX K a cls d) (tCons (tVar 1) (tCons (tC (.ref (He.ga K "MendroundsError"))) tNil))) (tCB (rIsX K a cls d) (tCons (tVar 1) (tCons (tC (.ty "ValueError")) tNil)))))))))
  (tRet (tC (.bl false))))
theorem d_lzero {P : Program} {w : World} {K : PySem.W.Frag} {mg : Str → Option Value} {base : Heap} (T : Txt K mg) (f : Addr) (cdv : Value) (A : Around) (outer : List Env) (s : Shared) (H : Hp) (E : XK) (hr : Room 3 (A.deeper (envOfC "_law_zero" (defScope s_lzero) s.heap.objs.size f cdv))) :
    PSs (cxOf (L2N.CX P w) P w K mg base N_lzero "_law_zero" (defScope s_lzero) f cdv A outer s H E) (defBody s_lzero) (t_lzero K E) := by
  unfold t_lzero
  exact (pss_cons (L2N.ps_try_as (i := 1) (c := (.ref (He.ga K "BadNumber"))) (tb := fun W => (tDrop (tCallS (sp_number K) (WE W) (tCons (tVar 0) (tCons (tC (.int 0)) tNil))))) (ts := fun a cls d => (tRet (tAndV (tCallS (sp_lis_int K) (fun _ => E0) (tCons (tXf a cls d (He.ga K "BadNumber") "thing" (tVar 1)) tNil)) (tAndV (tOp (uEq K) (tXf a cls d (He.ga K "BadNumber") "thing" (tVar 1)) (tC (.int 0))) (tAndV (tCB (rIsX K a cls d) (tCons (tVar 1) (tCons (tC (.ref (He.ga K "MendroundsError"))) tNil))) (tCB (rIsX K a cls d) (tCons (tVar 1) (tCons (tC (.ty "ValueError")) tNil)))))))) (Wout := fun _ _ _ _ => False) rfl rfl sc_lzero.nd rfl rfl ⟨rfl, by decide, Or.inl T.g_BadNumber⟩ takesN0 (fun W pn xe tk ps => (pss_one (ps_expr (pe_cS (ok_number T) hr (by decide) T.g_number tk (pa_cons (pv 0) (pa_cons pe_int pa_nil)))))) (fun a oe cls d pn hz hf => (pss_one (ps_ret (pe_and (pe_cH (okH_lis_int T) hr (by decide) (hot_of hz hf) T.g__law_is_int (pa_cons (pe_xf T.e_BadNumber.xf T.e_BadNumber.nf (L2N.Zn.zc hz) hf (pv 1)) pa_nil)) (pe_and (pe_cmpR (op_eqU (hu64M hr)) (pe_xf T.e_BadNumber.xf T.e_BadNumber.nf (L2N.Zn.zc hz) hf (pv 1)) pe_int (nomark _)) (pe_and (pe_callB (call_isX hz hf) (by rfl) T.n_isinstance (by decide +kernel) (pa_cons (pv 1) (pa_cons (pe_gref T.g_MendroundsError) pa_nil))) (pe_one (pe_callB (call_isX hz hf) (by rfl) T.n_isinstance (by decide +kernel) (pa_cons (pv 1) (pa_cons (pe_ty T.n_ValueError (by decide +kernel)) pa_nil)))))))))))
  (pss_one (ps_ret pe_bl)))
theorem rd_lzero {K : PySem.W.Frag} {mg : Str → Option Value} (T : Txt K mg) : ∀ vs H Q E, sp_lzero K vs H Q E → t_lzero K E (Ends.mk (fun _ H' => Q .non H') Q (fun _ _ => False) (fun _ _ => False)) (start N_lzero vs) H := by
  intro vs H Q E h
  unfold t_lzero
  obtain ⟨p, rfl, q⟩ := h
  walk_at "x"
  refine ⟨p, 0, rfl, by decide, fun _ d H2 hd hs he => ?_, fun h => absurd rfl h⟩
  refine x_WE (x_caught T.e_BadNumber.te fun a ha => ?_)
  walk_at "x"
  refine ⟨_, _, rfl, .int _, ?_⟩
  walk_at "x"
  refine x_isX T.e_BadNumber he (.own _) T.kM ?_
  walk_at "x"
  refine x_isX T.e_BadNumber he (.ty _) T.kV ?_
  exact q _ hs
theorem len_lzero {K : PySem.W.Frag} : ∀ vs H Q E, sp_lzero K vs H Q E → vs.length = 1 := by
  intro vs H Q E h
  unfold sp_lzero at h
  repeat (first | (obtain ⟨rfl, _⟩ := h; rfl) | obtain ⟨_, h⟩ := h)
theorem ok_lzero {P : Program} {w : World} {K : PySem.W.Frag} {mg : Str → Option Value} {base : Heap} (T : Txt K mg) : Ok P w K mg base 4 (He.ga K "_law_zero") ["_law_upper"] [] (sp_lzero K) :=
  okF T.f_lzero sc_lzero len_lzero (fun _ _ _ _ _ _ us hl => match us, hl with | [_], _ => rfl) (d_lzero T) (rd_lzero T)
/-- the script's ints -/
def sp_law (K : PySem.W.Frag) : Sp := fun vs H Q _ => ∃ (a : Addr) (ns : List Int), vs = [.ref a] ∧ SqL K H a (ns.map V.int) ∧ ns.length ≤ 63 ∧ ∀ H', Q (.bl true) H'
def t_law (K : PySem.W.Frag) (E : XK) : TS :=
  (tSeq (tFor (iRng1 (tCons (tCB mMax2 (tCons (tC (.int 1)) (tCons (tCB mMin2 (tCons (tC (.int 6)) (tCons (tCB (uLen K) (tCons (tVar 0) tNil)) tNil))) tNil))) tNil)) (gName 1)
  (tSeq (tAsg (tCall (sp_lbag K) [] E0 (tCons (tVar 0) (tCons (tVar 1) tNil))) (gName 2))
  (tSeq (tAsg (tCall (sp_lof K) [] E0 (tCons (tVar 2) (tCons (tLst (tCons (tC (.int 9)) (tCons (tOp mPow (tC (.int 10)) (tC (.int 20))) (tCons (tOp mPow (tC (.int 10)) (tC (.int 40))) tNil)))) tNil))) (gName 3))
  (tSeq (tPar 4 5 (tCons (tOp mSub (tCall (sp_ltake K) [] E0 (tCons (tVar 2) (tCons (tOp (uAdd K) (tOp (uMul K) (tC (.int 2)) (tVar 3)) (tC (.int 1))) tNil))) (tVar 3)) (tCons (tOp (uAdd K) (tC (.int 1)) (tCall (sp_ltake K) [] E0 (tCons (tVar 2) (tCons (tCall (sp_lof K) [] E0 (tCons (tVar 2) (tCons (tLst (tCons (tC (.int 4)) (tCons (tOp mPow (tC (.int 10)) (tC (.int 12))) tNil))) tNil))) tNil)))) tNil)))
  (tSeq (tPar 6 7 (tCons (tCall (sp_lvalue K) [] E0 (tCons (tVar 4) (tCons (tVar 5) tNil))) (tCons (tOp (uAdd K) (tC (.int 1)) (tCall (sp_ltake K) [] E0 (tCons (tVar 2) (tCons (tC (.int 1000)) tNil)))) tNil)))
  (tSeq (tIfS (tOr (tNot (tTruth K (tCall (sp_lsame K) [] E0 (tCons (tCall (sp_number K) [] E0 (tCons (tOp (uMul K) (tVar 4) (tVar 7)) (tCons (tOp (uMul K) (tVar 5) (tVar 7)) tNil))) (tCons (tVar 6) tNil))))) (tNot (tTruth K (tCall (sp_lsame K) [] E0 (tCons (tCall (sp_number K) [] E0 (tCons (tVar 4) (tCons (tVar 5) tNil))) (tCons (tVar 6) tNil))))))
  (tRet (tC (.bl false)))
  tNext)
  (tSeq (tIfS (tOr (tNot (tTruth K (tCall (sp_lsame K) [] E0 (tCons (tCall (sp_number K) [] E0 (tCons (tOp (uMul K) (tUn mNeg (tVar 4)) (tVar 7)) (tCons (tOp (uMul K) (tUn mNeg (tVar 5)) (tVar 7)) tNil))) (tCons (tVar 6) tNil))))) (tNot (tTruth K (tCall (sp_lsame K) [] E0 (tCons (tCall (sp_number K) [.int 1] E0 (tCons (tVar 4) tNil)) (tCons (tVar 4) tNil))))))
  (tRet (tC (.bl false)))
  tNext)
  (tSeq (tIfS (tOr (tNot (tTruth K (tCall (sp_lsame K) [] E0 (tCons (tKw0 2 (sp_number K) (fun vs zs => ([1, 0] : List Nat).map fun i => (vs ++ zs ++ [V.int 1]).getD i .non) E0 (tCons (tUn mNeg (tVar 5)) (tCons (tVar 4) tNil))) (tCons (tCall (sp_lvalue K) [] E0 (tCons (tUn mNeg (tVar 4)) (tCons (tVar 5) tNil))) tNil))))) (tTest (tOp rNotB (tCall (sp_is_number K) [] E0 (tCons (tVar 6) tNil)) (tC (.bl true)))))
  (tRet (tC (.bl false)))
  tNext)
  (tSeq (tAsg (tCall (sp_lpair K) [] E0 (tCons (tCall (sp_lvalue K) [] E0 (tCons (tOp (uAdd K) (tOp (uMul K) (tC (.int 2)) (tVar 4)) (tC (.int 1))) (tCons (tOp (uMul K) (tC (.int 2)) (tVar 5)) tNil))) tNil)) (gTup K 2 (gCons (gName 8) (gCons (gName 9) gNil))))
  (tSeq (tIfS (tOr (tTest (tOp rNotB (tCall (sp_is_number K) [] E0 (tCons (tTup (tCons (tVar 8) (tCons (tVar 9) tNil))) tNil)) (tC (.bl true)))) (tOr (tTest (tOp rNotB (tCall (sp_is_number K) [] E0 (tCons (tVar 4) tNil)) (tC (.bl true)))) (tNot (tTruth K (tCall (sp_lzero K) [] E0 (tCons (tVar 4) tNil))))))
  (tRet (tC (.bl false)))
  tNext)
  (tFor (iList K (tCall (sp_lbad K) [] E0 (tCons (tVar 8) (tCons (tVar 9) tNil)))) (gName 10)
  (tIfS (tTest (tOp rNotB (tCall (sp_is_number K) [] E0 (tCons (tVar 10) tNil)) (tC (.bl false))))
  (tRet (tC (.bl false)))
  tNext))))))))))))
  (tRet (tC (.bl true))))
theorem d_law {P : Program} {w : World} {K : PySem.W.Frag} {mg : Str → Option Value} {base : Heap} (T : Txt K mg) (f : Addr) (cdv : Value) (A : Around) (outer : List Env) (s : Shared) (H : Hp) (E : XK) (hr : Room 4 (A.deeper (envOfC "law" (defScope s_law) s.heap.objs.size f cdv))) :
    PSs (cxOf (L2N.CX P w) P w K mg base N_law "law" (defScope s_law) f cdv A outer s H E) (defBody s_law) (t_law K E) := by
  unfold t_law
  exact (pss_cons (ps_for (passes_of rfl) rfl (pi_range1 (by rfl) T.n_range (pa_cons (pe_callB (call_max2 rfl) (by rfl) T.n_max (by decide +kernel) (pa_cons pe_int (pa_cons (pe_callB (call_min2 rfl) (by rfl) T.n_min (by decide +kernel) (pa_cons pe_int (pa_cons (pe_callB call_lenU (by rfl) T.n_len (by decide +kernel) (pa_cons (pv 0) pa_nil)) pa_nil))) pa_nil))) pa_nil)) (pg_name (i := 1) sc_law.nd rfl (Or.inl rfl))
  (pss_cons (ps_set (i := 2) sc_law.nd rfl (Or.inl rfl) (pe_c (ok_lbag T) hr (by decide) T.g__law_bag passN0 (pa_cons (pv 0) (pa_cons (pv 1) pa_nil))))
  (pss_cons (ps_set (i := 3) sc_law.nd rfl (Or.inl rfl) (pe_c (ok_lof T) hr (by decide) T.g__law_of passN0 (pa_cons (pv 2) (pa_cons (pe_lst (pa_cons pe_int (pa_cons (pe_op op_pow pe_int pe_int) (pa_cons (pe_op op_pow pe_int pe_int) pa_nil)))) pa_nil))))
  (pss_cons (ps_par (i := 4) (j := 5) rfl sc_law.nd rfl rfl (by decide) rfl rfl (pa_cons (pe_op op_sub (pe_c (ok_ltake T) hr (by decide) T.g__law_take passN0 (pa_cons (pv 2) (pa_cons (pe_op op_addU (pe_op op_mulU pe_int (pv 3)) pe_int) pa_nil))) (pv 3)) (pa_cons (pe_op op_addU pe_int (pe_c (ok_ltake T) hr (by decide) T.g__law_take passN0 (pa_cons (pv 2) (pa_cons (pe_c (ok_lof T) hr (by decide) T.g__law_of passN0 (pa_cons (pv 2) (pa_cons (pe_lst (pa_cons pe_int (pa_cons (pe_op op_pow pe_int pe_int) pa_nil))) pa_nil))) pa_nil)))) pa_nil)) (by rfl))
  (pss_cons (ps_par (i := 6) (j := 7) rfl sc_law.nd rfl rfl (by decide) rfl rfl (pa_cons (pe_c (ok_lvalue T) hr (by decide) T.g__law_value passN0 (pa_cons (pv 4) (pa_cons (pv 5) pa_nil))) (pa_cons (pe_op op_addU pe_int (pe_c (ok_ltake T) hr (by decide) T.g__law_take passN0 (pa_cons (pv 2) (pa_cons pe_int pa_nil)))) pa_nil)) (by rfl))
  (pss_cons (ps_if (PW.pt (pw_or (pt_not (pt_tru (pe_c (ok_lsame T) hr (by decide) T.g__law_same passN0 (pa_cons (pe_c (ok_number T) hr (by decide) T.g_number passN0 (pa_cons (pe_op op_mulU (pv 4) (pv 7)) (pa_cons (pe_op op_mulU (pv 5) (pv 7)) pa_nil))) (pa_cons (pv 6) pa_nil))))) (pw_or1 (pt_not (pt_tru (pe_c (ok_lsame T) hr (by decide) T.g__law_same passN0 (pa_cons (pe_c (ok_number T) hr (by decide) T.g_number passN0 (pa_cons (pv 4) (pa_cons (pv 5) pa_nil))) (pa_cons (pv 6) pa_nil))))))))
  (pss_one (ps_ret pe_bl))
  pss_nil)
  (pss_cons (ps_if (PW.pt (pw_or (pt_not (pt_tru (pe_c (ok_lsame T) hr (by decide) T.g__law_same passN0 (pa_cons (pe_c (ok_number T) hr (by decide) T.g_number passN0 (pa_cons (pe_op op_mulU (pe_un un_neg (pv 4)) (pv 7)) (pa_cons (pe_op op_mulU (pe_un un_neg (pv 5)) (pv 7)) pa_nil))) (pa_cons (pv 6) pa_nil))))) (pw_or1 (pt_not (pt_tru (pe_c (ok_lsame T) hr (by decide) T.g__law_same passN0 (pa_cons (pe_c (ok_number_1 T) hr (by decide) T.g_number passN0 (pa_cons (pv 4) pa_nil)) (pa_cons (pv 4) pa_nil))))))))
  (pss_one (ps_ret pe_bl))
  pss_nil)
  (pss_cons (ps_if (PW.pt (pw_or (pt_not (pt_tru (pe_c (ok_lsame T) hr (by decide) T.g__law_same passN0 (pa_cons (pe_kw0 (okK_number_0_bottom_top T) hr (by decide) T.g_number passN0 (pk_cons (pe_un un_neg (pv 5)) (pk_cons (pv 4) pk_nil))) (pa_cons (pe_c (ok_lvalue T) hr (by decide) T.g__law_value passN0 (pa_cons (pe_un un_neg (pv 4)) (pa_cons (pv 5) pa_nil))) pa_nil))))) (pw_or1 (pt_cmpR op_notBl (pe_c (ok_is_number T) hr (by decide) T.g_is_number passN0 (pa_cons (pv 6) pa_nil)) pe_bl (nomark _)))))
  (pss_one (ps_ret pe_bl))
  pss_nil)
  (pss_cons (ps_asg (pe_c (ok_lpair T) hr (by decide) T.g__law_pair passN0 (pa_cons (pe_c (ok_lvalue T) hr (by decide) T.g__law_value passN0 (pa_cons (pe_op op_addU (pe_op op_mulU pe_int (pv 4)) pe_int) (pa_cons (pe_op op_mulU pe_int (pv 5)) pa_nil))) pa_nil)) (pg_tup rfl (pgs_cons (pg_name (i := 8) sc_law.nd rfl (Or.inl rfl)) (pgs_cons (pg_name (i := 9) sc_law.nd rfl (Or.inl rfl)) pgs_nil))))
  (pss_cons (ps_if (PW.pt (pw_or (pt_cmpR op_notBl (pe_c (ok_is_number T) hr (by decide) T.g_is_number passN0 (pa_cons (pe_tup (pa_cons (pv 8) (pa_cons (pv 9) pa_nil))) pa_nil)) pe_bl (nomark _)) (pw_or (pt_cmpR op_notBl (pe_c (ok_is_number T) hr (by decide) T.g_is_number passN0 (pa_cons (pv 4) pa_nil)) pe_bl (nomark _)) (pw_or1 (pt_not (pt_tru (pe_c (ok_lzero T) hr (by decide) T.g__law_zero passN0 (pa_cons (pv 4) pa_nil))))))))
  (pss_one (ps_ret pe_bl))
  pss_nil)
  (pss_one (ps_for (passes_of rfl) rfl (pi_list (pe_c (ok_lbad T) hr (by decide) T.g__law_bad passN0 (pa_cons (pv 8) (pa_cons (pv 9) pa_nil)))) (pg_name (i := 10) sc_law.nd rfl (Or.inl rfl))
  (pss_one (ps_if (pt_cmpR op_notBl (pe_c (ok_is_number T) hr (by decide) T.g_is_number passN0 (pa_cons (pv 10) pa_nil)) pe_bl (nomark _))
  (pss_one (ps_ret pe_bl))
  pss_nil))))))))))))))
  (pss_one (ps_ret pe_bl)))
theorem numJ_mul {u l c : Int} (hl : 0 < l) (hc : 0 < c) : numJ (u * c) (l * c) = numJ u l := by
  have e : numP (u * c) (l * c) = numP u l := by
    unfold numP
    have g : (Int.gcd (u * c) (l * c) : Int) = (Int.gcd u l : Int) * c := by
      rw [Int.gcd_mul_right]
      have : (c.natAbs : Int) = c := by omega
      rw [Int.natCast_mul, this]
    have lc : 0 < l * c := Int.mul_pos hl hc
    rw [g, if_neg (by omega), if_neg (by omega)]
    have e1 : ((l * c).natAbs : Int) = l * c := by omega
    have e2 : (l.natAbs : Int) = l := by omega
    rw [e1, e2, Int.mul_ediv_mul_of_pos_left _ _ hc, Int.mul_ediv_mul_of_pos_left _ _ hc]
  unfold numJ
  rw [e]
theorem numJ_int (u : Int) : numJ u 1 = .int u := by
  unfold numJ numP
  simp
theorem numJ_swap {u l : Int} (hl : 0 < l) : numJ u (-l) = numJ (-u) l := by
  have h := numJ_neg (-u) (b := l) (by omega)
  rw [Int.neg_neg] at h
  exact h
theorem numP_gcd {u l : Int} (hl : l ≠ 0) : Int.gcd (numP u l).1 (numP u l).2 = 1 := by
  have g0 : 0 < Int.gcd u l := Int.gcd_pos_of_ne_zero_right u hl
  have e : ∀ t : Int, t.natAbs = u.natAbs → Int.gcd (t / (Int.gcd u l : Int)) ((l.natAbs : Int) / (Int.gcd u l : Int)) = 1 := by
    intro t ht
    have ge : Int.gcd u l = Int.gcd t (l.natAbs : Int) := by
      unfold Int.gcd
      rw [ht, Int.natAbs_natCast]
    rw [ge] at g0 ⊢
    exact Int.gcd_ediv_gcd_ediv_gcd g0
  unfold numP
  dsimp only
  split
  · exact e _ (Int.natAbs_neg u)
  · exact e _ rfl
theorem numP_pos {u l : Int} (hl : l ≠ 0) : 0 < (numP u l).2 := by
  have g0 : 0 < Int.gcd u l := Int.gcd_pos_of_ne_zero_right u hl
  have d : (Int.gcd u l : Int) ∣ (l.natAbs : Int) := Int.dvd_natAbs.mpr (Int.gcd_dvd_right u l)
  obtain ⟨k, hk⟩ := d
  show 0 < (l.natAbs : Int) / (Int.gcd u l : Int)
  rw [hk, Int.mul_ediv_cancel_left _ (by omega)]
  have h1 : 0 < (Int.gcd u l : Int) * k := by rw [← hk]; omega
  exact Int.pos_of_mul_pos_right h1 (by omega)
theorem isNum_numJ {u l : Int} (hl : l ≠ 0) : isNum (numJ u l) = true := by
  have g := numP_gcd (u := u) hl
  have p := numP_pos (u := u) hl
  unfold numJ
  split
  · rfl
  · rename_i h
    show (decide (2 ≤ (numP u l).2) && decide (Int.gcd (numP u l).1 (numP u l).2 = 1)) = true
    rw [decide_eq_true (by omega), decide_eq_true g]
    rfl
/-- an odd number over an even one stays a pair -/
theorem numJ_odd {u l : Int} (hl : 0 < l) : ∃ p r, numJ (2 * u + 1) (2 * l) = .tup [.int p, .int r] ∧ 2 ≤ r ∧ Int.gcd p r = 1 ∧ p.natAbs ≤ (2 * u + 1).natAbs ∧ r.natAbs ≤ (2 * l).natAbs := by
  have g := numP_gcd (u := 2 * u + 1) (l := 2 * l) (by omega)
  have p := numP_pos (u := 2 * u + 1) (l := 2 * l) (by omega)
  have g0 : 0 < Int.gcd (2 * u + 1) (2 * l) := Int.gcd_pos_of_ne_zero_right _ (by omega)
  have ne : (numP (2 * u + 1) (2 * l)).2 ≠ 1 := by
    intro e
    have e2 : (2 * l).natAbs / (Int.gcd (2 * u + 1) (2 * l) : Int) = 1 := e
    have d2 : (Int.gcd (2 * u + 1) (2 * l) : Int) ∣ 2 * l := Int.gcd_dvd_right _ _
    have d1 : (Int.gcd (2 * u + 1) (2 * l) : Int) ∣ 2 * u + 1 := Int.gcd_dvd_left _ _
    have e3 : ((2 * l).natAbs : Int) = 2 * l := by omega
    rw [e3, div_one (by omega) d2] at e2
    rw [← e2] at d1
    obtain ⟨k, hk⟩ := d1
    have : 2 * u + 1 = 2 * (l * k) := by rw [hk, Int.mul_assoc]
    omega
  refine ⟨(numP (2 * u + 1) (2 * l)).1, (numP (2 * u + 1) (2 * l)).2, ?_, by omega, g, ?_, ?_⟩
  · unfold numJ
    rw [if_neg ne]
  · unfold numP
    rw [if_neg (by omega)]
    rw [Int.natAbs_ediv_of_dvd (Int.gcd_dvd_left _ _)]
    exact Nat.div_le_self _ _
  · unfold numP
    dsimp only
    rw [Int.natAbs_ediv_of_dvd (Int.dvd_natAbs.mpr (Int.gcd_dvd_right _ _)), Int.natAbs_natCast]
    exact Nat.div_le_self _ _
theorem mul_lit {a b : Int} {m n : Nat} (ha : a.natAbs < m) (hb : b.natAbs < n) (h : m * n ≤ 10 ^ 200) : (a * b).natAbs < 10 ^ 200 := by
  rw [Int.natAbs_mul]
  exact Nat.lt_of_lt_of_le (Nat.mul_lt_mul'' ha hb) h
theorem lof_lst {K : PySem.W.Frag} {H : Hp} {b s : Addr} {n : Nat} {xs : List V} {Q : VK} {E : XK} (hb : Bag H b n) (hn : n ≤ 1000000000) (ne : s ≠ b) (hs : H s = some (.lst xs)) (l0 : 0 < xs.length) (l1 : xs.length ≤ 1000)
    (q : ∀ (k : Nat) x H', xs[k]? = some x → But b H H' → Bag H' b (n + 1) → Q x H') : sp_lof K [.ref b, .ref s] H Q E := ⟨b, _, n, rfl, hb, hn, .inl ⟨s, xs, rfl, ne, hs, l0, l1, q⟩⟩
theorem pick {P : V → Prop} : ∀ {xs : List V} {k : Nat} {x : V}, xs[k]? = some x → (∀ y ∈ xs, P y) → P x := fun h a => a _ (List.mem_of_getElem? h)
theorem pickI {lo hi : Int} {xs : List V} {k : Nat} {x : V} (h : xs[k]? = some x) (a : ∀ y ∈ xs, ∃ m : Int, y = .int m ∧ lo ≤ m ∧ m ≤ hi) : ∃ m : Int, x = .int m ∧ lo ≤ m ∧ m ≤ hi := a _ (List.mem_of_getElem? h)
theorem int_in {lo hi m : Int} (h : lo ≤ m) (g : m ≤ hi) : ∃ k : Int, V.int m = .int k ∧ lo ≤ k ∧ k ≤ hi := ⟨m, rfl, h, g⟩
theorem ne_bag {H : Hp} {b s : Addr} {n : Nat} (h : H s = none) (hb : Bag H b n) : s ≠ b := by
  obtain ⟨L, M, c, e, _⟩ := hb
  exact (ne_of_none e h).symm
theorem numJ_nl (t b : Int) : (numJ t b).nl = true := by
  unfold numJ
  split <;> rfl
theorem num_ok {K : PySem.W.Frag} {H : Hp} {t b : Int} {Q : VK} {E : XK} (h : b ≠ 0) (l : b.natAbs < 10 ^ 200) (q : ∀ v H', Same H H' → Jp K H' v (numJ t b) → Q v H') : sp_number K [.int t, .int b] H Q E := ⟨t, b, rfl, l, fun z => absurd z h, fun _ => q⟩
theorem lsame_ok {K : PySem.W.Frag} {H : Hp} {x y : V} {d : J} {Q : VK} {E : XK} (hx : Jp K H x d) (hy : Jp K H y d) (n : numLike d) (q : Q (.bl true) H) : sp_lsame K [x, y] H Q E := ⟨x, y, d, rfl, hx, hy, n, q⟩
theorem rd_law {K : PySem.W.Frag} {mg : Str → Option Value} (T : Txt K mg) : ∀ vs H Q E, sp_law K vs H Q E → t_law K E (Ends.mk (fun _ H' => Q .non H') Q (fun _ _ => False) (fun _ _ => False)) (start N_law vs) H := by
  intro vs H Q E h
  unfold t_law
  obtain ⟨a, ns, rfl, hs, hl, q⟩ := h
  walk_at "x"
  rw [List.length_map]
  refine x_rngJ (by omega) (by omega) ?_
  refine forR (fun i σ H' => Same H H' ∧ ∃ s1 s2 s3 s4 s5 s6 s7 s8 s9 s10 : Option V, σ = [some (.ref a), s1, s2, s3, s4, s5, s6, s7, s8, s9, s10])
    ⟨Same.refl _, _, _, _, _, _, _, _, _, _, _, rfl⟩ ?_ ?_
  · rintro i σ H0 hi ⟨s0, s1, s2, s3, s4, s5, s6, s7, s8, s9, s10, rfl⟩
    have hi6 : i < 63 := by omega
    walk_at "x"
    refine ⟨a, ns, i, rfl, by walk_at "sql", by omega, by omega, fun b H1 hb0 e1 B0 => ?_⟩
    walk_at "xx"
    refine lof_lst (B0.same (by assumption)) (by decide) (ne_bag (by assumption) B0) (by assumption) (by decide) (by decide) fun k x H3 hk e3 B1 => ?_
    obtain ⟨m, rfl, m0, m1⟩ := pickI (lo := 9) (hi := 10 ^ 40) hk (all_cons (int_in (by decide) (by decide)) (all_cons (int_in (by decide) (by decide)) (all_cons (int_in (by decide) (by decide)) all_nil)))
    clear hk
    walk_at "x"
    refine ⟨b, 2 * m + 1, 1, rfl, B1, by decide, by omega, by omega, fun d1 H4 d1a d1b e4 B2 => ?_⟩
    walk_at "xx"
    refine lof_lst (B2.same (by assumption)) (by decide) (ne_bag (by assumption) B2) (by assumption) (by decide) (by decide) fun k x H5 hk e5 B3 => ?_
    obtain ⟨m2, rfl, m3, m4⟩ := pickI (lo := 4) (hi := 10 ^ 12) hk (all_cons (int_in (by decide) (by decide)) (all_cons (int_in (by decide) (by decide)) all_nil))
    clear hk
    walk_at "x"
    refine ⟨b, m2, 3, rfl, B3, by decide, by omega, by omega, fun d2 H6 d2a d2b e6 B4 => ?_⟩
    have h0 : H b = none := s0.free hb0
    have E6 : Same H H6 := by
      refine e6.same (e5.same (Same.trans (e4.same (e3.same (Same.trans (Same.trans s0 e1) (by assumption)) h0) h0) (by assumption)) h0) h0
    have J6 : ∀ {v : V} {d : J}, Jp K H6 v d → Jp K H6 v d := fun h => h
    walk_at "x"
    refine ⟨_, _, rfl, by omega, by omega, fun due H7 e7 jd => ?_⟩
    walk_at "x"
    refine ⟨b, 1000, 4, rfl, B4.same e7, by decide, by decide, by decide, fun d3 H8 d3a d3b e8 B5 => ?_⟩
    have jd8 := jd.bag e8 (B4.same e7) (numJ_nl _ _)
    have E8 : Same H H8 := e8.same (E6.trans e7) h0
    walk_at "x"
    have ub : (d1 - m).natAbs < 2 * 10 ^ 40 + 2 := by omega
    have l0 : 0 < 1 + d2 := by omega
    have l1 : (1 + d2).natAbs < 10 ^ 12 + 2 := by omega
    have c0 : 0 < 1 + d3 := by omega
    have c1 : (1 + d3).natAbs < 1002 := by omega
    have j8 : Jp K H8 due (numJ (d1 - m) (1 + d2)) := jd8
    generalize d1 - m = u at *
    generalize 1 + d2 = l at *
    generalize 1 + d3 = c at *
    have lc0 : 0 < l * c := Int.mul_pos l0 c0
    have lc1 : (l * c).natAbs < 10 ^ 200 := mul_lit l1 c1 (by decide)
    refine num_ok (by omega) lc1 fun v H9 s9' j9 => ?_
    walk_at "x"
    rw [numJ_mul l0 c0] at j9
    refine lsame_ok j9 (by walk_at "jp") (numJ_like _ _) ?_
    walk_at "x"
    refine num_ok (by omega) (by omega) fun v H10 s10' j10 => ?_
    walk_at "x"
    refine lsame_ok j10 (by walk_at "jp") (numJ_like _ _) ?_
    walk_at "x"
    refine num_ok (by rw [Int.neg_mul]; omega) (by rw [Int.neg_mul]; omega) fun v H11 s11' j11 => ?_
    walk_at "x"
    rw [Int.neg_mul, Int.neg_mul, numJ_neg _ (by omega), numJ_mul l0 c0] at j11
    refine lsame_ok j11 (by walk_at "jp") (numJ_like _ _) ?_
    walk_at "x"
    refine num_ok (by decide) (by decide) fun v H12 s12' j12 => ?_
    walk_at "x"
    rw [numJ_int] at j12
    refine lsame_ok j12 (.int _) (by rw [← numJ_int]; exact numJ_like _ _) ?_
    walk_at "x"
    refine ⟨rfl, ?_⟩
    show sp_number K [.int u, .int (-l)] _ _ _
    refine num_ok (by omega) (by omega) fun v H13 s13' j13 => ?_
    walk_at "x"
    rw [numJ_swap l0] at j13
    refine ⟨_, _, rfl, l0, by omega, fun v H14 s14' j14 => ?_⟩
    walk_at "x"
    refine lsame_ok (by walk_at "jp") j14 (numJ_like _ _) ?_
    walk_at "x"
    refine ⟨_, _, rfl, by walk_at "jp", ?_⟩
    rw [isNum_numJ (by omega)]
    walk_at "x"
    refine ⟨_, _, rfl, by omega, by omega, fun v H15 s15' j15 => ?_⟩
    obtain ⟨p, r, ep, r2, gpr, pn, rn⟩ := numJ_odd (u := u) l0
    rw [ep] at j15
    walk_at "x"
    refine ⟨_, _, rfl, j15, ?_⟩
    walk_at "x"
    cases j15 with | tup t15 jj =>
    cases jj with | cons ja jj =>
    cases jj with | cons jb jj =>
    cases jj
    cases ja
    cases jb
    refine x_gtup t15 ?_
    walk_at "xx"
    refine ⟨_, _, rfl, by walk_at "jp", ?_⟩
    rw [← ep, isNum_numJ (by omega)]
    walk_at "x"
    refine ⟨_, _, rfl, by walk_at "jp", ?_⟩
    rw [show isNum (.int u) = true from rfl]
    walk_at "x"
    refine ⟨_, rfl, fun H16 s16' => ?_⟩
    walk_at "x"
    refine ⟨_, _, rfl, r2, by omega, by omega, fun al xs H17 s17' hl17 hall => ?_⟩
    refine x_iL1 (sql_of hl17) ?_
    refine forL xs (fun _ σ H' => H' = H17 ∧ ∃ s10, σ = [some (V.ref a), some (V.int ↑i), some (V.ref b), some (V.int m), some (V.int u), some (V.int l), some due, some (V.int c), some (V.int p), some (V.int r), s10]) ⟨rfl, _, rfl⟩ ?_ ?_ ?_
    · rintro j σ H' _ ⟨rfl, _⟩
      exact sql_of hl17
    · rintro j x σ H' hx ⟨rfl, s10, rfl⟩
      obtain ⟨d, hd, nd⟩ := pick hx hall
      walk_at "x"
      refine ⟨_, _, rfl, hd, ?_⟩
      rw [nd]
      walk_at "x"
      exact ⟨rfl, _, rfl⟩
    · rintro σ H' ⟨rfl, s10, rfl⟩
      exact ⟨Same.trans E8 (by walk_at "same"), _, _, _, _, _, _, _, _, _, _, rfl⟩
  · rintro σ H1 ⟨s0, s1, s2, s3, s4, s5, s6, s7, s8, s9, s10, rfl⟩
    walk_at "x"
    exact q _
theorem len_law {K : PySem.W.Frag} : ∀ vs H Q E, sp_law K vs H Q E → vs.length = 1 := by
  intro vs H Q E h
  unfold sp_law at h
  repeat (first | (obtain ⟨rfl, _⟩ := h; rfl) | obtain ⟨_, h⟩ := h)
theorem ok_law {P : Program} {w : World} {K : PySem.W.Frag} {mg : Str → Option Value} {base : Heap} (T : Txt K mg) : Ok P w K mg base 5 (He.ga K "law") ["_law_script"] [] (sp_law K) :=
  okF T.f_law sc_law len_law (fun _ _ _ _ _ _ us hl => match us, hl with | [_], _ => rfl) (d_law T) (rd_law T)
theorem law_end {K : PySem.W.Frag} {H : Hp} {a : Addr} {ns : List Int} (hl : ns.length ≤ 63) (_ : ∀ z ∈ ns, Builtin.Int.intBits z ≤ 1048576) (hS : SqL K H a (ns.map V.int)) : sp_law K [.ref a] H (fun v _ => v = .bl true) fun _ _ _ => False := ⟨a, ns, rfl, hS, hl, fun _ => rfl⟩
def loose0 : List Str := ["MendroundsError", "BadNumber", "common_divisor", "number", "is_integer", "is_number", "_law_bag", "_law_take", "_law_of", "_law_value", "_law_pair", "_law_is_int", "_law_same", "_law_bad", "_law_zero"]
abbrev loose : List Str := loose0
abbrev Ro : PySem.W.OpenRow := PySem.W.OpenLaw.row PySem.Challenge.rw_mendrounds_k01_numbers_made
abbrev hk : PySem.W.Hook := He.hookX 6 fa fn [] [] ex
def ob (s : PySem.W.SharedT) : He.AlX := He.obsX 6 fa fn [] [] ex (HandSHeadRun.getT s)
theorem ob_eq (s : PySem.W.SharedT) : ob s = hk.obs s.abs := He.obsX_eq (HandSHeadRun.getT_eq s)
theorem run (w : World) : HandSHeadRun.RunEq Ro (PySem.W.view Ro.prog [18]) hk ob 4000 loose w := by
  intro os
  kernel_rfl

end T
open PySem PySem.W PySem.Calls PyProof.Rows
theorem PySem.Challenge.cw_mendrounds_k01_numbers_made_holds : PySem.Challenge.rw_mendrounds_k01_numbers_made.Holds := by
  w_on; o_law
  refine HandSHeadRun.head_any (r := T.Ro) (q := view T.Ro.prog [18]) (H := T.hk) (ob := T.ob) (M := 4000) (loose := T.loose) (d := HandSHeadRun.topDef T.Ro.prog 18) (kwd := []) T.ob_eq
    (by kernel_rfl) (fun s => by kernel_rfl) T.run (by kernel_rfl) (by kernel_rfl) (by kernel_rfl) (by rfl) (by first | assumption | decide +kernel) (by decide +kernel) ⟨rfl, rfl, rfl, rfl, rfl, by decide +kernel⟩ ?hw ?hc
  case hw => w_witness2
  case hc =>
    refine LamX.walk_ofTsE (l := PySem.Challenge.rw_mendrounds_k01_numbers_made) (n := 63) (k := 5) (x := "_law_script") (CX := fun w => L2N.CX PySem.Challenge.pw_mendrounds_k01_numbers_made w) rfl (by decide) (by kernel_rfl) ⟨rfl, by decide, by decide⟩ ?F ?G
    case G =>
      intro w H s e s' h
      obtain ⟨_, _, _, _, _, _, _, _, _, _, _, _, z⟩ := h
      exact z.elim
    case F =>
      intro w mg f h Y G hmg0
      obtain ⟨K, KX, c⟩ := Y
      have hmg : mg ("law" : PySem.Str) = some (.ref f) := by
        have e : (HandSHeadRun.topDef T.Ro.prog 18).name = ("law" : PySem.Str) := by kernel_rfl
        rw [← e]
        exact hmg0
      have X := T.txt_of KX G c.t.d c.more
      have ef := hmg.symm.trans X.g_law
      cases ef
      refine ⟨K, KX, ?_⟩
      obtain ⟨fd, F⟩ := X.f_law
      have b := L2.FunD.bindsA (ps := ["_law_script"]) F fun _ _ _ _ _ _ us hl => match us, hl with | [_], _ => rfl
      refine ⟨fd, [], T.sp_law K, (fun _ h => nomatch h), (fun _ h => nomatch h), (fun _ h => nomatch h), (fun s v => b s [v] rfl), (fun H a ns hl hb _ hS => T.law_end hl hb hS), fun base hb hm _ => ?_⟩
      exact M.fnF F T.sc_law T.len_law (T.d_law X) (T.rd_law X)
