import PyProof.Rows.All
import Wide.All
import OpenK.AllK
import Wide.FinOn
import HandS.ForMost
import HandS.Exc
import HandS.ExcOwn
import HandS.ExcCtx
import HandS.ExcInit
import HandS.ExcField
import HandS.HotCalls
import HandS.TryOnly
import HandS.TryMany
import HandS.WordsExc
import HandS.Wide
import HandS.IsInst
import HandS.Style
import HandS.Defaults
import HandS.TupAny
import HandS.Deep
import HandS.RaiseMore
import HandS.NoneIn
import HandS.FStr
import HandS.Head0
import HandS.Head1
import HandS.Head2
import HandS.HeadEnd
import HandS.HeadHook1
import HandS.HeadHook2
import HandS.HeadHook3
import HandS.HeadHook4
import HandS.HeadWalk
import KE.KExcIs
import PySem.Challenge.RW_mendrounds_k02_numbers_compared
set_option Elab.async false
set_option linter.all false
set_option maxRecDepth 100000
set_option maxHeartbeats 4000000
namespace M
open PySem PySem.Spec PyProof.Rows L2
/-! ## values of any depth -/
inductive J where
  | non | bl (b : Bool) | int (i : Int) | str (s : Str) | lst (l : List J) | tup (l : List J) | dct (l : List (Key × J))
mutual
inductive Jp (K : PySem.W.Frag) (H : Hp) : V → J → Prop
  | non : Jp K H .non .non
  | bl (b : Bool) : Jp K H (.bl b) (.bl b)
  | int (i : Int) : Jp K H (.int i) (.int i)
  | str (x : Str) : Jp K H (.str x) (.str x)
  | lst {a : Addr} {xs : List V} {ds : List J} : H a = some (.lst xs) → Jps K H xs ds → Jp K H (.ref a) (.lst ds)
  | tup {a : Addr} {xs : List V} {ds : List J} : SqT K H a xs → Jps K H xs ds → Jp K H (.ref a) (.tup ds)
  | dct {a : Addr} {xs : List (Key × V)} {ds : List (Key × J)} : H a = some (.dK xs) → Jpd K H xs ds → Jp K H (.ref a) (.dct ds)
inductive Jps (K : PySem.W.Frag) (H : Hp) : List V → List J → Prop
  | nil : Jps K H [] []
  | cons {v : V} {vs : List V} {d : J} {ds : List J} : Jp K H v d → Jps K H vs ds → Jps K H (v :: vs) (d :: ds)
inductive Jpd (K : PySem.W.Frag) (H : Hp) : List (Key × V) → List (Key × J) → Prop
  | nil : Jpd K H [] []
  | cons {k : Key} {v : V} {vs : List (Key × V)} {d : J} {ds : List (Key × J)} : Jp K H v d → Jpd K H vs ds → Jpd K H ((k, v) :: vs) ((k, d) :: ds)
end
section
variable {K : PySem.W.Frag} {H H' : Hp}
theorem sqt_same (e : Same H H') {a : Addr} {xs : List V} (h : SqT K H a xs) : SqT K H' a xs := by
  rcases h with (h | ⟨o, h⟩) | h
  · exact .inl (.inl (e _ _ h))
  · exact .inl (.inr ⟨o, e _ _ h⟩)
  · exact .inr h
mutual
theorem Jp.same (e : Same H H') : ∀ {v : V} {d : J}, Jp K H v d → Jp K H' v d
  | _, _, .non => .non
  | _, _, .bl b => .bl b
  | _, _, .int b => .int b
  | _, _, .str b => .str b
  | _, _, .lst h r => .lst (e _ _ h) (Jps.same e r)
  | _, _, .tup h r => .tup (sqt_same e h) (Jps.same e r)
  | _, _, .dct h r => .dct (e _ _ h) (Jpd.same e r)
theorem Jps.same (e : Same H H') : ∀ {v : List V} {d : List J}, Jps K H v d → Jps K H' v d
  | _, _, .nil => .nil
  | _, _, .cons h r => .cons (Jp.same e h) (Jps.same e r)
theorem Jpd.same (e : Same H H') : ∀ {v : List (Key × V)} {d : List (Key × J)}, Jpd K H v d → Jpd K H' v d
  | _, _, .nil => .nil
  | _, _, .cons h r => .cons (Jp.same e h) (Jpd.same e r)
end
theorem Jps.length : ∀ {v : List V} {d : List J}, Jps K H v d → v.length = d.length
  | _, _, .nil => rfl
  | _, _, .cons _ r => congrArg Nat.succ (Jps.length r)
end
end M
/-! ## reading steps -/
namespace M
open PySem PySem.Spec PyProof.Rows L2
section
variable {K : PySem.W.Frag} {H H' : Hp} {σ σ' : L2.St} {Q : VK} {v x y : V} {ta tb tc te : TE} {tt tu : TT} {t tr : TA} {i j : Nat} {a b : Addr} {xs ys : List V}
/-! ### universal operators -/
def uAdd (K : PySem.W.Frag) : R2 := fun x y H Q => rI0 (fun i j => .int (i + j)) x y H Q ∨ ((∃ i j, x = .str i ∧ y = .str j ∧ i.length + j.length ≤ sizeLine ∧ Q (.str (i ++ j)) H) ∨ (rCat x y H Q ∨ rCatA K x y H Q))
theorem op_addU {X : Cx} : OpR X (binaryOp .Add) (uAdd X.K) := OpR.or op_add (OpR.or op_add_str (OpR.or op_cat op_catA))
theorem addU_i {i j : Int} (q : Q (.int (i + j)) H) : uAdd K (.int i) (.int j) H Q := .inl ⟨i, j, rfl, rfl, q⟩
theorem addU_s {i j : Str} (q : Q (.str (i ++ j)) H) (h : i.length + j.length ≤ 100000) : uAdd K (.str i) (.str j) H Q := .inr (.inl ⟨i, j, rfl, rfl, Nat.le_trans h (by decide), q⟩)
theorem addU_l (ha : H a = some (.lst xs)) (hb : H b = some (.lst ys)) (hz : xs.length + ys.length ≤ 100000) (q : ∀ p H1, H p = none → Same H H1 → H1 p = some (.lst (xs ++ ys)) → Q (.ref p) H1) : uAdd K (.ref a) (.ref b) H Q :=
  .inr (.inr (.inl ⟨a, b, xs, ys, rfl, rfl, ha, hb, Nat.le_trans hz (by decide), fun p hp => q p _ hp (fun c o e => by rw [upd_ne (ne_of_none e hp)]; exact e) upd_same⟩))
theorem same_new {p : Addr} {o : HO} (hp : H p = none) : Same H (upd H p o) := fun c u e => by rw [upd_ne (ne_of_none e hp)]; exact e
def uMul (K : PySem.W.Frag) : R2 := fun x y H Q => rI CMulW (fun i j => .int (i * j)) x y H Q ∨ rRep x y H Q
theorem op_mulU {X : Cx} : OpR X (binaryOp .Mult) (uMul X.K) := OpR.or op_mulW op_rep
theorem mulU_i {i j : Int} (q : Q (.int (i * j)) H) (h : CMulW i j) : uMul K (.int i) (.int j) H Q := .inl ⟨i, j, rfl, rfl, h, q⟩
theorem cmul {i j : Int} (h : i.natAbs < 10 ^ 200) (h' : j.natAbs < 10 ^ 200) : CMulW i j :=
  wide_mul (a := 4000) (b := 4000) (Nat.lt_of_lt_of_le h (by decide +kernel)) (Nat.lt_of_lt_of_le h' (by decide +kernel)) (by decide) (by decide) (by decide)
theorem cdiv {i j : Int} (h : 0 < j) (h' : j.natAbs < 10 ^ 200) : CDivW i j := wide_div h (b := 4000) (Nat.lt_of_lt_of_le h' (by decide +kernel)) (by decide) (by decide)
/-- a bound far beyond the laws' numbers -/
def Big : Nat := 2 ^ 8900
theorem big_le : 10 ^ 200 ≤ Big := by unfold Big; decide +kernel
theorem cmulB {i j : Int} (h : i.natAbs < Big) (h' : j.natAbs < Big) : CMulW i j := wide_mul (a := 8900) (b := 8900) h h' (by decide) (by decide) (by decide)
theorem cdivB {i j : Int} (h : 0 < j) (h' : j.natAbs < Big) : CDivW i j := wide_div h (b := 8900) h' (by decide) (by decide)
/-- subscripts: lists, tuples, texts -/
def uIx (K : PySem.W.Frag) : R2 := fun x y H Q => rIxL K x y H Q ∨ (rIxT K x y H Q ∨ rIxS x y H Q)
theorem ix_U {X : Cx} : IxR X (uIx X.K) := IxR.or ix_list (IxR.or ix_tup ix_str)
theorem ixU_l {i : Int} (h : H a = some (.lst xs)) (e : atI xs i = some v) (q : Q v H) : uIx K (.ref a) (.int i) H Q := .inl ⟨a, xs, i, v, rfl, rfl, .inl (.inl h), e, q⟩
theorem ixU_L {i : Int} (h : SqL K H a xs) (e : atI xs i = some v) (q : Q v H) : uIx K (.ref a) (.int i) H Q := .inl ⟨a, xs, i, v, rfl, rfl, h, e, q⟩
theorem ixU_T {i : Int} (h : SqT K H a xs) (e : atI xs i = some v) (q : Q v H) : uIx K (.ref a) (.int i) H Q := .inr (.inl ⟨a, xs, i, v, rfl, rfl, h, e, q⟩)
theorem ixU_t {i : Int} (h : H a = some (.tup xs)) (e : atI xs i = some v) (q : Q v H) : uIx K (.ref a) (.int i) H Q := .inr (.inl ⟨a, xs, i, v, rfl, rfl, .inl (.inl h), e, q⟩)
theorem ixU_s {s : Str} {i : Int} {c : Nat} (hz : s.length ≤ 100000) (e : atI s.cps.toList i = some c) (q : Q (.str ⟨#[c]⟩) H) : uIx K (.str s) (.int i) H Q := .inr (.inr ⟨s, i, c, rfl, rfl, Nat.le_trans hz (by decide), e, q⟩)
/-- len -/
def uLen (K : PySem.W.Frag) : List V → Hp → VK → Prop := fun xs H Q => (∃ p ys, xs = [.ref p] ∧ (SqL K H p ys ∨ SqT K H p ys) ∧ Q (.int ys.length) H) ∨ ((∃ z, xs = [.str z] ∧ z.length ≤ sizeLine ∧ Q (.int z.length) H) ∨ (∃ a kvs, xs = [V.ref a] ∧ H a = some (.dK kvs) ∧ Q (.int kvs.length) H))
theorem call_lenU {X : Cx} : CallR X (.builtin "len") (uLen X.K) := CallR.or call_len_seq (CallR.or call_len_str call_lenD)
theorem lenU_l (h : H a = some (.lst xs)) (q : Q (.int xs.length) H) : uLen K [.ref a] H Q := .inl ⟨a, xs, rfl, .inl (.inl (.inl h)), q⟩
theorem lenU_L (h : SqL K H a xs) (q : Q (.int xs.length) H) : uLen K [.ref a] H Q := .inl ⟨a, xs, rfl, .inl h, q⟩
theorem lenU_t (h : H a = some (.tup xs)) (q : Q (.int xs.length) H) : uLen K [.ref a] H Q := .inl ⟨a, xs, rfl, .inr (.inl (.inl h)), q⟩
theorem lenU_T (h : SqT K H a xs) (q : Q (.int xs.length) H) : uLen K [.ref a] H Q := .inl ⟨a, xs, rfl, .inr h, q⟩
theorem lenU_s {s : Str} (hz : s.length ≤ 100000) (q : Q (.int s.length) H) : uLen K [.str s] H Q := .inr (.inl ⟨s, rfl, Nat.le_trans hz (by decide), q⟩)
theorem lenU_d {kvs : List (Key × V)} (h : H a = some (.dK kvs)) (q : Q (.int kvs.length) H) : uLen K [.ref a] H Q := .inr (.inr ⟨a, kvs, rfl, h, q⟩)

/-! ### expressions -/
theorem x_var (q : Q v H) (h : σ[i]? = some (some v) := by with_unfolding_all rfl) : tVar i σ H Q := ⟨v, h, q⟩
theorem x_c (q : Q v H) : tC v σ H Q := q
theorem x_op {r : R2} (h : ta σ H fun x H1 => tb σ H1 fun y H2 => r x y H2 Q) : tOp r ta tb σ H Q := h
theorem x_un {r : V → Hp → VK → Prop} (h : ta σ H fun x H1 => r x H1 Q) : tUn r ta σ H Q := h
theorem x_I0 {g : Int → Int → V} {i j : Int} (q : Q (g i j) H) : rI0 g (.int i) (.int j) H Q := ⟨i, j, rfl, rfl, q⟩
theorem x_I {C : Int → Int → Prop} {g : Int → Int → V} {i j : Int} (c : C i j) (q : Q (g i j) H) : rI C g (.int i) (.int j) H Q := ⟨i, j, rfl, rfl, c, q⟩
theorem x_U {g : Int → V} {i : Int} (q : Q (g i) H) : rU g (.int i) H Q := ⟨i, rfl, q⟩
theorem x_if (h : tt σ H fun c H1 => if c = true then ta σ H1 Q else tb σ H1 Q) : tIf tt ta tb σ H Q := h
theorem x_test {R : Bool → Hp → Prop} (h : te σ H fun x H1 => ∃ k, x = .bl k ∧ R k H1) : tTest te σ H R := h
theorem x_tB {R : Bool → Hp → Prop} (h : te σ H fun x H1 => ∃ k, x = .bl k ∧ R k H1) : tB te σ H R := h
theorem x_bl {c : Bool} {R : Bool → Prop} (h : R c) : ∃ k, V.bl c = .bl k ∧ R k := ⟨c, rfl, h⟩
theorem x_not {R : Bool → Hp → Prop} (h : tt σ H fun c H1 => R (!c) H1) : tNot tt σ H R := h
theorem x_and {R : Bool → Hp → Prop} (h : tt σ H fun c H1 => if c = true then tu σ H1 R else R false H1) : tAnd tt tu σ H R := h
theorem x_or {R : Bool → Hp → Prop} (h : tt σ H fun c H1 => if c = true then R true H1 else tu σ H1 R) : tOr tt tu σ H R := h
theorem x_andV (h : ta σ H fun x H1 => ∃ c, x = .bl c ∧ if c = true then tb σ H1 Q else Q (.bl false) H1) : tAndV ta tb σ H Q := h
theorem x_orV (h : ta σ H fun x H1 => ∃ c, x = .bl c ∧ if c = true then Q (.bl true) H1 else tb σ H1 Q) : tOrV ta tb σ H Q := h
theorem x_notV (h : ta σ H fun x H1 => ∃ c, x = .bl c ∧ Q (.bl (!c)) H1) : tNotV ta σ H Q := h
theorem x_chain {r r' : R2} (h : ta σ H fun x H1 => tb σ H1 fun y H2 => r x y H2 fun z H3 => ∃ k, z = .bl k ∧ (if k = true then tc σ H3 fun w' H4 => r' y w' H4 Q else Q (.bl false) H3)) : tChain r r' ta tb tc σ H Q := h
theorem x_isN (h : ta σ H fun x H1 => Q (.bl (decide (x = .non))) H1) : tIsN ta σ H Q := h
theorem x_notN (h : ta σ H fun x H1 => Q (.bl (!decide (x = .non))) H1) : tNotN ta σ H Q := h
theorem x_nil {R : List V → Hp → Prop} (h : R [] H) : tNil σ H R := h
theorem x_cons {R : List V → Hp → Prop} (h : ta σ H fun x H1 => tr σ H1 fun xs H2 => R (x :: xs) H2) : tCons ta tr σ H R := h
def NewO (o : HO) (n : Nat) (H : Hp) (Q : VK) : Prop := n ≤ sizeLine ∧ ∀ p, H p = none → Q (.ref p) (upd H p o)
theorem x_tup (h : t σ H fun xs H1 => NewO (.tup xs) xs.length H1 Q) : tTup t σ H Q := h
theorem x_lst (h : t σ H fun xs H1 => NewO (.lst xs) xs.length H1 Q) : tLst t σ H Q := h
theorem x_new {o : HO} {n : Nat} (h : ∀ p H1, H p = none → Same H H1 → H1 p = some o → Q (.ref p) H1) (hz : n ≤ 100000 := by first | decide | (simp only [List.length_cons, List.length_nil]; decide)) : NewO o n H Q :=
  ⟨Nat.le_trans hz (by decide), fun p hp => h p _ hp (same_new hp) upd_same⟩
theorem x_new0 {o : HO} {R : V → Hp → Prop} (h : ∀ p H1, H p = none → Same H H1 → H1 p = some o → R (.ref p) H1) : ∀ p, H p = none → R (.ref p) (upd H p o) := fun p hp => h p _ hp (same_new hp) upd_same
theorem x_call {sp : Sp} {dvs : List V} {E : XK} (h : t σ H fun vs H1 => sp (vs ++ dvs) H1 Q E) : tCall sp dvs E t σ H Q := h
theorem x_call0 {sp : Sp} {E : XK} (h : t σ H fun vs H1 => sp vs H1 Q E) (m : ∀ R R' : List V → Hp → Prop, (∀ a b, R a b → R' a b) → t σ H R → t σ H R') : tCall sp [] E t σ H Q := m _ _ (fun a b e => by show sp (a ++ []) b Q E; rw [List.append_nil]; exact e) h
theorem x_cb {r : List V → Hp → VK → Prop} (h : t σ H fun vs H1 => r vs H1 Q) : tCB r t σ H Q := h
theorem x_bm {T : String} {r : V → List V → Hp → VK → Prop} (h : ta σ H fun x H1 => tyV K T x H1 ∧ t σ H1 fun xs H2 => r x xs H2 Q) : tBM K T r ta t σ H Q := h
theorem x_tyS {s : Str} {P : Prop} (h : P) : tyV K "str" (.str s) H ∧ P := ⟨rfl, h⟩
theorem x_tyL {P : Prop} (e : H a = some (.lst xs)) (h : P) : tyV K "list" (.ref a) H ∧ P := ⟨.inl ⟨rfl, xs, .inl (.inl e)⟩, h⟩

/-! ### statements -/
variable {D : Ends} {n bk ct : L2.St → Hp → Prop} {r : VK} {u s1 : TS} {g : TG} {gs : TGs}
theorem x_seq (h : s1 (Ends.mk (u (Ends.mk n r bk ct)) r bk ct) σ H) : tSeq s1 u (Ends.mk n r bk ct) σ H := h
theorem x_next (h : n σ H) : tNext (Ends.mk n r bk ct) σ H := h
theorem x_break (h : bk σ H) : tBreak (Ends.mk n r bk ct) σ H := h
theorem x_cont (h : ct σ H) : tCont (Ends.mk n r bk ct) σ H := h
theorem x_ret (h : te σ H r) : tRet te (Ends.mk n r bk ct) σ H := h
theorem x_retN (h : r .non H) : tRetN (Ends.mk n r bk ct) σ H := h
theorem x_drop (h : te σ H fun _ H1 => n σ H1) : tDrop te (Ends.mk n r bk ct) σ H := h
theorem x_ifS (h : tt σ H fun b H1 => if b = true then s1 (Ends.mk n r bk ct) σ H1 else u (Ends.mk n r bk ct) σ H1) : tIfS tt s1 u (Ends.mk n r bk ct) σ H := h
theorem x_asg (h : te σ H fun x H1 => g x σ H1 n) : tAsg te g (Ends.mk n r bk ct) σ H := h
theorem x_par (h : t σ H fun vs H1 => ∃ v w, vs = [v, w] ∧ n ((σ.set i (some v)).set j (some w)) H1) : tPar i j t (Ends.mk n r bk ct) σ H := h
theorem x_par3 {l : Nat} (h : t σ H fun vs H1 => ∃ u v w, vs = [u, v, w] ∧ n (((σ.set i (some u)).set j (some v)).set l (some w)) H1) : tPar3 i j l t (Ends.mk n r bk ct) σ H := h
theorem x_two {v w : V} {R : V → V → Prop} (h : R v w) : ∃ v' w', [v, w] = [v', w'] ∧ R v' w' := ⟨v, w, rfl, h⟩
theorem x_three {u v w : V} {R : V → V → V → Prop} (h : R u v w) : ∃ u' v' w', [u, v, w] = [u', v', w'] ∧ R u' v' w' := ⟨u, v, w, rfl, h⟩
theorem x_name {R : L2.St → Hp → Prop} (h : R (σ.set i (some v)) H) : gName i v σ H R := h
theorem x_gsub {to ti : TE} {ts : TSet} {R : L2.St → Hp → Prop} (h : to σ H fun o H1 => ti σ H1 fun i H2 => ts o i v H2 fun H3 => R σ H3) : gSub to ti ts v σ H R := h
theorem x_setL {i : Int} {k : Nat} {R : Hp → Prop} (h : H a = some (.lst xs)) (q : R (upd H a (.lst (xs.set k v)))) (e : ixN xs.length i = some k := by with_unfolding_all rfl) : rSetL (.ref a) (.int i) v H R := ⟨a, xs, i, k, rfl, rfl, h, e, q⟩
theorem x_gtup {k : Nat} {R : L2.St → Hp → Prop} (h : SqT K H a xs) (q : gs xs σ H R) (e : xs.length = k := by rfl) : gTup K k gs (.ref a) σ H R := ⟨a, xs, rfl, h, e, q⟩
theorem x_gcons {R : L2.St → Hp → Prop} (h : g v σ H fun σ' H' => gs xs σ' H' R) : gCons g gs (v :: xs) σ H R := ⟨v, xs, rfl, h⟩
theorem x_gnil {R : L2.St → Hp → Prop} (h : R σ H) : gNil [] σ H R := ⟨rfl, h⟩
theorem x_while {tb : TS} (Pv : L2.St → Hp → Prop) (μ : L2.St → Hp → Nat) (h0 : Pv σ H)
    (hs : ∀ σ H, Pv σ H → tt σ H fun b H1 => if b = true then (∃ N : L2.St → Hp → Prop, (∀ σ' H', N σ' H' → ∃ m', m' < μ σ H ∧ (m' = μ σ' H' ∧ Pv σ' H')) ∧ tb (Ends.mk N r n N) σ H1) else n σ H1) :
    tWhile tt tb (Ends.mk n r bk ct) σ H := ⟨fun m σ H => m = μ σ H ∧ Pv σ H, ⟨_, rfl, h0⟩, fun m σ H ⟨e, p⟩ => by subst e; exact hs σ H p⟩
theorem x_whileN {tb : TS} {Pv : L2.St → Hp → Prop} {μ : L2.St → Hp → Nat} {m : Nat} (h : tb (Ends.mk (fun σ' H' => Pv σ' H' ∧ μ σ' H' < m) r n (fun σ' H' => Pv σ' H' ∧ μ σ' H' < m)) σ H) :
    ∃ N : L2.St → Hp → Prop, (∀ σ' H', N σ' H' → ∃ m', m' < m ∧ (m' = μ σ' H' ∧ Pv σ' H')) ∧ tb (Ends.mk N r n N) σ H := ⟨_, fun _ _ ⟨p, l⟩ => ⟨_, l, rfl, p⟩, h⟩
/-! ### conditions -/
theorem ite_t {A B : Prop} (h : A) : if true = true then A else B := h
theorem ite_f {A B : Prop} (h : B) : if false = true then A else B := iteF h
theorem ite_d {c A B : Prop} [Decidable c] (h1 : c → A) (h2 : ¬ c → B) : if decide c = true then A else B := by
  by_cases h : c
  · rw [decide_eq_true h]; exact h1 h
  · rw [decide_eq_false h]; exact iteF (h2 h)
theorem ite_nd {c A B : Prop} [Decidable c] (h1 : c → B) (h2 : ¬ c → A) : if (!decide c) = true then A else B := by
  by_cases h : c
  · rw [decide_eq_true h]; exact iteF (h1 h)
  · rw [decide_eq_false h]; exact h2 h
theorem ite_T {c : Bool} {A B : Prop} (hc : c = true) (h : A) : if c = true then A else B := by rw [hc]; exact h
theorem ite_F {c : Bool} {A B : Prop} (hc : c = false) (h : B) : if c = true then A else B := by rw [hc]; exact iteF h
theorem ite_b {c : Bool} {A B : Prop} (h1 : c = true → A) (h2 : c = false → B) : if c = true then A else B := by
  cases c with
  | true => exact h1 rfl
  | false => exact iteF (h2 rfl)
theorem same_to {H H1 : Hp} {a : Addr} {o : HO} (e : Same H H1) (h : H a = some o) : H1 a = some o := e a o h
theorem same_up {H H1 : Hp} {p : Addr} {o : HO} (e : Same H H1) (h : H p = none) : Same H (upd H1 p o) := fun c u q => by rw [upd_ne (ne_of_none q h)]; exact e c u q
end
end M
/-! ## errors of the program's own, with one field -/
namespace M
open PySem PySem.Spec PyProof.Rows L2
def oexB (K : PySem.W.Frag) (C : Addr) : Bool :=
  (match K.lookup C with
    | some ⟨.type "type", _, .cls cd, sl⟩ =>
      (match cd.mro, sl.toList with
        | .ref C' :: bm, [_, _, _, _, some (.builtin n), _] =>
          decide (C' = C) && (decide (n = "ValueError.__new__") && (!cd.hasDel && (cd.hasDict && PySem.HandSPX.refsVE bm)))
        | _, _ => false)
    | _ => false) &&
  (He.eqO (PySem.W.findIn K (.ref C) "__setattr__") (some (some (.builtin "object.__setattr__"))) &&
  (decide (PySem.W.subIn K (.ref C) (.type "BaseException") = some true) &&
  (decide (PySem.W.typeIn K (.ref C) = some (.type "type")) && PySem.W.keepIn K (.ref C))))
theorem oexB_ok {K : PySem.W.Frag} {C : Addr} (h : oexB K C = true) : OexC K C := by
  unfold oexB at h
  rw [Bool.and_eq_true, Bool.and_eq_true, Bool.and_eq_true, Bool.and_eq_true] at h
  obtain ⟨h1, h2, h3, h4, h5⟩ := h
  refine ⟨?_, He.eqO_ok h2, of_decide_eq_true h3, of_decide_eq_true h4, h5⟩
  split at h1
  · rename_i dd cd sl ho
    split at h1
    · rename_i C' bm k0 k1 k2 k3 nn k5 hm hs
      rw [Bool.and_eq_true, Bool.and_eq_true, Bool.and_eq_true, Bool.and_eq_true] at h1
      obtain ⟨c1, c2, c3, c4, c5⟩ := h1
      have e1 := of_decide_eq_true c1
      have e2 := of_decide_eq_true c2
      subst e1 e2
      obtain ⟨nm, bs, mro, ns, qn, hd, sn, sub, ab, col, del⟩ := cd
      dsimp only at hm c3 c4
      subst hm
      cases hd with
      | false => cases c4
      | true =>
        cases del with
        | true => cases c3
        | false =>
          have hsl : sl = #[k0, k1, k2, k3, some (.builtin "ValueError.__new__"), k5] := by
            obtain ⟨l⟩ := sl
            simp only at hs
            rw [hs]
          subst hsl
          exact ⟨nm, qn, ns, bs, bm, sn, sub, ab, col, dd, k0, k1, k2, k3, k5, ho, c5⟩
    · cases h1
  · cases h1
/-- what isinstance asks of an error's class -/
def kxB (K : PySem.W.Frag) (C : Addr) : Bool :=
  (PySem.W.clsIn K C).isSome &&
  (He.eqO (PySem.W.findIn K (.ref C) "__class__") (some (some (.builtin "object.__class__"))) &&
  (He.eqO (PySem.W.specialIn K (.builtin "object.__class__") "__get__") (some (some (.builtin "getset_descriptor.__get__"))) &&
  (decide (PySem.W.takesIn K (.builtin "object.__class__") = some true) && decide (PySem.W.mroIn K C (.type "object") = some true))))
/-- an error class x whose __init__(self, f) says self.f = f -/
structure Err (K : PySem.W.Frag) (C : Addr) (f : Str) : Prop where
  T : OexC K C
  iC : PySem.W.findIn K (.ref C) "__init__" = some (some (.ref (He.ma K C "__init__")))
  tI : PySem.W.typeIn K (.ref (He.ma K C "__init__")) = some (.type "function")
  nf : PySem.W.findIn K (.ref C) f = some none
  xf : XfC K C
  kx : kxB K C = true
  te : PySem.W.exmOne K (.ref C) (.ref C) = some true
def errB (K : PySem.W.Frag) (C : Addr) (f : Str) : Bool :=
  oexB K C && (He.eqO (PySem.W.findIn K (.ref C) "__init__") (some (some (.ref (He.ma K C "__init__")))) &&
  (decide (PySem.W.typeIn K (.ref (He.ma K C "__init__")) = some (.type "function")) && (He.eqO (PySem.W.findIn K (.ref C) f) (some none) &&
  (xfB K C && (kxB K C && decide (PySem.W.exmOne K (.ref C) (.ref C) = some true))))))
theorem errB_ok {K : PySem.W.Frag} {C : Addr} {f : Str} (h : errB K C f = true) : Err K C f := by
  unfold errB at h
  rw [Bool.and_eq_true, Bool.and_eq_true, Bool.and_eq_true, Bool.and_eq_true, Bool.and_eq_true, Bool.and_eq_true] at h
  obtain ⟨h1, h2, h3, h4, h5, h6, h7⟩ := h
  exact ⟨oexB_ok h1, He.eqO_ok h2, of_decide_eq_true h3, He.eqO_ok h4, xfB_ok h5, h6, of_decide_eq_true h7⟩
/-- isinstance(e, c), e held by the suite -/
def rIsX (K : PySem.W.Frag) (a : Addr) (cls : Value) (d : Option Addr) : List V → Hp → VK → Prop := fun xs H Q =>
  ∃ (C : Addr) (c : V) (cv : Value) (b : Bool), xs = [.ref a, c] ∧ cls = .ref C ∧ (d = none ∨ ∃ dd fs, d = some dd ∧ H dd = some (.xd fs)) ∧ kxB K C = true ∧ XfC K C ∧ ClsV c cv ∧ PySem.W.kitOne K (.ref C) cv = some b ∧ Q (.bl b) H
theorem call_isX {X : Cx} {a : Addr} {cls : Value} {d : Option Addr} {oe : Obj} {pn : List (Addr × Obj)} (hz : L2N.Zn cls d oe) (hf : ∃ vs, oe.data = .fields vs) :
    CallR (X.suite a ((a, oe) :: pn)) (.builtin "isinstance") (rIsX X.K a cls d) := by
  intro pins s σ H xs us Q I r h
  obtain ⟨C, c, cv, b, rfl, rfl, hd, kx, xf, cl, e, q⟩ := h
  obtain ⟨u1, u2, rfl, r1, r2⟩ := vals2 r
  obtain rfl : u1 = Value.ref a := r1
  have e2 := cl.eq r2
  subst e2
  unfold kxB at kx
  rw [Bool.and_eq_true, Bool.and_eq_true, Bool.and_eq_true, Bool.and_eq_true] at kx
  obtain ⟨k1, k2, k3, k4, k5⟩ := kx
  have hp := I.pin (a, oe) (List.mem_append_left _ List.mem_cons_self)
  have hget : s.heap.get? a = some oe := hp.1
  obtain ⟨vs, hv⟩ := hf
  have hno : PySem.W.notCls oe = true := by unfold PySem.W.notCls; rw [hv] <;> rfl
  have key : ∃ od, PySem.W.InstAt s.heap a oe C od := by
    rcases hd with rfl | ⟨dd, fs, rfl, hdd⟩
    · refine ⟨none, hget, hz.1, hno, ?_⟩
      have z : oe.dict = none := hz.2.1
      rw [z]
      exact True.intro
    · have hx : ObjOk X.prog X.w H s.heap dd (.xd fs) := I.hok dd _ hdd
      obtain ⟨mA, ⟨o, es, ep, ho, _⟩, _⟩ := hx
      refine ⟨some o, hget, hz.1, hno, ?_⟩
      have z : oe.dict = some dd := hz.2.1
      rw [z]
      exact ho
  obtain ⟨od, J⟩ := key
  have Z := PySem.W.kitx_exc (K := X.K) (C := C) (x := a) (ox := oe) (od := od) k1 xf.ga xf.gg xf.exC (He.eqO_ok k2) (He.eqO_ok k3) (of_decide_eq_true k4) (of_decide_eq_true k5)
  exact PySem.W.kia_one Z I.kIn J e (fun z => nomatch z) fun tk => ⟨.bl b, H, I.tok tk, rfl, q⟩
/-- raise C(e, ..) where nothing is handled: the exception's context is None -/
theorem pmkN_oex {X : Cx} {CX : CXT} {x : Str} {e : Expr} {es : List Expr} {ta : TA} {p pos : Pos} {C fI : Addr} {k : Nat} {fd : FuncData} {ps : List Str} {sp : Sp} {ds : List Value} {dvs : List V}
    (T : OexC X.K C) (iC : PySem.W.findIn X.K (.ref C) "__init__" = some (some (.ref fI)))
    (tI : PySem.W.typeIn X.K (.ref fI) = some (.type "function"))
    (F1 : FnOk X.prog X.w X.K X.mg X.base CX k fI fd ps sp)
    (hr : Room (k + 1) X.A) (hb : Binds X.K fd ps ds) (hd : Vals dvs ds)
    (hx : Passes CX X (fun _ _ _ => False)) (hg : Gl X x)
    (hm : X.mg x = some (.ref C)) (ha : PA X (e :: es) ta)
    (hdb : (x == ("__debug__" : Str)) = false := by decide)
    (he : starEach (e :: es) X.env = (false, eval e X.env) :: starEach es X.env := by rfl)
    (hpl : (backTo pos (starEach es X.env)).any (·.1) = false := by rfl) :
    L2N.PMk X (.Call (.Name x p) (e :: es) [] pos) (tMkO C sp dvs ta) := by
  intro pins st0 σ H Q I0 hq0
  obtain ⟨nm, qn, NN, bs, bm, sn, sub, ab, col, ddd, m0, m1, m2, m3, m5, hC, hbm⟩ := T.cls
  refine wpAny_Call_Name_kw (ld_glob I0 hg hm ?_ hdb)
  refine PySem.W.callWith_K (h₀ := X.base) I0.ok.mod.kin T.kC
    (thn (ha.run pos pins st0 σ H _ I0 hq0) fun us s1 ⟨vs, H1, I1, r1, hz, q1⟩ => ⟨I1.kIn, ?_⟩) he hpl
  show wpAny _ _ (call (.ref C) us) _ _ _
  obtain ⟨hp, gg, dr, tk, oss⟩ := s1
  have hsz : hp.objs.size ≤ hp.objs.size + 1 := Nat.le_succ _
  have hfree : H1 (hp.objs.size + 1) = none := I1.hok.fresh hsz
  have hq := q1 (hp.objs.size + 1) hfree
  generalize hh2 : (hp.push (PySem.W.kdv_tup us)).push (PySem.HandSPX.excO C hp.objs.size) = hp2
  have kk : ∀ b o, hp.get? b = some o → hp2.get? b = some o := fun b o q => by
    rw [← hh2]
    exact Heap.get?_push_of_some _ (Heap.get?_push_of_some _ q)
  have hget : hp2.get? (hp.objs.size + 1) = some (PySem.HandSPX.excO C hp.objs.size) := by
    rw [← hh2]
    heap_get
  have I2 : Inv X pins σ (upd H1 (hp.objs.size + 1) (exo (hp.objs.size + 1) C none)) ⟨hp2, gg, dr, tk, oss⟩ :=
    I1.laid (t' := tk) (a := hp.objs.size + 1) (h' := hp2) kk hsz (exo_ok hget)
  have r2 : Vals (V.ref (hp.objs.size + 1) :: (vs ++ dvs)) (Value.ref (hp.objs.size + 1) :: (us ++ ds)) :=
    .cons rfl (r1.append hd)
  have hl : (Value.ref (hp.objs.size + 1) :: us ++ ds).length = ps.length := by
    have e1 := r2.length
    rw [F1.len _ _ _ _ hq] at e1
    exact e1.symm
  have hus : us.length ≤ sizeLine := by
    rw [← Paired.length r1, sizeLine_eq]
    omega
  refine wpAny_call (PySem.HandSPX.call_own F.excBase_ValueError
    (fun Y => PySem.HandSPX.refsVE_contains Y bm hbm) (I1.kIn _ _ hC) (PySem.W.looks_findIn I1.kIn iC)
    (fun self => PySem.W.bind_fn I1.kIn self tI) hus ?_)
  rw [hh2]
  refine codeAny_mono (F1.run _ X.stack _ _ ⟨Value.ref (hp.objs.size + 1) :: us, []⟩
    (Value.ref (hp.objs.size + 1) :: (us ++ ds)) _ _ (fun _ _ _ => False) (hr.make C us [])
    (I2.env0.make C us []) (hb _ (Value.ref (hp.objs.size + 1) :: us) I2.kIn hl) r2 hq) fun rr s' hq' => ?_
  cases rr with
  | error er => exact hx pins σ _ _ er s' I2 hq'
  | ok fl =>
    cases fl with
    | ret u =>
      obtain ⟨v, H2, os2, bare2, un2, hok2, rv, ev, d, fs, ea, ed, hd1, q2⟩ := hq'
      subst ev
      obtain ⟨h2, g2, d2, t2, os'⟩ := s'
      obtain ⟨t0, G, J, kG, ge, hoe, na⟩ := mk_end0 (d2 := d2) (t2 := t2) I1 hsz kk un2 hok2 os2 bare2 ea ed hd1
      refine ⟨rv, _, _, _, ⟨G, g2, d2, t2, os'⟩, _, .ref C, some d, rfl, J, kG, ge, hoe, ⟨rfl, rfl, ?_⟩, rfl, rfl, na, rfl, bare2, raises_own T.exC T.tyC, q2⟩
      intro vs e
      cases e
      rfl
    | next => exact False.elim hq'
    | brk => exact False.elim hq'
    | cont => exact False.elim hq'
end M
/-! ## defs -/
namespace M
open PySem PySem.Spec PyProof.Rows L2
/-- the def at f keeps sp, called with the first of its parameters; the others are dvs -/
def Ok (P : Program) (w : World) (K : PySem.W.Frag) (mg : Str → Option Value) (base : Heap) (k : Nat) (f : Addr) (ps : List Str) (dvs : List V) (sp : Sp) : Prop :=
  ∃ fd ds, FnOk P w K mg base (L2N.CX P w) k f fd ps sp ∧ PySem.W.keepIn K (.ref f) = true ∧ Vals dvs ds ∧ Binds K fd ps ds
theorem passN0 {X : Cx} : Passes (L2N.CX X.prog X.w) X E0 := fun _ _ _ _ _ _ _ h => by
  obtain ⟨_, _, _, _, _, _, _, _, _, _, _, _, z⟩ := h
  exact z.elim
theorem takesN0 {X : Cx} : L2N.Takes X (fun _ _ _ _ => False) := fun _ _ x => by
  obtain ⟨_, _, _, _, _, _, _, _, _, _, _, _, _, _, _, _, z⟩ := x
  exact z.elim
section
variable {X : Cx} {k j : Nat} {f C : Addr} {ps : List Str} {sp : Sp} {dvs : List V} {x m : Str} {p pos apos : Pos} {e o : Expr} {es : List Expr} {t : TA} {ta : TE} {E : XK} {W : WX}
theorem pe_c (h : Ok X.prog X.w X.K X.mg X.base k f ps dvs sp) (hr : Room j X.A) (hj : k ≤ j) (hm : X.mg x = some (.ref f)) (hx : Passes (L2N.CX X.prog X.w) X E) (ha : PA X (e :: es) t)
    (hg : Gl X x := by rfl) (hdb : (x == ("__debug__" : Str)) = false := by decide) (he : starEach (e :: es) X.env = (false, eval e X.env) :: starEach es X.env := by rfl) (hpl : (backTo pos (starEach es X.env)).any (·.1) = false := by rfl) :
    PE X (.Call (.Name x p) (e :: es) [] pos) (tCall sp dvs E t) := by
  obtain ⟨fd, ds, F, kp, v, b⟩ := h
  exact pe_call F (hr.mono hj) hg hm kp b v hx ha hdb he hpl
theorem pe_c0 (h : Ok X.prog X.w X.K X.mg X.base k f ps dvs sp) (hr : Room j X.A) (hj : k ≤ j) (hm : X.mg x = some (.ref f)) (hx : Passes (L2N.CX X.prog X.w) X E)
    (hg : Gl X x := by rfl) (hdb : (x == ("__debug__" : Str)) = false := by decide) : PE X (.Call (.Name x p) [] [] pos) (tCall sp dvs E tNil) := by
  obtain ⟨fd, ds, F, kp, v, b⟩ := h
  exact pe_call0 F (hr.mono hj) hg hm kp b v hx hdb
/-- in a try's body -/
theorem pe_cS (h : Ok X.prog X.w X.K X.mg X.base k f ps [] sp) (hr : Room j X.A) (hj : k ≤ j) (hm : X.mg x = some (.ref f)) (tk : L2N.Takes X W) (ha : PA X (e :: es) t)
    (hg : Gl X x := by rfl) (hdb : (x == ("__debug__" : Str)) = false := by decide) (he : starEach (e :: es) X.env = (false, eval e X.env) :: starEach es X.env := by rfl) (hpl : (backTo pos (starEach es X.env)).any (·.1) = false := by rfl) :
    PE X (.Call (.Name x p) (e :: es) [] pos) (tCallS sp (WE W) t) := by
  obtain ⟨fd, ds, F, kp, v, b⟩ := h
  cases v
  exact pe_callS F (hr.mono hj) hg hm kp b (fun σ => L2N.passAt tk σ) ha hdb he hpl
theorem x_callS {σ : L2.St} {H : Hp} {Q : VK} {E : L2.St → XK} (h : t σ H fun vs H1 => sp vs H1 Q (E σ)) : tCallS sp E t σ H Q := h
theorem hu64 (hr : Room j X.A) : X.A.units + 64 < cLine := by have := hr.un; omega
theorem hu65 (hr : Room j X.A) : X.A.units + 65 < cLine := by have := hr.un; omega
theorem pe_gstr {z : Str} (h : ∃ t, X.mg x = some (.str z t)) (hg : Gl X x := by rfl) (hd : (x == ("__debug__" : Str)) = false := by decide) : PE X (.Name x pos) (tC (.str z)) := by
  obtain ⟨t, h⟩ := h
  exact pe_glob hg h ⟨t, rfl⟩ hd
theorem pe_gint {z : Int} (h : ∃ t, X.mg x = some (.int z t)) (hg : Gl X x := by rfl) (hd : (x == ("__debug__" : Str)) = false := by decide) : PE X (.Name x pos) (tC (.int z)) := by
  obtain ⟨t, h⟩ := h
  exact pe_glob hg h ⟨t, rfl⟩ hd
theorem pe_gref {a : Addr} (h : X.mg x = some (.ref a)) (hg : Gl X x := by rfl) (hd : (x == ("__debug__" : Str)) = false := by decide) : PE X (.Name x pos) (tC (.ref a)) := pe_glob hg h rfl hd
theorem pe_ty {n : String} (h : X.mg x = none) (hv : bootBuiltins x = some (.type n)) (hg : Gl X x := by rfl) (hn : x ≠ "__name__" := by decide) (hd : (x == ("__debug__" : Str)) = false := by decide) : PE X (.Name x pos) (tC (.ty n)) := pe_bltn hg h hv rfl hn hd
end
/-! ### the error raised -/
/-- C(e) of an error class with the one field f: its dict d holds it -/
def spErr (K : PySem.W.Frag) (C : Addr) (f : Str) : Sp := fun vs H Q _ => ∃ (a : Addr) (y : V), vs = [.ref a, y] ∧ H a = some (exo a C none) ∧ OexC K C ∧ PySem.W.findIn K (.ref C) f = some none ∧
  ∀ dx, H dx = none → dx ≠ a → Q .non (upd (upd H dx (exd dx [(f, y)])) a (exo a C (some dx)))
theorem pmk_err {X : Cx} {x f pf : Str} {e : Expr} {ta : TA} {p pos : Pos} {C : Addr} {k j : Nat} (T : Err X.K C f) (O : Ok X.prog X.w X.K X.mg X.base k (He.ma X.K C "__init__") ["self", pf] [] (spErr X.K C f))
    (hr : Room j X.A) (hj : k + 1 ≤ j) (hm : X.mg x = some (.ref C)) (ha : PA X [e] ta) (hg : Gl X x := by rfl) (hdb : (x == ("__debug__" : Str)) = false := by decide) (he : starEach [e] X.env = (false, eval e X.env) :: starEach [] X.env := by rfl)
    (hpl : (backTo pos (starEach [] X.env)).any (·.1) = false := by rfl) : L2N.PMk X (.Call (.Name x p) [e] [] pos) (tMkO C (spErr X.K C f) [] ta) := by
  obtain ⟨fd, ds, F, kp, v, b⟩ := O
  cases v
  exact pmkN_oex (dvs := []) (ds := []) T.T T.iC T.tI F (hr.mono hj) b .nil passN0 hg hm ha hdb he hpl
theorem x_mk {σ : L2.St} {H : Hp} {C : Addr} {sp : Sp} {ta : TA} {Q : XK} (h : ta σ H fun vs H1 => vs.length ≤ 1000 ∧ ∀ a, H1 a = none → sp (.ref a :: (vs ++ [])) (upd H1 a (exo a C none))
  (fun v H2 => v = .non ∧ ∃ (d : Addr) (fs : List (Str × V)), H2 a = some (exo a C (some d)) ∧ H2 d = some (exd d fs) ∧ H1 d = none ∧ Q (.ref C) (some d) (upd (del H2 a) d (.xd fs))) (fun _ _ _ => False)) : tMkO C sp [] ta σ H Q := h
theorem x_err {K : PySem.W.Frag} {H : Hp} {C : Addr} {f : Str} {y : V} {Q : XK} (T : Err K C f) (h : ∀ d H2, H d = none → Same H H2 → H2 d = some (.xd [(f, y)]) → Q (.ref C) (some d) H2) :
    [y].length ≤ 1000 ∧ ∀ a, H a = none → spErr K C f (.ref a :: ([y] ++ [])) (upd H a (exo a C none))
      (fun v H2 => v = .non ∧ ∃ (d : Addr) (fs : List (Str × V)), H2 a = some (exo a C (some d)) ∧ H2 d = some (exd d fs) ∧ H d = none ∧ Q (.ref C) (some d) (upd (del H2 a) d (.xd fs))) (fun _ _ _ => False) := by
  refine ⟨Nat.le_trans (Nat.le_refl 1) (by decide), fun a ha => ⟨a, y, rfl, upd_same, T.T, T.nf, fun dx hdx hne => ⟨rfl, dx, [(f, y)], upd_same, ?_, ?_, ?_⟩⟩⟩
  · rw [upd_ne hne]
    exact upd_same
  · rw [upd_ne hne] at hdx
    exact hdx
  · have hd : H dx = none := by
      rw [upd_ne hne] at hdx
      exact hdx
    refine h dx _ hd (fun b o q => ?_) upd_same
    have nb : b ≠ dx := ne_of_none q hd
    have na : b ≠ a := ne_of_none q ha
    rw [upd_ne nb, del_ne na, upd_ne na, upd_ne nb, upd_ne na]
    exact q
end M
/-! ## == of data; more built-ins; except suites -/
namespace M
open PySem PySem.Spec PyProof.Rows L2
mutual
def J.py : J → PyData
  | .non => .none
  | .bl b => .bool b
  | .int i => .int i
  | .str s => .str s
  | .lst l => .list (J.pys l)
  | .tup l => .tuple (J.pys l)
  | .dct _ => .dict []
def J.pys : List J → List PyData
  | [] => []
  | d :: r => d.py :: J.pys r
end
mutual
/- no dict within -/
def J.nd : J → Bool
  | .lst l => J.nds l
  | .tup l => J.nds l
  | .dct _ => false
  | _ => true
def J.nds : List J → Bool
  | [] => true
  | d :: r => d.nd && J.nds r
end
section
variable {K : PySem.W.Frag} {H : Hp}
mutual
theorem Jp.dp : ∀ {v : V} {d : J}, Jp K H v d → d.nd = true → Dp K H v d.py
  | _, _, .non, _ => .non
  | _, _, .bl b, _ => .bl b
  | _, _, .int b, _ => .int b
  | _, _, .str b, _ => .str b
  | _, _, .lst h r, n => .lst (.inl (.inl h)) (Jps.dp r (by unfold J.nd at n; exact n))
  | _, _, .tup h r, n => .tup h (Jps.dp r (by unfold J.nd at n; exact n))
  | _, _, .dct h r, n => by unfold J.nd at n; cases n
theorem Jps.dp : ∀ {v : List V} {d : List J}, Jps K H v d → J.nds d = true → DpAll K H v (J.pys d)
  | _, _, .nil, _ => .nil
  | _, _, .cons h r, n => by
    unfold J.nds at n
    rw [Bool.and_eq_true] at n
    unfold J.pys
    exact .cons (Jp.dp h n.1) (Jps.dp r n.2)
end
end
def eqJ (d e : J) : Bool := PyData.eqv d.py e.py
/-- may be compared -/
def J.ok (d : J) : Bool := d.nd && PySem.SeqAt.shaped d.py
section
variable {K : PySem.W.Frag} {H : Hp} {Q : VK} {x y : V} {d e : J} {X : Cx}
def uEq (K : PySem.W.Frag) : R2 := fun x y H Q => rEq x y H Q ∨ rEqD K x y H Q
def uNe (K : PySem.W.Frag) : R2 := fun x y H Q => rNe x y H Q ∨ rNeD K x y H Q
theorem op_eqU (hu : X.A.units + 64 < cLine) : OpR X (compareOp .Eq) (uEq X.K) := OpR.or op_eq (op_eqD hu)
theorem op_neU (hu : X.A.units + 64 < cLine) : OpR X (compareOp .NotEq) (uNe X.K) := OpR.or op_ne (op_neD hu)
theorem eqU_s (q : Q (.bl (decide (x = y))) H) (h : scal x y = true := by rfl) : uEq K x y H Q := .inl ⟨h, q⟩
theorem neU_s (q : Q (.bl (!decide (x = y))) H) (h : scal x y = true := by rfl) : uNe K x y H Q := .inl ⟨h, q⟩
theorem eqU_i {i j : Int} (q : Q (.bl (decide (i = j))) H) : uEq K (.int i) (.int j) H Q := eqU_s (by
  have e : decide (V.int i = V.int j) = decide (i = j) := by by_cases h : i = j <;> simp [h]
  rw [e]; exact q)
theorem neU_i {i j : Int} (q : Q (.bl (!decide (i = j))) H) : uNe K (.int i) (.int j) H Q := neU_s (by
  have e : decide (V.int i = V.int j) = decide (i = j) := by by_cases h : i = j <;> simp [h]
  rw [e]; exact q)
theorem eqU_str {i j : Str} (q : Q (.bl (decide (i = j))) H) : uEq K (.str i) (.str j) H Q := eqU_s (by
  have e : decide (V.str i = V.str j) = decide (i = j) := by by_cases h : i = j <;> simp [h]
  rw [e]; exact q)
theorem neU_str {i j : Str} (q : Q (.bl (!decide (i = j))) H) : uNe K (.str i) (.str j) H Q := neU_s (by
  have e : decide (V.str i = V.str j) = decide (i = j) := by by_cases h : i = j <;> simp [h]
  rw [e]; exact q)
theorem jok {d : J} (h : d.ok = true) : d.nd = true ∧ PySem.SeqAt.shaped d.py = true := by unfold J.ok at h; rw [Bool.and_eq_true] at h; exact h
theorem eqU_J (hx : Jp K H x d) (hy : Jp K H y e) (q : Q (.bl (eqJ d e)) H) (h1 : d.ok = true) (h2 : e.ok = true) : uEq K x y H Q := .inr ⟨d.py, e.py, hx.dp (jok h1).1, hy.dp (jok h2).1, (jok h1).2, (jok h2).2, q⟩
theorem neU_J (hx : Jp K H x d) (hy : Jp K H y e) (q : Q (.bl (!eqJ d e)) H) (h1 : d.ok = true) (h2 : e.ok = true) : uNe K x y H Q := .inr ⟨d.py, e.py, hx.dp (jok h1).1, hy.dp (jok h2).1, (jok h1).2, (jok h2).2, q⟩
abbrev mSub : R2 := rI0 fun i j => .int (i - j)
abbrev mDiv : R2 := rI CDivW fun i j => .int (i / j)
abbrev mMod : R2 := rI (fun _ j => 0 < j) fun i j => .int (i % j)
abbrev mPow : R2 := rI CPow fun i j => .int (i ^ j.toNat)
abbrev mLt : R2 := rI0 fun i j => .bl (decide (i < j))
abbrev mLe : R2 := rI0 fun i j => .bl (decide (i ≤ j))
abbrev mGt : R2 := rI0 fun i j => .bl (decide (j < i))
abbrev mGe : R2 := rI0 fun i j => .bl (decide (j ≤ i))
abbrev mNeg : V → Hp → VK → Prop := rU fun i => .int (-i)
def mAbs : List V → Hp → VK → Prop := fun xs H Q => ∃ i, xs = [.int i] ∧ Q (.int (if i < 0 then -i else i)) H
theorem x_abs {i : Int} (q : Q (.int (i.natAbs : Int)) H) : mAbs [.int i] H Q := ⟨i, rfl, by
  have e : (if i < 0 then -i else i) = (i.natAbs : Int) := by split <;> omega
  rw [e]; exact q⟩
def mInt : List V → Hp → VK → Prop := fun xs H Q => (∃ i, xs = [.int i] ∧ Q (.int i) H) ∨ ∃ k, xs = [.bl k] ∧ Q (.int (if k then 1 else 0)) H
theorem x_int1 {i : Int} (q : Q (.int i) H) : mInt [.int i] H Q := .inl ⟨i, rfl, q⟩
theorem x_int1b {k : Bool} (q : Q (.int (if k then 1 else 0)) H) : mInt [.bl k] H Q := .inr ⟨k, rfl, q⟩
def mMax2 : List V → Hp → VK → Prop := fun xs H Q => ∃ i j, xs = [.int i, .int j] ∧ Q (.int (if j > i then j else i)) H
def mMin2 : List V → Hp → VK → Prop := fun xs H Q => ∃ i j, xs = [.int i, .int j] ∧ Q (.int (if j < i then j else i)) H
theorem x_max2 {i j : Int} (q : Q (.int (max i j)) H) : mMax2 [.int i, .int j] H Q := ⟨i, j, rfl, by
  have e : (if j > i then j else i) = max i j := by rw [Int.max_def]; split <;> split <;> omega
  rw [e]; exact q⟩
theorem x_min2 {i j : Int} (q : Q (.int (min i j)) H) : mMin2 [.int i, .int j] H Q := ⟨i, j, rfl, by
  have e : (if j < i then j else i) = min i j := by rw [Int.min_def]; split <;> split <;> omega
  rw [e]; exact q⟩
def uStr : List V → Hp → VK → Prop := fun xs H Q => (∃ i, xs = [.int i] ∧ i.natAbs.log2 < 1920 ∧ Q (.str (toString i)) H) ∨ ∃ a, xs = [.str a] ∧ Q (.str a) H
theorem call_strU : CallR X (.type "str") uStr := CallR.or call_str_int SkE.call_str_str
theorem strU_i {i : Int} (h : i.natAbs < 10 ^ 300) (q : Q (.str (toString i)) H) : uStr [.int i] H Q := by
  have h1 : i.natAbs < 2 ^ 1000 := Nat.lt_of_lt_of_le h (by decide +kernel)
  have h2 := PySem.Flt.log2_lt_of (by decide : 0 < 1000) h1
  exact .inl ⟨i, rfl, Nat.lt_trans h2 (by decide), q⟩
def tTruth (K : PySem.W.Frag) (ta : TE) : TT := fun σ H Q => ta σ H fun x H' => ∃ k, TruV K x H' k ∧ Q k H'
theorem pt_tru {a : Expr} {ta : TE} (ha : PE X a ta) (he : ∀ whole, isTrue a X.env whole = (do let v ← whole; standAt a.pos; holding [v] (truthy v)) := by intro _; rfl) : PT X a (tTruth X.K ta) := pt_truth ha he
theorem x_truth {σ : L2.St} {ta : TE} {R : Bool → Hp → Prop} (h : ta σ H fun x H' => ∃ k, TruV K x H' k ∧ R k H') : tTruth K ta σ H R := h
theorem x_truB {b : Bool} {R : Bool → Prop} (h : R b) : ∃ k, TruV K (.bl b) H k ∧ R k := ⟨b, rfl, h⟩
theorem x_truI {i : Int} {R : Bool → Prop} (h : R (i != 0)) : ∃ k, TruV K (.int i) H k ∧ R k := ⟨_, rfl, h⟩
theorem x_truL {a : Addr} {xs : List V} {R : Bool → Prop} (e : H a = some (.lst xs)) (h : R (!xs.isEmpty)) : ∃ k, TruV K (.ref a) H k ∧ R k := ⟨_, .inl ⟨xs, .inl (.inl e), rfl⟩, h⟩
theorem x_truT {a : Addr} {xs : List V} {R : Bool → Prop} (e : SqT K H a xs) (h : R (!xs.isEmpty)) : ∃ k, TruV K (.ref a) H k ∧ R k := ⟨_, .inr (.inl ⟨xs, e, rfl⟩), h⟩
theorem x_isB {a b : Bool} (q : Q (.bl (decide (a = b))) H) : rIsB (.bl a) (.bl b) H Q := ⟨a, b, rfl, rfl, q⟩
theorem x_notB {a b : Bool} (q : Q (.bl (!decide (a = b))) H) : rNotB (.bl a) (.bl b) H Q := ⟨a, b, rfl, rfl, q⟩
/-! ### types -/
def J.ty : J → String
  | .non => "NoneType"
  | .bl _ => "bool"
  | .int _ => "int"
  | .str _ => "str"
  | .lst _ => "list"
  | .tup _ => "tuple"
  | .dct _ => "dict"
theorem Jp.tyx {d : J} (h : Jp K H x d) : TyX K H x (.type d.ty) := by
  cases h with
  | non => exact .base .non
  | bl b => exact .base (.bl b)
  | int b => exact .base (.int b)
  | str b => exact .base (.str b)
  | lst h r => exact .base (.lst h)
  | tup h r =>
    rcases h with (h | ⟨o, h⟩) | ⟨o, its, n, h, c, _⟩
    · exact .base (.tup h)
    · exact .fTuple h
    · exact .kTuple h c
  | dct h r => exact .base (.dK h)
def isT (t c : String) : Bool := t == c || (t == "bool" && c == "int")
theorem kit_isT {t c : String} (h1 : t ∈ ["NoneType", "bool", "int", "str", "list", "tuple", "dict"]) (h2 : c ∈ ["bool", "int", "str", "list", "tuple", "dict"]) : kitB t c = some (isT t c) := by
  simp only [List.mem_cons, List.not_mem_nil, or_false] at h1 h2
  rcases h1 with rfl | rfl | rfl | rfl | rfl | rfl | rfl <;> rcases h2 with rfl | rfl | rfl | rfl | rfl | rfl <;> decide +kernel
theorem J.ty_mem (d : J) : d.ty ∈ ["NoneType", "bool", "int", "str", "list", "tuple", "dict"] := by cases d <;> simp [J.ty]
theorem x_isi {c : String} (hc : c ∈ ["bool", "int", "str", "list", "tuple", "dict"]) (h : Jp K H x d) (q : Q (.bl (isT d.ty c)) H) : rIsi K [x, .ty c] H Q :=
  ⟨x, .ty c, .type d.ty, .type c, _, rfl, .ty c, h.tyx, kit_ty (kit_isT d.ty_mem hc), q⟩
end
/-! ### raise and try -/
def tRaise (W : WX) (t : L2.St → Hp → XK → Prop) : TS := fun _ σ H => t σ H fun cls d H' => W cls d σ H'
theorem x_raise {W : WX} {t : L2.St → Hp → XK → Prop} {D : Ends} {σ : L2.St} {H : Hp} (h : t σ H fun cls d H' => W cls d σ H') : tRaise W t D σ H := h
def tTry (K : PySem.W.Frag) (c : Value) (i : Nat) (tb : WX → TS) (ts : Addr → Value → Option Addr → TS) : TS := fun D σ H => tb (wAs K c i ts (fun _ _ _ _ => False) D) D σ H
theorem x_try {K : PySem.W.Frag} {c : Value} {i : Nat} {tb : WX → TS} {ts : Addr → Value → Option Addr → TS} {D : Ends} {σ : L2.St} {H : Hp} (h : tb (wAs K c i ts (fun _ _ _ _ => False) D) D σ H) : tTry K c i tb ts D σ H := h
/-- the clause's own error comes -/
theorem x_caught {K : PySem.W.Frag} {C : Addr} {i : Nat} {ts : Addr → Value → Option Addr → TS} {n bk ct : L2.St → Hp → Prop} {r : VK} {σ : L2.St} {H : Hp} {d : Option Addr} (te : PySem.W.exmOne K (.ref C) (.ref C) = some true)
    (h : ∀ a, H a = none → ts a (.ref C) d (Ends.mk (fun σ' H' => n (σ'.set i none) H') r (fun σ' H' => bk (σ'.set i none) H') (fun σ' H' => ct (σ'.set i none) H')) (σ.set i (some (.ref a))) H) :
    wAs K (.ref C) i ts (fun _ _ _ _ => False) (Ends.mk n r bk ct) (.ref C) d σ H := ⟨true, te, fun _ a ha => h a ha, fun q => Bool.noConfusion q⟩
theorem x_xf {a : Addr} {cls : Value} {d : Option Addr} {C : Addr} {f : Str} {te : TE} {σ : L2.St} {H : Hp} {Q : VK} (h : te σ H fun x H1 => x = .ref a ∧ cls = .ref C ∧ ∃ (dd : Addr) (fs : List (Str × V)) (v : V), d = some dd ∧ H1 dd = some (.xd fs) ∧ fs.lookup f = some v ∧ Q v H1) : tXf a cls d C f te σ H Q := h
theorem x_xf1 {a C dd : Addr} {f : Str} {v : V} {H : Hp} {R : V → Prop} (e : H dd = some (.xd [(f, v)])) (q : R v) :
    V.ref a = .ref a ∧ Value.ref C = .ref C ∧ ∃ (d2 : Addr) (fs : List (Str × V)) (v : V), some dd = some d2 ∧ H d2 = some (.xd fs) ∧ fs.lookup f = some v ∧ R v := ⟨rfl, rfl, dd, _, v, rfl, e, by simp [List.lookup], q⟩
theorem x_isX {K : PySem.W.Frag} {C a dd : Addr} {f : Str} {v c : V} {cv : Value} {b : Bool} {H : Hp} {Q : VK} (T : Err K C f) (e : H dd = some (.xd [(f, v)])) (cl : ClsV c cv) (k : PySem.W.kitOne K (.ref C) cv = some b) (q : Q (.bl b) H) :
    rIsX K a (.ref C) (some dd) [.ref a, c] H Q := ⟨C, c, cv, b, rfl, rfl, .inr ⟨dd, _, rfl, e⟩, T.kx, T.xf, cl, k, q⟩
/-! ### calls in an except suite -/
def OkH (P : Program) (w : World) (K : PySem.W.Frag) (mg : Str → Option Value) (base : Heap) (k : Nat) (f : Addr) (ps : List Str) (sp : Sp) : Prop :=
  ∃ fd, L2H.FnH P w K mg base (L2N.CX P w) k f fd ps sp ∧ PySem.W.keepIn K (.ref f) = true ∧ Binds K fd ps []
theorem hot_of {X : Cx} {a : Addr} {cls : Value} {d : Option Addr} {oe : Obj} {pn : List (Addr × Obj)} (hz : L2N.Zn cls d oe) (hf : ∃ vs, oe.data = .fields vs) : L2H.HotC (X.suite a ((a, oe) :: pn)) := by
  obtain ⟨vs, h⟩ := hf
  exact ⟨(a, oe), ⟨rfl, vs, h, hz.2.2 vs h⟩, List.mem_cons_self⟩
theorem passAtN0 {X : Cx} {σ : L2.St} : PassesAt (L2N.CX X.prog X.w) X σ E0 := fun _ _ _ _ _ _ h => by
  obtain ⟨_, _, _, _, _, _, _, _, _, _, _, _, z⟩ := h
  exact z.elim
section
variable {X : Cx} {k j : Nat} {f : Addr} {ps : List Str} {sp : Sp} {x : Str} {p pos : Pos} {e : Expr} {es : List Expr} {t : TA}
theorem pe_cH {A : Around} {hv : Option Value} (h : OkH X.prog X.w X.K X.mg X.base k f ps sp) (hr : Room j A) (hj : k ≤ j) (hc : L2H.HotC X) (hm : X.mg x = some (.ref f)) (ha : PA X (e :: es) t) (hA : X.A = A.mark hv := by rfl)
    (hg : Gl X x := by rfl) (hdb : (x == ("__debug__" : Str)) = false := by decide) (he : starEach (e :: es) X.env = (false, eval e X.env) :: starEach es X.env := by rfl) (hpl : (backTo pos (starEach es X.env)).any (·.1) = false := by rfl) :
    PE X (.Call (.Name x p) (e :: es) [] pos) (tCallS sp (fun _ => E0) t) := by
  obtain ⟨fd, F, kp, b⟩ := h
  have r : L2H.RoomH k X.A := by
    rw [hA]
    exact ⟨by have := (hr.mono hj).dp; exact this, by have := (hr.mono hj).un; exact this⟩
  exact L2H.pe_callH F r hc hg hm kp b (fun _ => passAtN0) ha hdb he hpl
end
theorem okH_of {P : Program} {w : World} {K : PySem.W.Frag} {mg : Str → Option Value} {base : Heap} {x qual : Str} {params : Arguments} {body : List Stmt} {scope : Scope} {f : Addr} {fd : FuncData} {N ps : List Str} {k : Nat} {sp : Sp}
    (F : FunD K x qual params body scope [] [] f fd) (S : FnScope N ps scope) (len : ∀ vs H Q E, sp vs H Q E → vs.length = ps.length) (b : Binds K fd ps [])
    (hbody : ∀ (cdv : Value) (A : Around) (outer : List Env) (s : Shared) (H : Hp) (vs : List V) (Q : VK) (E : XK) (p : Addr × Obj), L2H.Hot1 A p → L2H.RoomH k (A.deeper (envOfC qual scope s.heap.objs.size f cdv)) → sp vs H Q E →
      ∃ t, PSs (L2H.cxH (L2N.CX P w) P w K mg base N qual scope f cdv A outer s H E p) body t ∧ t { nx := fun _ H' => Q .non H', rt := Q } (start N vs) H) : OkH P w K mg base (k + 1) f ps sp := by
  have kp := F.kp
  obtain ⟨oc, od, dV, kV, doc, pm, an, cdv, ct, osl, rfl, lk, hcd, _, _⟩ := F.ex
  exact ⟨_, L2H.fn_ofH lk hcd S len fun A outer s H vs Q E p hot hr h => hbody cdv A outer s H vs Q E p hot hr h, kp, b⟩
end M
namespace M
open PySem PySem.Spec PyProof.Rows L2
/-! ## keywords alone; a def's proof in parts -/
def tKw0 (m : Nat) (sp : Sp) (gV : List V → List V → List V) (E : XK) (tk : TA) : TE := fun σ H Q => tk σ H fun zs H2 => zs.length = m ∧ sp (gV [] zs) H2 Q E
theorem x_kw0 {m : Nat} {sp : Sp} {gV : List V → List V → List V} {E : XK} {tk : TA} {σ : L2.St} {H : Hp} {Q : VK} (h : tk σ H fun zs H2 => zs.length = m ∧ sp (gV [] zs) H2 Q E) : tKw0 m sp gV E tk σ H Q := h
def OkK (P : Program) (w : World) (K : PySem.W.Frag) (mg : Str → Option Value) (base : Heap) (k : Nat) (f : Addr) (ps : List Str) (n : Nat) (ks : List Str) (gV : List V → List V → List V) (sp : Sp) : Prop :=
  ∃ fd g, FnOk P w K mg base (L2N.CX P w) k f fd ps sp ∧ PySem.W.keepIn K (.ref f) = true ∧ KBn K fd ps n ks g gV
section
variable {X : Cx} {k j n : Nat} {f : Addr} {ps ks : List Str} {sp : Sp} {E : XK} {x : Str} {p pos : Pos} {e : Expr} {es : List Expr} {kws : List Keyword} {t tk : TA} {gV : List V → List V → List V}
theorem pe_kw0 (h : OkK X.prog X.w X.K X.mg X.base k f ps 0 ks gV sp) (hr : Room j X.A) (hj : k ≤ j) (hm : X.mg x = some (.ref f)) (hx : Passes (L2N.CX X.prog X.w) X E) (hkw : PK X kws tk)
    (hg : Gl X x := by rfl) (hall : (backToKw pos (keywordEach kws X.env)).all (·.1.isSome) = true := by rfl) (hks : (backToKw pos (keywordEach kws X.env)).filterMap (·.1) = ks := by rfl)
    (hdb : (x == ("__debug__" : Str)) = false := by decide)
    (hpl : ((backTo pos (starEach [] X.env)).any (·.1) || (backToKw pos (keywordEach kws X.env)).any (·.1.isNone)) = false := by rfl) :
    PE X (.Call (.Name x p) [] kws pos) (tKw0 ks.length sp gV E tk) := by
  obtain ⟨fd, g, F, kp, b⟩ := h
  refine ⟨fun pins s σ H Q I h => ?_⟩
  refine wpAny_Call_Name_kw (ld_glob I hg hm ?_ hdb)
  refine PySem.W.callWith_KW0 (h₀ := X.base) I.ok.mod.kin kp hall ?_ hpl
  refine thn (hkw.run pos pins s σ H _ I h) fun ws s2 ⟨zs, H2, I2, rz, l2, q2⟩ => ⟨I2.kIn, ?_⟩
  rw [hks]
  exact run_fnN (us := []) (vs := []) F (hr.mono hj) b hx I2 .nil rz rfl l2 q2
theorem pe_kwN (h : OkK X.prog X.w X.K X.mg X.base k f ps n ks gV sp) (hr : Room j X.A) (hj : k ≤ j) (hm : X.mg x = some (.ref f)) (hx : Passes (L2N.CX X.prog X.w) X E) (ha : PA X (e :: es) t) (hkw : PK X kws tk)
    (hg : Gl X x := by rfl) (hall : (backToKw pos (keywordEach kws X.env)).all (·.1.isSome) = true := by rfl) (hks : (backToKw pos (keywordEach kws X.env)).filterMap (·.1) = ks := by rfl)
    (hdb : (x == ("__debug__" : Str)) = false := by decide) (he : starEach (e :: es) X.env = (false, eval e X.env) :: starEach es X.env := by rfl)
    (hpl : ((backTo pos (starEach (e :: es) X.env)).any (·.1) || (backToKw pos (keywordEach kws X.env)).any (·.1.isNone)) = false := by rfl) :
    PE X (.Call (.Name x p) (e :: es) kws pos) (tCallN n ks.length sp gV E t tk) := by
  obtain ⟨fd, g, F, kp, b⟩ := h
  exact pe_callN F (hr.mono hj) hg hm kp b hx ha hkw hall hks hdb he hpl
end
theorem vals_getD : ∀ {vs : List V} {us : List Value} (i : Nat), Vals vs us → RelV (vs.getD i .non) (us.getD i .none)
  | _, _, _, .nil => rfl
  | _, _, 0, .cons r _ => r
  | _, _, i + 1, .cons _ t => vals_getD i t
theorem vals_pick {vs : List V} {us : List Value} (r : Vals vs us) : ∀ idx : List Nat, Vals (idx.map fun i => vs.getD i .non) (idx.map fun i => us.getD i .none)
  | [] => .nil
  | i :: l => .cons (vals_getD i r) (vals_pick r l)
section
variable {K : PySem.W.Frag} {x qual : Str} {params : Arguments} {body : List Stmt} {scope : Scope} {dvs : List V} {kws : List (Str × V)} {f : Addr} {fd : FuncData} {ps : List Str}
/-- keywords, positional defaults: each parameter takes its value out of: positional values, keywords' values, defaults -/
theorem kbinds1 (F : FunD K x qual params body scope dvs kws f fd) (n : Nat) (ks : List Str) (idx : List Nat) (hd : dvs ≠ [])
    (h : ∀ (T : Addr) (kV doc pm : Value) (an : Option Addr) (cdv ct : Value) (us its ws : List Value), us.length = n → its.length = dvs.length → ws.length = ks.length →
      ∃ k, bindArgs (PySem.W.fnOf x qual params body scope (.ref T) kV doc pm an cdv ct) ⟨us, ks.zip ws⟩ = seqItems? (.ref T) >>= k ∧ k (some its.toArray) = pure (ps.zip (idx.map fun i => (us ++ ws ++ its).getD i .none))) :
    ∃ g, KBn K fd ps n ks g (fun vs zs => idx.map fun i => (vs ++ zs ++ dvs).getD i .non) := by
  obtain ⟨oc, od, dV, kV, doc, pm, an, cdv, ct, osl, rfl, lk, hcd, hD, hK⟩ := F.ex
  rcases hD with ⟨e, _⟩ | ⟨_, T, o, its, m, rfl, lT, oT, rT⟩
  · exact absurd e hd
  · refine ⟨fun us ws => idx.map fun i => (us ++ ws ++ its).getD i .none, fun s us ws X l1 l2 => BindsTo.of_looks fun M => ?_, fun r1 r2 => vals_pick ((r1.append r2).append rT) idx⟩
    obtain ⟨k, e1, e2⟩ := h T kV doc pm an cdv ct us its ws l1 rT.length.symm l2
    rw [e1]
    exact looks_items X lT oT (.of_pure e2)
/-- keywords, no defaults -/
theorem kbindsN (F : FunD K x qual params body scope [] kws f fd) (n : Nat) (ks : List Str) (idx : List Nat)
    (h : ∀ (kV doc pm : Value) (an : Option Addr) (cdv ct : Value) (us ws : List Value), us.length = n → ws.length = ks.length →
      bindArgs (PySem.W.fnOf x qual params body scope .none kV doc pm an cdv ct) ⟨us, ks.zip ws⟩ = pure (ps.zip (idx.map fun i => (us ++ ws).getD i .none))) :
    ∃ g, KBn K fd ps n ks g (fun vs zs => idx.map fun i => (vs ++ zs).getD i .non) := by
  obtain ⟨oc, od, dV, kV, doc, pm, an, cdv, ct, osl, rfl, lk, hcd, hD, hK⟩ := F.ex
  rcases hD with ⟨_, rfl⟩ | ⟨e, _⟩
  · exact ⟨fun us ws => idx.map fun i => (us ++ ws).getD i .none, fun s us ws X l1 l2 => .of_eq (h kV doc pm an cdv ct us ws l1 l2), fun r1 r2 => vals_pick (r1.append r2) idx⟩
  · exact absurd rfl e
end
section
variable {P : Program} {w : World} {K : PySem.W.Frag} {mg : Str → Option Value} {base : Heap} {x qual : Str} {params : Arguments} {body : List Stmt} {scope : Scope} {dvs : List V} {kws : List (Str × V)} {f : Addr} {N ps : List Str} {k : Nat} {sp : Sp}
theorem fnF {fd : FuncData} (F : FunD K x qual params body scope dvs kws f fd) (S : FnScope N ps scope) (len : ∀ vs H Q E, sp vs H Q E → vs.length = ps.length) {t : XK → TS}
    (der : ∀ (f : Addr) (cdv : Value) (A : Around) (outer : List Env) (s : Shared) (H : Hp) (E : XK), Room k (A.deeper (envOfC qual scope s.heap.objs.size f cdv)) → PSs (cxOf (L2N.CX P w) P w K mg base N qual scope f cdv A outer s H E) body (t E))
    (rd : ∀ vs H Q E, sp vs H Q E → t E (Ends.mk (fun _ H' => Q .non H') Q (fun _ _ => False) (fun _ _ => False)) (start N vs) H) : FnOk P w K mg base (L2N.CX P w) (k + 1) f fd ps sp :=
  F.ok S len fun cdv A outer s H vs Q E hr h => ⟨t E, der f cdv A outer s H E hr, rd vs H Q E h⟩
theorem okF (F : ∃ fd, FunD K x qual params body scope [] kws f fd) (S : FnScope N ps scope) (len : ∀ vs H Q E, sp vs H Q E → vs.length = ps.length) {t : XK → TS}
    (b : ∀ (kV doc pm : Value) (an : Option Addr) (cdv ct : Value) (us : List Value), us.length = ps.length → bindArgs (PySem.W.fnOf x qual params body scope .none kV doc pm an cdv ct) ⟨us, []⟩ = pure (ps.zip us))
    (der : ∀ (f : Addr) (cdv : Value) (A : Around) (outer : List Env) (s : Shared) (H : Hp) (E : XK), Room k (A.deeper (envOfC qual scope s.heap.objs.size f cdv)) → PSs (cxOf (L2N.CX P w) P w K mg base N qual scope f cdv A outer s H E) body (t E))
    (rd : ∀ vs H Q E, sp vs H Q E → t E (Ends.mk (fun _ H' => Q .non H') Q (fun _ _ => False) (fun _ _ => False)) (start N vs) H) : Ok P w K mg base (k + 1) f ps [] sp := by
  obtain ⟨fd, F⟩ := F
  exact ⟨fd, [], fnF F S len der rd, F.kp, .nil, F.bindsN b⟩
/-- some positional defaults: n values are written, j of the defaults are not needed -/
theorem okF1 (n j : Nat) (F : ∃ fd, FunD K x qual params body scope dvs kws f fd) (S : FnScope N ps scope) (len : ∀ vs H Q E, sp vs H Q E → vs.length = ps.length) {t : XK → TS} (hd : dvs ≠ []) (hn : n + (dvs.length - j) = ps.length)
    (b : ∀ (T : Addr) (kV doc pm : Value) (an : Option Addr) (cdv ct : Value) (us its : List Value), us.length = n → its.length = dvs.length →
      ∃ k, bindArgs (PySem.W.fnOf x qual params body scope (.ref T) kV doc pm an cdv ct) ⟨us, []⟩ = seqItems? (.ref T) >>= k ∧ k (some its.toArray) = pure (ps.zip (us ++ its.drop j)))
    (der : ∀ (f : Addr) (cdv : Value) (A : Around) (outer : List Env) (s : Shared) (H : Hp) (E : XK), Room k (A.deeper (envOfC qual scope s.heap.objs.size f cdv)) → PSs (cxOf (L2N.CX P w) P w K mg base N qual scope f cdv A outer s H E) body (t E))
    (rd : ∀ vs H Q E, sp vs H Q E → t E (Ends.mk (fun _ H' => Q .non H') Q (fun _ _ => False) (fun _ _ => False)) (start N vs) H) : Ok P w K mg base (k + 1) f ps (dvs.drop j) sp := by
  obtain ⟨fd, F⟩ := F
  obtain ⟨ds, v, bb⟩ := F.binds1 n j hd hn b
  exact ⟨fd, ds, fnF F S len der rd, F.kp, v, bb⟩
end
end M
namespace M
open PySem PySem.Spec PyProof.Rows L2
theorem get_new {H : Hp} {p a : Addr} {o u : HO} (hp : H p = none) (h : H a = some o) : upd H p u a = some o := by rw [upd_ne (ne_of_none h hp)]; exact h
end M
namespace M
open PySem PySem.Spec PyProof.Rows L2
/-! ## all stands but b -/
def But (b : Addr) (H H' : Hp) : Prop := ∀ a o, a ≠ b → H a = some o → H' a = some o
section
variable {K : PySem.W.Frag} {H H1 H' : Hp} {a b : Addr} {o : HO} {xs : List V}
theorem But.refl : But b H H := fun _ _ _ h => h
theorem But.trans (e : But b H H1) (f : But b H1 H') : But b H H' := fun c u n h => f c u n (e c u n h)
theorem Same.but (e : Same H H') : But b H H' := fun c u _ h => e c u h
theorem But.up {u : HO} : But b H (upd H b u) := fun c v n h => by rw [upd_ne n]; exact h
/-- what is not there before b was -/
theorem But.same (e : But b H1 H') (h : Same H H1) (hb : H b = none) : Same H H' := fun c u q => e c u (ne_of_none q hb) (h c u q)
theorem sql_same (e : Same H H') (h : SqL K H a xs) : SqL K H' a xs := e.seq h
/- no list within -/
mutual
def J.nl : J → Bool
  | .lst _ => false
  | .tup l => J.nls l
  | .dct _ => false
  | _ => true
def J.nls : List J → Bool
  | [] => true
  | d :: r => d.nl && J.nls r
end
theorem sqt_but {ys : List V} (e : But b H H') (hb : H b = some (.lst ys)) (h : SqT K H a xs) : SqT K H' a xs := by
  rcases h with (h | ⟨o, h⟩) | h
  · exact .inl (.inl (e _ _ (ne_of h hb (by intro z; cases z)) h))
  · exact .inl (.inr ⟨o, e _ _ (ne_of h hb (by intro z; cases z)) h⟩)
  · exact .inr h
mutual
theorem Jp.but {ys : List V} (e : But b H H') (hb : H b = some (.lst ys)) : ∀ {v : V} {d : J}, Jp K H v d → d.nl = true → Jp K H' v d
  | _, _, .non, _ => .non
  | _, _, .bl b, _ => .bl b
  | _, _, .int b, _ => .int b
  | _, _, .str b, _ => .str b
  | _, _, .lst h r, n => by unfold J.nl at n; cases n
  | _, _, .tup h r, n => .tup (sqt_but e hb h) (Jps.but e hb r (by unfold J.nl at n; exact n))
  | _, _, .dct h r, n => by unfold J.nl at n; cases n
theorem Jps.but {ys : List V} (e : But b H H') (hb : H b = some (.lst ys)) : ∀ {v : List V} {d : List J}, Jps K H v d → J.nls d = true → Jps K H' v d
  | _, _, .nil, _ => .nil
  | _, _, .cons h r, n => by
    unfold J.nls at n
    rw [Bool.and_eq_true] at n
    exact .cons (Jp.but e hb h n.1) (Jps.but e hb r n.2)
end
end
/-! ## the law's bag of draws: n draws at most were mixed -/
def Bag (H : Hp) (b : Addr) (n : Nat) : Prop := ∃ L M c : Int, H b = some (.lst [.int L, .int M, .int c]) ∧ 0 ≤ M ∧ M < 7 * 2 ^ 61 + 10 ^ 6 ∧ 0 ≤ c ∧ c ≤ n
theorem Bag.mono {H : Hp} {b : Addr} {n m : Nat} (h : Bag H b n) (l : n ≤ m) : Bag H b m := by
  obtain ⟨L, M, c, e, h1, h2, h3, h4⟩ := h
  exact ⟨L, M, c, e, h1, h2, h3, by omega⟩
theorem Bag.same {H H' : Hp} {b : Addr} {n : Nat} (h : Bag H b n) (e : Same H H') : Bag H' b n := by
  obtain ⟨L, M, c, q, r⟩ := h
  exact ⟨L, M, c, e _ _ q, r⟩
theorem Bag.but {H H' : Hp} {b c : Addr} {n : Nat} (h : Bag H b n) (e : But c H H') (ne : b ≠ c) : Bag H' b n := by
  obtain ⟨L, M, k, q, r⟩ := h
  exact ⟨L, M, k, e _ _ ne q, r⟩
theorem Bag.lst {H : Hp} {b : Addr} {n : Nat} (h : Bag H b n) : ∃ ys, H b = some (.lst ys) := by
  obtain ⟨L, M, k, q, r⟩ := h
  exact ⟨_, q⟩
theorem Jp.bag {K : PySem.W.Frag} {H H' : Hp} {b : Addr} {n : Nat} {v : V} {d : J} (h : Jp K H v d) (e : But b H H') (g : Bag H b n) (nl : d.nl = true) : Jp K H' v d := by
  obtain ⟨ys, q⟩ := g.lst
  exact h.but e q nl
theorem x_dnew {H : Hp} {σ : L2.St} {Q : VK} (h : ∀ p H1, H p = none → Same H H1 → H1 p = some (.dK []) → Q (.ref p) H1) : tDNewK σ H Q := fun p hp => h p _ hp (same_new hp) upd_same
end M
namespace M
open PySem PySem.Spec PyProof.Rows L2
theorem cpow {i j : Int} (h0 : 0 ≤ j) (h1 : j ≤ 1000000) (h : i.natAbs < 2 ^ 64) : CPow i j := ⟨h0, h1, h⟩
theorem x_pow {i j : Int} {k : Nat} {H : Hp} {Q : VK} (h : i.natAbs < 2 ^ 64) (q : Q (.int (i ^ k)) H) (e : j.toNat = k := by with_unfolding_all rfl) (h0 : 0 ≤ j := by decide) (h1 : j ≤ 1000000 := by decide) : mPow (.int i) (.int j) H Q := by
  subst e
  exact ⟨i, j, rfl, rfl, ⟨h0, h1, h⟩, q⟩
theorem x_powL {i : Int} {k : Nat} {H : Hp} {Q : VK} (h : i.natAbs < 2 ^ 64) (q : Q (.int (i ^ (OfNat.ofNat k : Nat))) H) (h1 : k ≤ 1000000 := by decide) : mPow (.int i) (.int (OfNat.ofNat k : Int)) H Q :=
  x_pow h q rfl (by show (0 : Int) ≤ (k : Int); omega) (by show (k : Int) ≤ 1000000; omega)
theorem atI_of {α : Type} {xs : List α} {i : Int} {x : α} (h0 : 0 ≤ i) (h : xs[i.toNat]? = some x) : atI xs i = some x := by
  have hl : i.toNat < xs.length := by
    rcases Nat.lt_or_ge i.toNat xs.length with l | l
    · exact l
    · rw [List.getElem?_eq_none l] at h; cases h
  unfold atI ixN
  rw [if_pos h0, if_pos (by omega)]
  exact h
theorem atI_ints {ns : List Int} {i : Int} (h0 : 0 ≤ i) (h : i < ns.length) : atI (ns.map V.int) i = some (.int (ns.getD i.toNat 0)) := by
  refine atI_of h0 ?_
  have hl : i.toNat < ns.length := by omega
  rw [List.getElem?_map, List.getElem?_eq_getElem hl, List.getD_eq_getElem?_getD, List.getElem?_eq_getElem hl]
  rfl
end M
namespace M
open PySem PySem.Spec PyProof.Rows L2
theorem sqt_of {K : PySem.W.Frag} {H : Hp} {a : Addr} {xs : List V} (h : H a = some (.tup xs)) : SqT K H a xs := .inl (.inl h)
theorem sql_of {K : PySem.W.Frag} {H : Hp} {a : Addr} {xs : List V} (h : H a = some (.lst xs)) : SqL K H a xs := .inl (.inl h)
end M
namespace M
open PySem PySem.Spec PyProof.Rows L2
theorem hu64M {j : Nat} {A : Around} {h : Option Value} (hr : Room j A) : (A.mark h).units + 64 < cLine := by
  have := hr.un
  show A.units + 64 < cLine
  omega
theorem hu65M {j : Nat} {A : Around} {h : Option Value} (hr : Room j A) : (A.mark h).units + 65 < cLine := by
  have := hr.un
  show A.units + 65 < cLine
  omega
end M
namespace M
open PySem PySem.Spec PyProof.Rows L2
theorem x_WE {W : WX} {σ : L2.St} {cls : Value} {d : Option Addr} {H : Hp} (h : W cls d σ H) : WE W σ cls d H := h
end M
namespace M
open PySem PySem.Spec PyProof.Rows L2
/-! ## for -/
def ForB (J : It) (g : TG) (tb : TS) (D : Ends) (σ : L2.St) (H : Hp) : Prop := ∃ W : Nat → Nat → L2.St → Hp → Prop, (∃ m, W 0 m σ H) ∧ ∀ i m σ H, W i m σ H →
  (J.stop i H ∧ D.nx σ H) ∨ (J.go i H ∧ ∃ N : L2.St → Hp → Prop, (∀ σ' H', N σ' H' → ∃ m', m' < m ∧ W (i + 1) m' σ' H') ∧ ∀ x H', J.yld i H x H' → g x σ H' fun σ2 H2 => tb { D with nx := N, ct := N, bk := D.nx } σ2 H2)
section
variable {K : PySem.W.Frag} {wi : TI} {g : TG} {tb : TS} {n bk ct : L2.St → Hp → Prop} {r : VK} {σ : L2.St} {H : Hp} {ta : TA} {tl : TE} {R : It → Hp → Prop} {a : Addr} {xs : List V}
theorem x_for (h : wi σ H fun J H1 => ForB J g tb (Ends.mk n r bk ct) σ H1) : tFor wi g tb (Ends.mk n r bk ct) σ H := h
def RngJ (vs : List V) (H : Hp) (R : It → Hp → Prop) : Prop := ∃ j : Int, vs = [.int j] ∧ -(2 ^ 62) ≤ j ∧ j < 2 ^ 62 ∧ R (Itr 0 j.toNat) H
theorem x_rng1 (h : ta σ H fun vs H1 => RngJ vs H1 R) : iRng1 ta σ H R := h
theorem x_rngJ {j : Int} (h1 : -(2 ^ 62) ≤ j) (h2 : j < 2 ^ 62) (q : R (Itr 0 j.toNat) H) : RngJ [.int j] H R := ⟨j, rfl, h1, h2, q⟩
def IterL (K : PySem.W.Frag) (x : V) (H : Hp) (R : It → Hp → Prop) : Prop := ∃ a, x = .ref a ∧ (∃ xs, SqL K H a xs) ∧ R (Itl K a) H
def IterT (K : PySem.W.Frag) (x : V) (H : Hp) (R : It → Hp → Prop) : Prop := ∃ a, x = .ref a ∧ (∃ xs, SqT K H a xs) ∧ R (Itt K a) H
theorem x_iL (h : tl σ H fun x H1 => IterL K x H1 R) : iList K tl σ H R := h
theorem x_iL1 (h : SqL K H a xs) (q : R (Itl K a) H) : IterL K (.ref a) H R := ⟨a, rfl, ⟨xs, h⟩, q⟩
theorem x_iT (h : tl σ H fun x H1 => IterT K x H1 R) : iTup K tl σ H R := h
theorem x_iT1 (h : SqT K H a xs) (q : R (Itt K a) H) : IterT K (.ref a) H R := ⟨a, rfl, ⟨xs, h⟩, q⟩
theorem forR {k : Nat} (Pv : Nat → L2.St → Hp → Prop) (h0 : Pv 0 σ H) (hs : ∀ (i : Nat) σ H, i < k → Pv i σ H → g (.int (i : Int)) σ H fun σ2 H2 => tb (Ends.mk (Pv (i + 1)) r n (Pv (i + 1))) σ2 H2) (hd : ∀ σ H, Pv k σ H → n σ H) :
    ForB (Itr 0 k) g tb (Ends.mk n r bk ct) σ H := for_range (lo := 0) (n := k) (D := Ends.mk n r bk ct) Pv h0 (fun i σ H h p => by
      have e : (0 : Int) + (i : Int) = (i : Int) := by omega
      rw [e]
      exact hs i σ H h p) hd
theorem forL (xs : List V) (Pv : Nat → L2.St → Hp → Prop) (h0 : Pv 0 σ H) (hl : ∀ i σ H, i ≤ xs.length → Pv i σ H → SqL K H a xs) (hs : ∀ (i : Nat) x σ H, xs[i]? = some x → Pv i σ H → g x σ H fun σ2 H2 => tb (Ends.mk (Pv (i + 1)) r n (Pv (i + 1))) σ2 H2) (hd : ∀ σ H, Pv xs.length σ H → n σ H) :
    ForB (Itl K a) g tb (Ends.mk n r bk ct) σ H := for_list (D := Ends.mk n r bk ct) Pv h0 hl hs hd
theorem forT (xs : List V) (Pv : Nat → L2.St → Hp → Prop) (h0 : Pv 0 σ H) (hl : ∀ i σ H, i ≤ xs.length → Pv i σ H → SqT K H a xs) (hs : ∀ (i : Nat) x σ H, xs[i]? = some x → Pv i σ H → g x σ H fun σ2 H2 => tb (Ends.mk (Pv (i + 1)) r n (Pv (i + 1))) σ2 H2) (hd : ∀ σ H, Pv xs.length σ H → n σ H) :
    ForB (Itt K a) g tb (Ends.mk n r bk ct) σ H := for_tup (D := Ends.mk n r bk ct) Pv h0 hl hs hd
end
end M

namespace T
open PySem PySem.Spec PyProof.Rows L2 M
/-! ## words: x (steps of a reading), get (what stands at an address), same (all stands), sd (side conditions), jp (data) -/
local macro_rules | `(tactic| walk_at "sd") => `(tactic| first | assumption | omega | decide)
local macro_rules | `(tactic| walk_at "len") => `(tactic| first | omega | decide | (simp only [List.length_cons, List.length_nil]; decide))
local macro_rules | `(tactic| walk_at "same") => `(tactic| first
  | assumption
  | exact Same.refl _
  | (with_reducible refine same_new (by assumption))
  | (with_reducible refine Same.trans ?_ (by assumption); walk_at "same"))
local macro_rules | `(tactic| walk_at "get") => `(tactic| first
  | assumption
  | (with_reducible apply upd_same)
  | ((with_reducible apply same_to); assumption; walk_at "get")
  | ((with_reducible apply get_new); assumption; walk_at "get"))
local macro_rules | `(tactic| walk_at "sqt") => `(tactic| first
  | assumption
  | ((with_reducible apply sqt_of); walk_at "get")
  | ((with_reducible apply sqt_same); assumption; walk_at "sqt"))
local macro_rules | `(tactic| walk_at "sql") => `(tactic| first
  | assumption
  | ((with_reducible apply sql_of); walk_at "get")
  | ((with_reducible apply sql_same); assumption; walk_at "sql"))
local macro_rules | `(tactic| walk_at "jp") => `(tactic| first
  | assumption
  | (with_reducible apply Jp.int) | (with_reducible apply Jp.str) | (with_reducible apply Jp.bl) | (with_reducible apply Jp.non)
  | (with_reducible apply Jps.nil)
  | ((with_reducible apply Jps.cons); walk_at "jp"; walk_at "jp")
  | ((with_reducible apply Jp.tup); walk_at "sqt"; walk_at "jp")
  | ((with_reducible apply Jp.lst); walk_at "get"; walk_at "jp")
  | ((with_reducible apply Jp.dct); walk_at "get"; walk_at "jp")
  | (with_reducible apply Jpd.nil)
  | ((with_reducible apply Jpd.cons); walk_at "jp"; walk_at "jp")
  | ((with_reducible apply Jp.same); assumption; walk_at "jp")
  | ((with_reducible apply Jps.same); assumption; walk_at "jp"))
local macro_rules | `(tactic| walk_at "x") => `(tactic| (repeat (first
  | with_reducible refine x_var ?_
  | with_reducible refine x_c ?_
  | with_reducible refine x_op ?_
  | with_reducible refine x_cons ?_
  | with_reducible refine x_nil ?_
  | with_reducible refine x_seq ?_
  | with_reducible refine x_asg ?_
  | with_reducible refine x_name ?_
  | with_reducible refine x_next ?_
  | with_reducible refine x_ret ?_
  | with_reducible refine x_ifS ?_
  | with_reducible refine x_test ?_
  | with_reducible refine x_bl ?_
  | with_reducible refine x_truth ?_
  | with_reducible refine x_truB ?_
  | with_reducible refine x_truI ?_
  | with_reducible refine x_I0 ?_
  | with_reducible refine x_I (by walk_at "sd") ?_
  | with_reducible refine addU_i ?_
  | with_reducible refine mulU_i ?_ (by first | assumption | exact cmul (by walk_at "sd") (by walk_at "sd") | exact cmulB (by walk_at "sd") (by walk_at "sd"))
  | with_reducible refine x_I (cdiv (by walk_at "sd") (by walk_at "sd")) ?_
  | with_reducible refine x_I (cdivB (by walk_at "sd") (by walk_at "sd")) ?_
  | with_reducible refine x_powL (by walk_at "sd") ?_
  | with_reducible refine x_pow (by walk_at "sd") ?_
  | with_reducible refine eqU_i ?_
  | with_reducible refine neU_i ?_
  | with_reducible refine eqU_str ?_
  | with_reducible refine neU_str ?_
  | with_reducible refine x_un ?_
  | with_reducible refine x_U ?_
  | with_reducible refine x_not ?_
  | with_reducible refine x_and ?_
  | with_reducible refine x_or ?_
  | with_reducible refine x_andV ?_
  | with_reducible refine x_orV ?_
  | with_reducible refine x_notV ?_
  | with_reducible refine x_if ?_
  | with_reducible refine x_tB ?_
  | with_reducible refine x_isN ?_
  | with_reducible refine x_notN ?_
  | with_reducible refine x_isB ?_
  | with_reducible refine x_notB ?_
  | with_reducible refine x_cb ?_
  | with_reducible refine x_abs ?_
  | with_reducible refine x_int1 ?_
  | with_reducible refine x_int1b ?_
  | with_reducible refine x_max2 ?_
  | with_reducible refine strU_i (by walk_at "sd") ?_
  | with_reducible refine x_min2 ?_
  | with_reducible refine x_call ?_
  | with_reducible refine x_callS ?_
  | with_reducible refine x_tup ?_
  | with_reducible refine x_lst ?_
  | with_reducible refine x_par ?_
  | with_reducible refine x_two ?_
  | with_reducible refine x_par3 ?_
  | with_reducible refine x_three ?_
  | with_reducible refine x_drop ?_
  | with_reducible refine x_retN ?_
  | with_reducible refine x_chain ?_
  | with_reducible refine x_break ?_
  | with_reducible refine x_cont ?_
  | with_reducible refine x_gsub ?_
  | with_reducible refine x_gcons ?_
  | with_reducible refine x_gnil ?_
  | with_reducible refine x_gtup (by walk_at "sqt") ?_
  | with_reducible refine x_raise ?_
  | with_reducible refine x_try ?_
  | with_reducible refine x_mk ?_
  | with_reducible refine x_kw0 ?_
  | with_reducible refine x_for ?_
  | with_reducible refine x_rng1 ?_
  | with_reducible refine x_iL ?_
  | with_reducible refine x_iT ?_
  | with_reducible refine x_xf ?_
  | with_reducible refine x_xf1 (by walk_at "get") ?_
  | with_reducible refine x_bm ?_
  | with_reducible refine ite_t ?_
  | with_reducible refine ite_f ?_
  | with_reducible refine lenU_l (by walk_at "get") ?_
  | with_reducible refine lenU_T (by walk_at "sqt") ?_
  | with_reducible refine lenU_L (by walk_at "sql") ?_
  | with_reducible refine ixU_l (by walk_at "get") (by with_unfolding_all rfl) ?_
  | with_reducible refine ixU_T (by walk_at "sqt") (by with_unfolding_all rfl) ?_
  | with_reducible refine x_setL (by walk_at "get") ?_
  | ((with_reducible apply x_isi); decide; walk_at "jp")
  | with_reducible refine ite_T (by with_unfolding_all rfl) ?_
  | with_reducible refine ite_F (by with_unfolding_all rfl) ?_)))
local macro_rules | `(tactic| walk_at "new") => `(tactic| (first
  | (with_reducible refine x_new ?_; intro _ _ _ _ _)
  | (with_reducible refine x_new0 ?_; intro _ _ _ _ _)
  | (with_reducible refine x_dnew ?_; intro _ _ _ _ _)
  | (with_reducible refine addU_l (by walk_at "get") (by walk_at "get") (by walk_at "len") ?_; intro _ _ _ _ _)))
local macro_rules | `(tactic| walk_at "xx") => `(tactic| (walk_at "x"; repeat (walk_at "new"; walk_at "x")))

def top (i : Nat) : Stmt := PySem.Challenge.pw_mendrounds_k02_numbers_compared.main.body.getD i (.Pass ⟨0, 0, 0, 0⟩)
abbrev s_BadNumber__init : Stmt := inClass (top 2) 0
abbrev N_BadNumber__init : List Str := ["self", "thing"]
theorem sc_BadNumber__init : FnScope N_BadNumber__init ["self", "thing"] (defScope s_BadNumber__init) := ⟨rfl, rfl, rfl, by decide +kernel, rfl, by decide +kernel, by decide +kernel⟩
abbrev s_common_divisor : Stmt := top 4
abbrev N_common_divisor : List Str := ["one", "other", "low", "high"]
theorem sc_common_divisor : FnScope N_common_divisor ["one", "other"] (defScope s_common_divisor) := ⟨rfl, rfl, rfl, by decide +kernel, rfl, by decide +kernel, by decide +kernel⟩
abbrev s_number : Stmt := top 5
abbrev N_number : List Str := ["top", "bottom", "common"]
theorem sc_number : FnScope N_number ["top", "bottom"] (defScope s_number) := ⟨rfl, rfl, rfl, by decide +kernel, rfl, by decide +kernel, by decide +kernel⟩
abbrev s_parts_of : Stmt := top 6
abbrev N_parts_of : List Str := ["value"]
theorem sc_parts_of : FnScope N_parts_of ["value"] (defScope s_parts_of) := ⟨rfl, rfl, rfl, by decide +kernel, rfl, by decide +kernel, by decide +kernel⟩
abbrev s_compare : Stmt := top 7
abbrev N_compare : List Str := ["one", "other", "p", "q", "r", "s", "left", "right"]
theorem sc_compare : FnScope N_compare ["one", "other"] (defScope s_compare) := ⟨rfl, rfl, rfl, by decide +kernel, rfl, by decide +kernel, by decide +kernel⟩
abbrev s_between : Stmt := top 8
abbrev N_between : List Str := ["low", "high", "top", "bottom", "parts", "candidate"]
theorem sc_between : FnScope N_between ["low", "high"] (defScope s_between) := ⟨rfl, rfl, rfl, by decide +kernel, rfl, by decide +kernel, by decide +kernel⟩
abbrev s_lbag : Stmt := top 10
abbrev N_lbag : List Str := ["_law_script", "_law_at", "_law_cell", "_law_large"]
theorem sc_lbag : FnScope N_lbag ["_law_script", "_law_at"] (defScope s_lbag) := ⟨rfl, rfl, rfl, by decide +kernel, rfl, by decide +kernel, by decide +kernel⟩
abbrev s_ltake : Stmt := top 11
abbrev N_ltake : List Str := ["_law_bag_here", "_law_many", "_law_digit", "_law_mixed"]
theorem sc_ltake : FnScope N_ltake ["_law_bag_here", "_law_many"] (defScope s_ltake) := ⟨rfl, rfl, rfl, by decide +kernel, rfl, by decide +kernel, by decide +kernel⟩
abbrev s_lvalue : Stmt := top 12
abbrev N_lvalue : List Str := ["_law_p", "_law_q", "_law_low", "_law_high"]
theorem sc_lvalue : FnScope N_lvalue ["_law_p", "_law_q"] (defScope s_lvalue) := ⟨rfl, rfl, rfl, by decide +kernel, rfl, by decide +kernel, by decide +kernel⟩
abbrev s_lnumber : Stmt := top 13
abbrev N_lnumber : List Str := ["_law_bag_here"]
theorem sc_lnumber : FnScope N_lnumber ["_law_bag_here"] (defScope s_lnumber) := ⟨rfl, rfl, rfl, by decide +kernel, rfl, by decide +kernel, by decide +kernel⟩
abbrev s_lpair : Stmt := top 14
abbrev N_lpair : List Str := ["_law_value_here"]
theorem sc_lpair : FnScope N_lpair ["_law_value_here"] (defScope s_lpair) := ⟨rfl, rfl, rfl, by decide +kernel, rfl, by decide +kernel, by decide +kernel⟩
abbrev s_lorder : Stmt := top 15
abbrev N_lorder : List Str := ["_law_one", "_law_other", "_law_left", "_law_right"]
theorem sc_lorder : FnScope N_lorder ["_law_one", "_law_other"] (defScope s_lorder) := ⟨rfl, rfl, rfl, by decide +kernel, rfl, by decide +kernel, by decide +kernel⟩
abbrev s_lis_int : Stmt := top 16
abbrev N_lis_int : List Str := ["_law_thing"]
theorem sc_lis_int : FnScope N_lis_int ["_law_thing"] (defScope s_lis_int) := ⟨rfl, rfl, rfl, by decide +kernel, rfl, by decide +kernel, by decide +kernel⟩
abbrev s_lsame : Stmt := top 17
abbrev N_lsame : List Str := ["_law_actual", "_law_due"]
theorem sc_lsame : FnScope N_lsame ["_law_actual", "_law_due"] (defScope s_lsame) := ⟨rfl, rfl, rfl, by decide +kernel, rfl, by decide +kernel, by decide +kernel⟩
abbrev s_lis_lowest : Stmt := top 18
abbrev N_lis_lowest : List Str := ["_law_value_here"]
theorem sc_lis_lowest : FnScope N_lis_lowest ["_law_value_here"] (defScope s_lis_lowest) := ⟨rfl, rfl, rfl, by decide +kernel, rfl, by decide +kernel, by decide +kernel⟩
abbrev s_lcompares : Stmt := top 19
abbrev N_lcompares : List Str := ["_law_one", "_law_other", "_law_way", "_law_due"]
theorem sc_lcompares : FnScope N_lcompares ["_law_one", "_law_other"] (defScope s_lcompares) := ⟨rfl, rfl, rfl, by decide +kernel, rfl, by decide +kernel, by decide +kernel⟩
abbrev s_lstands : Stmt := top 20
abbrev N_lstands : List Str := ["_law_low", "_law_high", "_law_found", "_law_below", "_law_above"]
theorem sc_lstands : FnScope N_lstands ["_law_low", "_law_high"] (defScope s_lstands) := ⟨rfl, rfl, rfl, by decide +kernel, rfl, by decide +kernel, by decide +kernel⟩
abbrev s_law : Stmt := top 21
abbrev N_law : List Str := ["_law_script", "_law_at", "_law_bag_here", "_law_one", "_law_other", "_law_pair_here", "_law_near", "_law_first", "_law_second", "_law_low", "_law_high", "_law_turn", "_law_found"]
theorem sc_law : FnScope N_law ["_law_script"] (defScope s_law) := ⟨rfl, rfl, rfl, by decide +kernel, rfl, by decide +kernel, by decide +kernel⟩
def dd_BadNumber__init : He.DefD := ⟨("BadNumber", some "__init__"), "__init__", "BadNumber.__init__", defArgs s_BadNumber__init, defBody s_BadNumber__init, defScope s_BadNumber__init, [], []⟩
def dd_common_divisor : He.DefD := ⟨("common_divisor", none), "common_divisor", "common_divisor", defArgs s_common_divisor, defBody s_common_divisor, defScope s_common_divisor, [], []⟩
def dd_number : He.DefD := ⟨("number", none), "number", "number", defArgs s_number, defBody s_number, defScope s_number, [.int (1)], []⟩
def dd_parts_of : He.DefD := ⟨("parts_of", none), "parts_of", "parts_of", defArgs s_parts_of, defBody s_parts_of, defScope s_parts_of, [], []⟩
def dd_compare : He.DefD := ⟨("compare", none), "compare", "compare", defArgs s_compare, defBody s_compare, defScope s_compare, [], []⟩
def dd_between : He.DefD := ⟨("between", none), "between", "between", defArgs s_between, defBody s_between, defScope s_between, [], []⟩
def dd_lbag : He.DefD := ⟨("_law_bag", none), "_law_bag", "_law_bag", defArgs s_lbag, defBody s_lbag, defScope s_lbag, [], []⟩
def dd_ltake : He.DefD := ⟨("_law_take", none), "_law_take", "_law_take", defArgs s_ltake, defBody s_ltake, defScope s_ltake, [], []⟩
def dd_lvalue : He.DefD := ⟨("_law_value", none), "_law_value", "_law_value", defArgs s_lvalue, defBody s_lvalue, defScope s_lvalue, [], []⟩
def dd_lnumber : He.DefD := ⟨("_law_number", none), "_law_number", "_law_number", defArgs s_lnumber, defBody s_lnumber, defScope s_lnumber, [], []⟩
def dd_lpair : He.DefD := ⟨("_law_pair", none), "_law_pair", "_law_pair", defArgs s_lpair, defBody s_lpair, defScope s_lpair, [], []⟩
def dd_lorder : He.DefD := ⟨("_law_order", none), "_law_order", "_law_order", defArgs s_lorder, defBody s_lorder, defScope s_lorder, [], []⟩
def dd_lis_int : He.DefD := ⟨("_law_is_int", none), "_law_is_int", "_law_is_int", defArgs s_lis_int, defBody s_lis_int, defScope s_lis_int, [], []⟩
def dd_lsame : He.DefD := ⟨("_law_same", none), "_law_same", "_law_same", defArgs s_lsame, defBody s_lsame, defScope s_lsame, [], []⟩
def dd_lis_lowest : He.DefD := ⟨("_law_is_lowest", none), "_law_is_lowest", "_law_is_lowest", defArgs s_lis_lowest, defBody s_lis_lowest, defScope s_lis_lowest, [], []⟩
def dd_lcompares : He.DefD := ⟨("_law_compares", none), "_law_compares", "_law_compares", defArgs s_lcompares, defBody s_lcompares, defScope s_lcompares, [], []⟩
def dd_lstands : He.DefD := ⟨("_law_stands", none), "_law_stands", "_law_stands", defArgs s_lstands, defBody s_lstands, defScope s_lstands, [], []⟩
def dd_law : He.DefD := ⟨("law", none), "law", "law", defArgs s_law, defBody s_law, defScope s_law, [], []⟩
def fn : List He.DefD := [dd_BadNumber__init, dd_common_divisor, dd_number, dd_parts_of, dd_compare, dd_between, dd_lbag, dd_ltake, dd_lvalue, dd_lnumber, dd_lpair, dd_lorder, dd_lis_int, dd_lsame, dd_lis_lowest, dd_lcompares, dd_lstands, dd_law]
def fa : List He.Fa := [.glo "BadNumber", .glo "MendroundsError", .glo "_law_bag", .glo "_law_compares", .glo "_law_is_int", .glo "_law_is_lowest", .glo "_law_number", .glo "_law_order", .glo "_law_pair", .glo "_law_same", .glo "_law_stands", .glo "_law_take", .glo "_law_value", .glo "between", .glo "common_divisor", .glo "compare", .glo "law", .glo "number", .glo "parts_of", .free "abs", .free "bool", .free "int", .free "isinstance", .free "len", .free "max", .free "min", .free "range", .free "tuple"]
def exs : List (PySem.W.Frag → Bool) := [fun K => errB K (He.ga K "BadNumber") "thing"]
def ex (K : PySem.W.Frag) : Bool := exs.all fun b => b K
theorem exs_ok {K : PySem.W.Frag} (h : ex K = true) (i : Nat) {b : PySem.W.Frag → Bool} (e : exs[i]? = some b) : b K = true := List.all_eq_true.mp h b (List.mem_of_getElem? e)
structure Txt (K : PySem.W.Frag) (mg : Str → Option Value) : Prop where
  g_BadNumber : mg "BadNumber" = some (.ref (He.ga K "BadNumber"))
  g_MendroundsError : mg "MendroundsError" = some (.ref (He.ga K "MendroundsError"))
  g__law_bag : mg "_law_bag" = some (.ref (He.ga K "_law_bag"))
  g__law_compares : mg "_law_compares" = some (.ref (He.ga K "_law_compares"))
  g__law_is_int : mg "_law_is_int" = some (.ref (He.ga K "_law_is_int"))
  g__law_is_lowest : mg "_law_is_lowest" = some (.ref (He.ga K "_law_is_lowest"))
  g__law_number : mg "_law_number" = some (.ref (He.ga K "_law_number"))
  g__law_order : mg "_law_order" = some (.ref (He.ga K "_law_order"))
  g__law_pair : mg "_law_pair" = some (.ref (He.ga K "_law_pair"))
  g__law_same : mg "_law_same" = some (.ref (He.ga K "_law_same"))
  g__law_stands : mg "_law_stands" = some (.ref (He.ga K "_law_stands"))
  g__law_take : mg "_law_take" = some (.ref (He.ga K "_law_take"))
  g__law_value : mg "_law_value" = some (.ref (He.ga K "_law_value"))
  g_between : mg "between" = some (.ref (He.ga K "between"))
  g_common_divisor : mg "common_divisor" = some (.ref (He.ga K "common_divisor"))
  g_compare : mg "compare" = some (.ref (He.ga K "compare"))
  g_law : mg "law" = some (.ref (He.ga K "law"))
  g_number : mg "number" = some (.ref (He.ga K "number"))
  g_parts_of : mg "parts_of" = some (.ref (He.ga K "parts_of"))
  n_abs : mg "abs" = none
  n_bool : mg "bool" = none
  n_int : mg "int" = none
  n_isinstance : mg "isinstance" = none
  n_len : mg "len" = none
  n_max : mg "max" = none
  n_min : mg "min" = none
  n_range : mg "range" = none
  n_tuple : mg "tuple" = none
  e_BadNumber : Err K (He.ga K "BadNumber") "thing"
  f_BadNumber__init : ∃ fd, FunD K "__init__" "BadNumber.__init__" (defArgs s_BadNumber__init) (defBody s_BadNumber__init) (defScope s_BadNumber__init) [] [] (He.ma K (He.ga K "BadNumber") "__init__") fd
  f_common_divisor : ∃ fd, FunD K "common_divisor" "common_divisor" (defArgs s_common_divisor) (defBody s_common_divisor) (defScope s_common_divisor) [] [] (He.ga K "common_divisor") fd
  f_number : ∃ fd, FunD K "number" "number" (defArgs s_number) (defBody s_number) (defScope s_number) [V.int (1)] [] (He.ga K "number") fd
  f_parts_of : ∃ fd, FunD K "parts_of" "parts_of" (defArgs s_parts_of) (defBody s_parts_of) (defScope s_parts_of) [] [] (He.ga K "parts_of") fd
  f_compare : ∃ fd, FunD K "compare" "compare" (defArgs s_compare) (defBody s_compare) (defScope s_compare) [] [] (He.ga K "compare") fd
  f_between : ∃ fd, FunD K "between" "between" (defArgs s_between) (defBody s_between) (defScope s_between) [] [] (He.ga K "between") fd
  f_lbag : ∃ fd, FunD K "_law_bag" "_law_bag" (defArgs s_lbag) (defBody s_lbag) (defScope s_lbag) [] [] (He.ga K "_law_bag") fd
  f_ltake : ∃ fd, FunD K "_law_take" "_law_take" (defArgs s_ltake) (defBody s_ltake) (defScope s_ltake) [] [] (He.ga K "_law_take") fd
  f_lvalue : ∃ fd, FunD K "_law_value" "_law_value" (defArgs s_lvalue) (defBody s_lvalue) (defScope s_lvalue) [] [] (He.ga K "_law_value") fd
  f_lnumber : ∃ fd, FunD K "_law_number" "_law_number" (defArgs s_lnumber) (defBody s_lnumber) (defScope s_lnumber) [] [] (He.ga K "_law_number") fd
  f_lpair : ∃ fd, FunD K "_law_pair" "_law_pair" (defArgs s_lpair) (defBody s_lpair) (defScope s_lpair) [] [] (He.ga K "_law_pair") fd
  f_lorder : ∃ fd, FunD K "_law_order" "_law_order" (defArgs s_lorder) (defBody s_lorder) (defScope s_lorder) [] [] (He.ga K "_law_order") fd
  f_lis_int : ∃ fd, FunD K "_law_is_int" "_law_is_int" (defArgs s_lis_int) (defBody s_lis_int) (defScope s_lis_int) [] [] (He.ga K "_law_is_int") fd
  f_lsame : ∃ fd, FunD K "_law_same" "_law_same" (defArgs s_lsame) (defBody s_lsame) (defScope s_lsame) [] [] (He.ga K "_law_same") fd
  f_lis_lowest : ∃ fd, FunD K "_law_is_lowest" "_law_is_lowest" (defArgs s_lis_lowest) (defBody s_lis_lowest) (defScope s_lis_lowest) [] [] (He.ga K "_law_is_lowest") fd
  f_lcompares : ∃ fd, FunD K "_law_compares" "_law_compares" (defArgs s_lcompares) (defBody s_lcompares) (defScope s_lcompares) [] [] (He.ga K "_law_compares") fd
  f_lstands : ∃ fd, FunD K "_law_stands" "_law_stands" (defArgs s_lstands) (defBody s_lstands) (defScope s_lstands) [] [] (He.ga K "_law_stands") fd
  f_law : ∃ fd, FunD K "law" "law" (defArgs s_law) (defBody s_law) (defScope s_law) [] [] (He.ga K "law") fd
theorem txt_of {K : PySem.W.Frag} {h : Heap} {mg : Str → Option Value} (X : K.In h) (G : h.Ns mainGlobals mg) (c : He.SaysD fa fn K) (c2 : ex K = true) : Txt K mg :=
  { g_BadNumber := He.glo_ok X G (c.fact 0 (f := .glo "BadNumber") rfl),
    g_MendroundsError := He.glo_ok X G (c.fact 1 (f := .glo "MendroundsError") rfl),
    g__law_bag := He.glo_ok X G (c.fact 2 (f := .glo "_law_bag") rfl),
    g__law_compares := He.glo_ok X G (c.fact 3 (f := .glo "_law_compares") rfl),
    g__law_is_int := He.glo_ok X G (c.fact 4 (f := .glo "_law_is_int") rfl),
    g__law_is_lowest := He.glo_ok X G (c.fact 5 (f := .glo "_law_is_lowest") rfl),
    g__law_number := He.glo_ok X G (c.fact 6 (f := .glo "_law_number") rfl),
    g__law_order := He.glo_ok X G (c.fact 7 (f := .glo "_law_order") rfl),
    g__law_pair := He.glo_ok X G (c.fact 8 (f := .glo "_law_pair") rfl),
    g__law_same := He.glo_ok X G (c.fact 9 (f := .glo "_law_same") rfl),
    g__law_stands := He.glo_ok X G (c.fact 10 (f := .glo "_law_stands") rfl),
    g__law_take := He.glo_ok X G (c.fact 11 (f := .glo "_law_take") rfl),
    g__law_value := He.glo_ok X G (c.fact 12 (f := .glo "_law_value") rfl),
    g_between := He.glo_ok X G (c.fact 13 (f := .glo "between") rfl),
    g_common_divisor := He.glo_ok X G (c.fact 14 (f := .glo "common_divisor") rfl),
    g_compare := He.glo_ok X G (c.fact 15 (f := .glo "compare") rfl),
    g_law := He.glo_ok X G (c.fact 16 (f := .glo "law") rfl),
    g_number := He.glo_ok X G (c.fact 17 (f := .glo "number") rfl),
    g_parts_of := He.glo_ok X G (c.fact 18 (f := .glo "parts_of") rfl),
    n_abs := He.free_ok X G (c.fact 19 (f := .free "abs") rfl),
    n_bool := He.free_ok X G (c.fact 20 (f := .free "bool") rfl),
    n_int := He.free_ok X G (c.fact 21 (f := .free "int") rfl),
    n_isinstance := He.free_ok X G (c.fact 22 (f := .free "isinstance") rfl),
    n_len := He.free_ok X G (c.fact 23 (f := .free "len") rfl),
    n_max := He.free_ok X G (c.fact 24 (f := .free "max") rfl),
    n_min := He.free_ok X G (c.fact 25 (f := .free "min") rfl),
    n_range := He.free_ok X G (c.fact 26 (f := .free "range") rfl),
    n_tuple := He.free_ok X G (c.fact 27 (f := .free "tuple") rfl),
    e_BadNumber := errB_ok (exs_ok c2 0 rfl),
    f_BadNumber__init := c.def_ 0 (d := dd_BadNumber__init) rfl,
    f_common_divisor := c.def_ 1 (d := dd_common_divisor) rfl,
    f_number := c.def_ 2 (d := dd_number) rfl,
    f_parts_of := c.def_ 3 (d := dd_parts_of) rfl,
    f_compare := c.def_ 4 (d := dd_compare) rfl,
    f_between := c.def_ 5 (d := dd_between) rfl,
    f_lbag := c.def_ 6 (d := dd_lbag) rfl,
    f_ltake := c.def_ 7 (d := dd_ltake) rfl,
    f_lvalue := c.def_ 8 (d := dd_lvalue) rfl,
    f_lnumber := c.def_ 9 (d := dd_lnumber) rfl,
    f_lpair := c.def_ 10 (d := dd_lpair) rfl,
    f_lorder := c.def_ 11 (d := dd_lorder) rfl,
    f_lis_int := c.def_ 12 (d := dd_lis_int) rfl,
    f_lsame := c.def_ 13 (d := dd_lsame) rfl,
    f_lis_lowest := c.def_ 14 (d := dd_lis_lowest) rfl,
    f_lcompares := c.def_ 15 (d := dd_lcompares) rfl,
    f_lstands := c.def_ 16 (d := dd_lstands) rfl,
    f_law := c.def_ 17 (d := dd_law) rfl }
/-! ## numbers -/
/-- p / q in lowest terms -/
def numP (t b : Int) : Int × Int := ((if b < 0 then -t else t) / (Int.gcd t b : Int), (b.natAbs : Int) / (Int.gcd t b : Int))
def numJ (t b : Int) : J := if (numP t b).2 = 1 then .int (numP t b).1 else .tup [.int (numP t b).1, .int (numP t b).2]
def isInt : J → Bool
  | .int _ => true
  | _ => false
def isNum : J → Bool
  | .int _ => true
  | .tup [.int p, .int q] => decide (2 ≤ q) && decide (Int.gcd p q = 1)
  | _ => false
theorem isT_int (d : J) : (if isT d.ty "int" = true then !isT d.ty "bool" else false) = isInt d := by cases d <;> rfl
theorem two_of {K : PySem.W.Frag} {H : Hp} {v : V} {p q : Int} (h : Jp K H v (.tup [.int p, .int q])) : ∃ a, v = .ref a ∧ SqT K H a [.int p, .int q] := by
  cases h with | tup t jj =>
  cases jj with | cons ja jj =>
  cases jj with | cons jb jj =>
  cases jj
  cases ja
  cases jb
  exact ⟨_, rfl, t⟩
theorem all_nil {α : Type} {P : α → Prop} : ∀ x ∈ ([] : List α), P x := fun _ h => nomatch h
theorem all_cons {α : Type} {P : α → Prop} {a : α} {l : List α} (h : P a) (r : ∀ x ∈ l, P x) : ∀ x ∈ a :: l, P x := fun x m => by
  rcases List.mem_cons.mp m with e | m
  · rw [e]; exact h
  · exact r x m
abbrev sp_BadNumber__init (K : PySem.W.Frag) : Sp := spErr K (He.ga K "BadNumber") "thing"
def t_BadNumber__init (K : PySem.W.Frag) (E : XK) : TS :=
  (tOst K "thing" (tVar 0) (tVar 1))
theorem d_BadNumber__init {P : Program} {w : World} {K : PySem.W.Frag} {mg : Str → Option Value} {base : Heap} (T : Txt K mg) (f : Addr) (cdv : Value) (A : Around) (outer : List Env) (s : Shared) (H : Hp) (E : XK) (hr : Room 0 (A.deeper (envOfC "BadNumber.__init__" (defScope s_BadNumber__init) s.heap.objs.size f cdv))) :
    PSs (cxOf (L2N.CX P w) P w K mg base N_BadNumber__init "BadNumber.__init__" (defScope s_BadNumber__init) f cdv A outer s H E) (defBody s_BadNumber__init) (t_BadNumber__init K E) := by
  unfold t_BadNumber__init
  exact (pss_one (ps_ost (pv 0) (pv 1)))
theorem rd_BadNumber__init {K : PySem.W.Frag} {mg : Str → Option Value} (T : Txt K mg) : ∀ vs H Q E, sp_BadNumber__init K vs H Q E → t_BadNumber__init K E (Ends.mk (fun _ H' => Q .non H') Q (fun _ _ => False) (fun _ _ => False)) (start N_BadNumber__init vs) H := by
  intro vs H Q E h
  unfold t_BadNumber__init
  obtain ⟨a, y, rfl, ha, T, nf, q⟩ := h
  exact ⟨_, rfl, _, rfl, a, _, rfl, T, nf, .inl ⟨ha, fun dx h1 h2 => q dx h1 h2⟩⟩
theorem len_BadNumber__init {K : PySem.W.Frag} : ∀ vs H Q E, sp_BadNumber__init K vs H Q E → vs.length = 2 := by
  intro vs H Q E h
  unfold sp_BadNumber__init at h
  repeat (first | (obtain ⟨rfl, _⟩ := h; rfl) | obtain ⟨_, h⟩ := h)
theorem ok_BadNumber__init {P : Program} {w : World} {K : PySem.W.Frag} {mg : Str → Option Value} {base : Heap} (T : Txt K mg) : Ok P w K mg base 1 (He.ma K (He.ga K "BadNumber") "__init__") ["self", "thing"] [] (sp_BadNumber__init K) :=
  okF T.f_BadNumber__init sc_BadNumber__init len_BadNumber__init (fun _ _ _ _ _ _ us hl => match us, hl with | [_, _], _ => rfl) (d_BadNumber__init T) (rd_BadNumber__init T)

/-- gcd -/
def sp_common_divisor (K : PySem.W.Frag) : Sp := fun vs H Q _ => ∃ a b : Int, vs = [.int a, .int b] ∧ 0 ≤ b ∧ Q (.int (Int.gcd a b)) H
def t_common_divisor (K : PySem.W.Frag) (E : XK) : TS :=
  (tSeq (tPar 2 3 (tCons (tCB mAbs (tCons (tVar 0) tNil)) (tCons (tVar 1) tNil)))
  (tSeq (tWhile (tTest (tOp mGt (tVar 2) (tC (.int 0))))
  (tPar 2 3 (tCons (tOp mMod (tVar 3) (tVar 2)) (tCons (tVar 2) tNil))))
  (tRet (tVar 3))))
theorem d_common_divisor {P : Program} {w : World} {K : PySem.W.Frag} {mg : Str → Option Value} {base : Heap} (T : Txt K mg) (f : Addr) (cdv : Value) (A : Around) (outer : List Env) (s : Shared) (H : Hp) (E : XK) (hr : Room 0 (A.deeper (envOfC "common_divisor" (defScope s_common_divisor) s.heap.objs.size f cdv))) :
    PSs (cxOf (L2N.CX P w) P w K mg base N_common_divisor "common_divisor" (defScope s_common_divisor) f cdv A outer s H E) (defBody s_common_divisor) (t_common_divisor K E) := by
  unfold t_common_divisor
  exact (pss_cons (ps_par (i := 2) (j := 3) rfl sc_common_divisor.nd rfl rfl (by decide) rfl rfl (pa_cons (pe_callB call_abs (by rfl) T.n_abs (by decide +kernel) (pa_cons (pv 0) pa_nil)) (pa_cons (pv 1) pa_nil)) (by rfl))
  (pss_cons (ps_while (passes_of rfl) (pt_cmpR op_gt (pv 2) pe_int (nomark _))
  (pss_one (ps_par (i := 2) (j := 3) rfl sc_common_divisor.nd rfl rfl (by decide) rfl rfl (pa_cons (pe_op op_mod (pv 3) (pv 2)) (pa_cons (pv 2) pa_nil)) (by rfl))))
  (pss_one (ps_ret (pv 3)))))
theorem rd_common_divisor {K : PySem.W.Frag} {mg : Str → Option Value} (T : Txt K mg) : ∀ vs H Q E, sp_common_divisor K vs H Q E → t_common_divisor K E (Ends.mk (fun _ H' => Q .non H') Q (fun _ _ => False) (fun _ _ => False)) (start N_common_divisor vs) H := by
  intro vs H Q E h
  unfold t_common_divisor
  obtain ⟨a, b, rfl, hb, q⟩ := h
  walk_at "x"
  refine x_while (fun σ H' => H' = H ∧ ∃ l g : Int, σ = [some (.int a), some (.int b), some (.int l), some (.int g)] ∧ 0 ≤ l ∧ 0 ≤ g ∧ Int.gcd l g = Int.gcd a b) (fun σ _ => match σ with | [_, _, some (.int l), _] => l.toNat | _ => 0) ⟨rfl, (a.natAbs : Int), b, rfl, by omega, hb, ?_⟩ ?_
  · show Int.gcd (a.natAbs : Int) b = Int.gcd a b
    unfold Int.gcd
    rw [Int.natAbs_natCast]
  rintro σ H1 ⟨rfl, l, g, rfl, hl, hg, e⟩
  walk_at "x"
  refine ite_d (fun h => ?_) (fun h => ?_)
  · refine x_whileN ?_
    walk_at "x"
    refine ⟨⟨rfl, _, _, rfl, Int.emod_nonneg _ (by omega), hl, ?_⟩, ?_⟩
    · rw [← e]
      obtain ⟨m, rfl⟩ := Int.eq_ofNat_of_zero_le hl
      obtain ⟨n, rfl⟩ := Int.eq_ofNat_of_zero_le hg
      show Int.gcd ((n : Int) % (m : Int)) (m : Int) = Int.gcd (m : Int) (n : Int)
      rw [← Int.natCast_emod]
      exact (Nat.gcd_rec m n).symm
    · show (g % l).toNat < l.toNat
      have := Int.emod_lt_of_pos g h
      have := Int.emod_nonneg g (by omega : l ≠ 0)
      omega
  · walk_at "x"
    have e0 : l = 0 := by omega
    subst e0
    have : (Int.gcd a b : Int) = g := by rw [← e]; simp; omega
    rw [← this]
    exact q
theorem len_common_divisor {K : PySem.W.Frag} : ∀ vs H Q E, sp_common_divisor K vs H Q E → vs.length = 2 := by
  intro vs H Q E h
  unfold sp_common_divisor at h
  repeat (first | (obtain ⟨rfl, _⟩ := h; rfl) | obtain ⟨_, h⟩ := h)
theorem ok_common_divisor {P : Program} {w : World} {K : PySem.W.Frag} {mg : Str → Option Value} {base : Heap} (T : Txt K mg) : Ok P w K mg base 1 (He.ga K "common_divisor") ["one", "other"] [] (sp_common_divisor K) :=
  okF T.f_common_divisor sc_common_divisor len_common_divisor (fun _ _ _ _ _ _ us hl => match us, hl with | [_, _], _ => rfl) (d_common_divisor T) (rd_common_divisor T)
theorem numP_neg (t : Int) {b : Int} (hb : b ≠ 0) : numP (-t) (-b) = numP t b := by
  unfold numP
  rw [Int.gcd_neg, Int.neg_gcd, Int.natAbs_neg]
  by_cases h : b < 0
  · rw [if_pos h, if_neg (by omega)]
  · rw [if_neg h, if_pos (by omega), Int.neg_neg]
theorem numJ_neg (t : Int) {b : Int} (hb : b ≠ 0) : numJ (-t) (-b) = numJ t b := by unfold numJ; rw [numP_neg t hb]
theorem gcd_pos {t b : Int} (h : 0 < b) : (0 : Int) < (Int.gcd t b : Int) := by
  have : 0 < Int.gcd t b := Int.gcd_pos_of_ne_zero_right t (by omega)
  omega
theorem div_one {g b : Int} (h : 0 < g) (d : g ∣ b) : b / g = 1 ↔ b = g := by
  obtain ⟨k, rfl⟩ := d
  rw [Int.mul_ediv_cancel_left _ (by omega)]
  constructor
  · rintro rfl; omega
  · intro e
    have : g * k = g * 1 := by omega
    exact Int.eq_of_mul_eq_mul_left (by omega) this
theorem natAbs_lit {t : Int} {n : Nat} (h : t.natAbs < n) : (-t).natAbs < n := by rw [Int.natAbs_neg]; exact h
/-- what number gives for a denominator above 0 -/
theorem numJ_pos {t b : Int} (h : 0 < b) : numJ t b = if b = (Int.gcd t b : Int) then .int (t / (Int.gcd t b : Int)) else .tup [.int (t / (Int.gcd t b : Int)), .int (b / (Int.gcd t b : Int))] := by
  unfold numJ numP
  have e1 : (b.natAbs : Int) = b := by omega
  rw [if_neg (by omega : ¬ b < 0), e1]
  have e2 := div_one (gcd_pos (t := t) h) (Int.gcd_dvd_right t b)
  by_cases c : b = (Int.gcd t b : Int)
  · rw [if_pos c, if_pos (e2.mpr c)]
  · rw [if_neg c, if_neg (fun z => c (e2.mp z))]
theorem gcd_lt {t b : Int} {n : Nat} (h : 0 < b) (hb : b.natAbs < n) : ((Int.gcd t b : Int)).natAbs < n := by
  have := Int.le_of_dvd h (Int.gcd_dvd_right t b)
  have := gcd_pos (t := t) h
  omega
theorem numJ_mul {u l c : Int} (hl : 0 < l) (hc : 0 < c) : numJ (u * c) (l * c) = numJ u l := by
  have e : numP (u * c) (l * c) = numP u l := by
    unfold numP
    have g : (Int.gcd (u * c) (l * c) : Int) = (Int.gcd u l : Int) * c := by
      rw [Int.gcd_mul_right]
      have : (c.natAbs : Int) = c := by omega
      rw [Int.natCast_mul, this]
    have lc : 0 < l * c := Int.mul_pos hl hc
    rw [g, if_neg (by omega), if_neg (by omega)]
    have e1 : ((l * c).natAbs : Int) = l * c := by omega
    have e2 : (l.natAbs : Int) = l := by omega
    rw [e1, e2, Int.mul_ediv_mul_of_pos_left _ _ hc, Int.mul_ediv_mul_of_pos_left _ _ hc]
  unfold numJ
  rw [e]
theorem numJ_int (u : Int) : numJ u 1 = .int u := by
  unfold numJ numP
  simp
theorem numJ_swap {u l : Int} (hl : 0 < l) : numJ u (-l) = numJ (-u) l := by
  have h := numJ_neg (-u) (b := l) (by omega)
  rw [Int.neg_neg] at h
  exact h
theorem numP_gcd {u l : Int} (hl : l ≠ 0) : Int.gcd (numP u l).1 (numP u l).2 = 1 := by
  have g0 : 0 < Int.gcd u l := Int.gcd_pos_of_ne_zero_right u hl
  have e : ∀ t : Int, t.natAbs = u.natAbs → Int.gcd (t / (Int.gcd u l : Int)) ((l.natAbs : Int) / (Int.gcd u l : Int)) = 1 := by
    intro t ht
    have ge : Int.gcd u l = Int.gcd t (l.natAbs : Int) := by
      unfold Int.gcd
      rw [ht, Int.natAbs_natCast]
    rw [ge] at g0 ⊢
    exact Int.gcd_ediv_gcd_ediv_gcd g0
  unfold numP
  dsimp only
  split
  · exact e _ (Int.natAbs_neg u)
  · exact e _ rfl
theorem numP_pos {u l : Int} (hl : l ≠ 0) : 0 < (numP u l).2 := by
  have g0 : 0 < Int.gcd u l := Int.gcd_pos_of_ne_zero_right u hl
  have d : (Int.gcd u l : Int) ∣ (l.natAbs : Int) := Int.dvd_natAbs.mpr (Int.gcd_dvd_right u l)
  obtain ⟨k, hk⟩ := d
  show 0 < (l.natAbs : Int) / (Int.gcd u l : Int)
  rw [hk, Int.mul_ediv_cancel_left _ (by omega)]
  have h1 : 0 < (Int.gcd u l : Int) * k := by rw [← hk]; omega
  exact Int.pos_of_mul_pos_right h1 (by omega)
theorem isNum_numJ {u l : Int} (hl : l ≠ 0) : isNum (numJ u l) = true := by
  have g := numP_gcd (u := u) hl
  have p := numP_pos (u := u) hl
  unfold numJ
  split
  · rfl
  · rename_i h
    show (decide (2 ≤ (numP u l).2) && decide (Int.gcd (numP u l).1 (numP u l).2 = 1)) = true
    rw [decide_eq_true (by omega), decide_eq_true g]
    rfl
/-- an odd number over an even one stays a pair -/
theorem numJ_odd {u l : Int} (hl : 0 < l) : ∃ p r, numJ (2 * u + 1) (2 * l) = .tup [.int p, .int r] ∧ 2 ≤ r ∧ Int.gcd p r = 1 ∧ p.natAbs ≤ (2 * u + 1).natAbs ∧ r.natAbs ≤ (2 * l).natAbs := by
  have g := numP_gcd (u := 2 * u + 1) (l := 2 * l) (by omega)
  have p := numP_pos (u := 2 * u + 1) (l := 2 * l) (by omega)
  have g0 : 0 < Int.gcd (2 * u + 1) (2 * l) := Int.gcd_pos_of_ne_zero_right _ (by omega)
  have ne : (numP (2 * u + 1) (2 * l)).2 ≠ 1 := by
    intro e
    have e2 : (2 * l).natAbs / (Int.gcd (2 * u + 1) (2 * l) : Int) = 1 := e
    have d2 : (Int.gcd (2 * u + 1) (2 * l) : Int) ∣ 2 * l := Int.gcd_dvd_right _ _
    have d1 : (Int.gcd (2 * u + 1) (2 * l) : Int) ∣ 2 * u + 1 := Int.gcd_dvd_left _ _
    have e3 : ((2 * l).natAbs : Int) = 2 * l := by omega
    rw [e3, div_one (by omega) d2] at e2
    rw [← e2] at d1
    obtain ⟨k, hk⟩ := d1
    have : 2 * u + 1 = 2 * (l * k) := by rw [hk, Int.mul_assoc]
    omega
  refine ⟨(numP (2 * u + 1) (2 * l)).1, (numP (2 * u + 1) (2 * l)).2, ?_, by omega, g, ?_, ?_⟩
  · unfold numJ
    rw [if_neg ne]
  · unfold numP
    rw [if_neg (by omega)]
    rw [Int.natAbs_ediv_of_dvd (Int.gcd_dvd_left _ _)]
    exact Nat.div_le_self _ _
  · unfold numP
    dsimp only
    rw [Int.natAbs_ediv_of_dvd (Int.dvd_natAbs.mpr (Int.gcd_dvd_right _ _)), Int.natAbs_natCast]
    exact Nat.div_le_self _ _
theorem mul_lit {a b : Int} {m n : Nat} (ha : a.natAbs < m) (hb : b.natAbs < n) (h : m * n ≤ 10 ^ 200) : (a * b).natAbs < 10 ^ 200 := by
  rw [Int.natAbs_mul]
  exact Nat.lt_of_lt_of_le (Nat.mul_lt_mul'' ha hb) h
theorem numJ_nl (t b : Int) : (numJ t b).nl = true := by
  unfold numJ
  split <;> rfl
/-- a number in lowest terms as data -/
def pj (p q : Int) : J := if q = 1 then .int p else .tup [.int p, .int q]
structure Lo (p q : Int) : Prop where
  pos : 0 < q
  gcd : Int.gcd p q = 1
theorem pj_one (p : Int) : pj p 1 = .int p := rfl
theorem pj_two {p q : Int} (h : q ≠ 1) : pj p q = .tup [.int p, .int q] := if_neg h
theorem pj_nl (t b : Int) : (pj t b).nl = true := by
  unfold pj
  split <;> rfl
theorem numJ_pj (t b : Int) : numJ t b = pj (numP t b).1 (numP t b).2 := rfl
theorem numP_lo {t b : Int} (h : b ≠ 0) : Lo (numP t b).1 (numP t b).2 := ⟨numP_pos h, numP_gcd h⟩
theorem numP_of {p q : Int} (h : Lo p q) : numP p q = (p, q) := by
  have h0 := h.pos
  have h1 := h.gcd
  unfold numP
  rw [h1, if_neg (by omega)]
  have : (q.natAbs : Int) = q := by omega
  rw [this]
  simp
theorem numJ_of {p q : Int} (h : Lo p q) : numJ p q = pj p q := by rw [numJ_pj, numP_of h]
/-- t / b in lowest terms -/
theorem numP_eq {t b : Int} (h : 0 < b) : (numP t b).1 * b = t * (numP t b).2 := by
  have g0 : 0 < (Int.gcd t b : Int) := gcd_pos h
  obtain ⟨x, hx⟩ := (Int.gcd_dvd_left t b : (Int.gcd t b : Int) ∣ t)
  obtain ⟨y, hy⟩ := (Int.gcd_dvd_right t b : (Int.gcd t b : Int) ∣ b)
  have e3 : ((b).natAbs : Int) = b := by omega
  show (if b < 0 then -t else t) / (Int.gcd t b : Int) * b = t * (((b).natAbs : Int) / (Int.gcd t b : Int))
  rw [if_neg (by omega), e3]
  generalize hg : (Int.gcd t b : Int) = g at *
  have ex : t / g = x := by rw [hx]; exact Int.mul_ediv_cancel_left _ (by omega)
  have ey : b / g = y := by rw [hy]; exact Int.mul_ediv_cancel_left _ (by omega)
  rw [ex, ey, hx, hy]
  rw [Int.mul_left_comm, Int.mul_assoc, Int.mul_comm x y]
theorem numP_le {t b : Int} (h : 0 < b) : (numP t b).2 ≤ b := by
  have d : (Int.gcd t b : Int) ∣ (b.natAbs : Int) := Int.dvd_natAbs.mpr (Int.gcd_dvd_right t b)
  have e3 : ((b).natAbs : Int) = b := by omega
  show ((b).natAbs : Int) / (Int.gcd t b : Int) ≤ b
  rw [e3]
  exact Int.ediv_le_self _ (by omega)
def sp_number (K : PySem.W.Frag) : Sp := fun vs H Q E => ∃ t b : Int, vs = [.int t, .int b] ∧ b.natAbs < Big ∧
  (b = 0 → ∀ d H2, H d = none → Same H H2 → H2 d = some (.xd [("thing", .int 0)]) → E (.ref (He.ga K "BadNumber")) (some d) H2) ∧
  (b ≠ 0 → ∀ v H', Same H H' → Jp K H' v (numJ t b) → Q v H')
def t_number (K : PySem.W.Frag) (E : XK) : TS :=
  (tSeq (tIfS (tTest (tOp (uEq K) (tVar 1) (tC (.int 0))))
  (tRaise (fun cls d _ H => E cls d H) (tMkO (He.ga K "BadNumber") (spErr K (He.ga K "BadNumber") "thing") [] (tCons (tVar 1) tNil)))
  tNext)
  (tSeq (tIfS (tTest (tOp mLt (tVar 1) (tC (.int 0))))
  (tPar 0 1 (tCons (tUn mNeg (tVar 0)) (tCons (tUn mNeg (tVar 1)) tNil)))
  tNext)
  (tSeq (tAsg (tCall (sp_common_divisor K) [] E0 (tCons (tVar 0) (tCons (tVar 1) tNil))) (gName 2))
  (tSeq (tIfS (tTest (tOp (uEq K) (tVar 1) (tVar 2)))
  (tRet (tOp mDiv (tVar 0) (tVar 2)))
  tNext)
  (tRet (tTup (tCons (tOp mDiv (tVar 0) (tVar 2)) (tCons (tOp mDiv (tVar 1) (tVar 2)) tNil))))))))
theorem d_number {P : Program} {w : World} {K : PySem.W.Frag} {mg : Str → Option Value} {base : Heap} (T : Txt K mg) (f : Addr) (cdv : Value) (A : Around) (outer : List Env) (s : Shared) (H : Hp) (E : XK) (hr : Room 2 (A.deeper (envOfC "number" (defScope s_number) s.heap.objs.size f cdv))) :
    PSs (cxOf (L2N.CX P w) P w K mg base N_number "number" (defScope s_number) f cdv A outer s H E) (defBody s_number) (t_number K E) := by
  unfold t_number
  exact (pss_cons (ps_if (pt_cmpR (op_eqU (hu64 hr)) (pv 1) pe_int (nomark _))
  (pss_one (L2N.ps_raise rfl (L2N.takes_of rfl rfl rfl rfl) (pmk_err T.e_BadNumber (ok_BadNumber__init T) hr (by decide) T.g_BadNumber (pa_cons (pv 1) pa_nil))))
  pss_nil)
  (pss_cons (ps_if (pt_cmpR op_lt (pv 1) pe_int (nomark _))
  (pss_one (ps_par (i := 0) (j := 1) rfl sc_number.nd rfl rfl (by decide) rfl rfl (pa_cons (pe_un un_neg (pv 0)) (pa_cons (pe_un un_neg (pv 1)) pa_nil)) (by rfl)))
  pss_nil)
  (pss_cons (ps_set (i := 2) sc_number.nd rfl (Or.inl rfl) (pe_c (ok_common_divisor T) hr (by decide) T.g_common_divisor passN0 (pa_cons (pv 0) (pa_cons (pv 1) pa_nil))))
  (pss_cons (ps_if (pt_cmpR (op_eqU (hu64 hr)) (pv 1) (pv 2) (nomark _))
  (pss_one (ps_ret (pe_op op_fdivW (pv 0) (pv 2))))
  pss_nil)
  (pss_one (ps_ret (pe_tup (pa_cons (pe_op op_fdivW (pv 0) (pv 2)) (pa_cons (pe_op op_fdivW (pv 1) (pv 2)) pa_nil)))))))))
theorem rd_number {K : PySem.W.Frag} {mg : Str → Option Value} (T : Txt K mg) : ∀ vs H Q E, sp_number K vs H Q E → t_number K E (Ends.mk (fun _ H' => Q .non H') Q (fun _ _ => False) (fun _ _ => False)) (start N_number vs) H := by
  intro vs H Q E h
  unfold t_number
  obtain ⟨t, b, rfl, hb, k0, k1⟩ := h
  have hB := big_le
  walk_at "x"
  refine ite_d (fun h => ?_) (fun h => ?_)
  · subst h
    walk_at "x"
    refine x_err T.e_BadNumber fun d H2 hd hs he => ?_
    exact k0 rfl d H2 hd hs he
  · walk_at "x"
    have k2 := k1 h
    clear k0 k1
    refine ite_d (fun c => ?neg) (fun c => ?pos) <;> walk_at "x"
    case' neg =>
      have c2 : 0 < -b := by omega
      have hb2 := natAbs_lit hb
      rw [← numJ_neg t h] at k2
      clear c h hb
      generalize -t = t at k2 ⊢
      generalize -b = b at k2 c2 hb2 ⊢
    case' pos =>
      have c2 : 0 < b := by omega
      have hb2 := hb
      clear c h hb
    all_goals
      have g0 := gcd_pos (t := t) c2
      have g1 := gcd_lt (t := t) c2 hb2
      rw [numJ_pos c2] at k2
      refine ⟨t, b, rfl, by omega, ?_⟩
      walk_at "x"
      refine ite_d (fun c => ?_) (fun c => ?_)
      · rw [if_pos c] at k2
        walk_at "x"
        exact k2 _ _ (Same.refl _) (.int _)
      · rw [if_neg c] at k2
        walk_at "xx"
        exact k2 _ _ (by assumption) (by walk_at "jp")
theorem len_number {K : PySem.W.Frag} : ∀ vs H Q E, sp_number K vs H Q E → vs.length = 2 := by
  intro vs H Q E h
  unfold sp_number at h
  repeat (first | (obtain ⟨rfl, _⟩ := h; rfl) | obtain ⟨_, h⟩ := h)
theorem ok_number {P : Program} {w : World} {K : PySem.W.Frag} {mg : Str → Option Value} {base : Heap} (T : Txt K mg) : Ok P w K mg base 3 (He.ga K "number") ["top", "bottom"] [] (sp_number K) :=
  okF1 2 1 T.f_number sc_number len_number (by simp) rfl (fun _ _ _ _ _ _ _ us its hl hi => match us, its, hl, hi with | [_, _], [_], _, _ => ⟨_, rfl, by kernel_rfl⟩) (d_number T) (rd_number T)
def sp_parts_of (K : PySem.W.Frag) : Sp := fun vs H Q _ => ∃ x p q, vs = [x] ∧ Jp K H x (pj p q) ∧ ∀ v H', Same H H' → Jp K H' v (.tup [.int p, .int q]) → Q v H'
def t_parts_of (K : PySem.W.Frag) (E : XK) : TS :=
  (tRet (tIf (tTruth K (tCB (rIsi K) (tCons (tVar 0) (tCons (tC (.ty "tuple")) tNil)))) (tVar 0) (tTup (tCons (tVar 0) (tCons (tC (.int 1)) tNil)))))
theorem d_parts_of {P : Program} {w : World} {K : PySem.W.Frag} {mg : Str → Option Value} {base : Heap} (T : Txt K mg) (f : Addr) (cdv : Value) (A : Around) (outer : List Env) (s : Shared) (H : Hp) (E : XK) (hr : Room 0 (A.deeper (envOfC "parts_of" (defScope s_parts_of) s.heap.objs.size f cdv))) :
    PSs (cxOf (L2N.CX P w) P w K mg base N_parts_of "parts_of" (defScope s_parts_of) f cdv A outer s H E) (defBody s_parts_of) (t_parts_of K E) := by
  unfold t_parts_of
  exact (pss_one (ps_ret (pe_ifExp (pt_tru (pe_callB call_isi (by rfl) T.n_isinstance (by decide +kernel) (pa_cons (pv 0) (pa_cons (pe_ty T.n_tuple (by decide +kernel)) pa_nil)))) (pv 0) (pe_tup (pa_cons (pv 0) (pa_cons pe_int pa_nil))))))
theorem rd_parts_of {K : PySem.W.Frag} {mg : Str → Option Value} (T : Txt K mg) : ∀ vs H Q E, sp_parts_of K vs H Q E → t_parts_of K E (Ends.mk (fun _ H' => Q .non H') Q (fun _ _ => False) (fun _ _ => False)) (start N_parts_of vs) H := by
  intro vs H Q E h
  unfold t_parts_of
  obtain ⟨x, p, r, rfl, hx, q⟩ := h
  by_cases c : r = 1
  · subst c
    rw [pj_one] at hx
    cases hx
    walk_at "xx"
    exact q _ _ (by assumption) (by walk_at "jp")
  · rw [pj_two c] at hx
    walk_at "x"
    exact q _ _ (Same.refl _) hx
theorem len_parts_of {K : PySem.W.Frag} : ∀ vs H Q E, sp_parts_of K vs H Q E → vs.length = 1 := by
  intro vs H Q E h
  unfold sp_parts_of at h
  repeat (first | (obtain ⟨rfl, _⟩ := h; rfl) | obtain ⟨_, h⟩ := h)
theorem ok_parts_of {P : Program} {w : World} {K : PySem.W.Frag} {mg : Str → Option Value} {base : Heap} (T : Txt K mg) : Ok P w K mg base 1 (He.ga K "parts_of") ["value"] [] (sp_parts_of K) :=
  okF T.f_parts_of sc_parts_of len_parts_of (fun _ _ _ _ _ _ us hl => match us, hl with | [_], _ => rfl) (d_parts_of T) (rd_parts_of T)
def sgn (a b : Int) : Int := (if decide (b < a) then 1 else 0) - (if decide (a < b) then 1 else 0)
def sp_compare (K : PySem.W.Frag) : Sp := fun vs H Q _ => ∃ x y p q r s, vs = [x, y] ∧ Jp K H x (pj p q) ∧ Jp K H y (pj r s) ∧ p.natAbs < Big ∧ q.natAbs < Big ∧ r.natAbs < Big ∧ s.natAbs < Big ∧ ∀ H', Same H H' → Q (.int (sgn (p * s) (r * q))) H'
def t_compare (K : PySem.W.Frag) (E : XK) : TS :=
  (tSeq (tAsg (tTup (tCons (tCall (sp_parts_of K) [] E0 (tCons (tVar 0) tNil)) (tCons (tCall (sp_parts_of K) [] E0 (tCons (tVar 1) tNil)) tNil))) (gTup K 2 (gCons (gTup K 2 (gCons (gName 2) (gCons (gName 3) gNil))) (gCons (gTup K 2 (gCons (gName 4) (gCons (gName 5) gNil))) gNil))))
  (tSeq (tPar 6 7 (tCons (tOp (uMul K) (tVar 2) (tVar 5)) (tCons (tOp (uMul K) (tVar 4) (tVar 3)) tNil)))
  (tRet (tOp mSub (tCB mInt (tCons (tOp mGt (tVar 6) (tVar 7)) tNil)) (tCB mInt (tCons (tOp mLt (tVar 6) (tVar 7)) tNil))))))
theorem d_compare {P : Program} {w : World} {K : PySem.W.Frag} {mg : Str → Option Value} {base : Heap} (T : Txt K mg) (f : Addr) (cdv : Value) (A : Around) (outer : List Env) (s : Shared) (H : Hp) (E : XK) (hr : Room 1 (A.deeper (envOfC "compare" (defScope s_compare) s.heap.objs.size f cdv))) :
    PSs (cxOf (L2N.CX P w) P w K mg base N_compare "compare" (defScope s_compare) f cdv A outer s H E) (defBody s_compare) (t_compare K E) := by
  unfold t_compare
  exact (pss_cons (ps_asg (pe_tup (pa_cons (pe_c (ok_parts_of T) hr (by decide) T.g_parts_of passN0 (pa_cons (pv 0) pa_nil)) (pa_cons (pe_c (ok_parts_of T) hr (by decide) T.g_parts_of passN0 (pa_cons (pv 1) pa_nil)) pa_nil))) (pg_tup rfl (pgs_cons (pg_tup rfl (pgs_cons (pg_name (i := 2) sc_compare.nd rfl (Or.inl rfl)) (pgs_cons (pg_name (i := 3) sc_compare.nd rfl (Or.inl rfl)) pgs_nil))) (pgs_cons (pg_tup rfl (pgs_cons (pg_name (i := 4) sc_compare.nd rfl (Or.inl rfl)) (pgs_cons (pg_name (i := 5) sc_compare.nd rfl (Or.inl rfl)) pgs_nil))) pgs_nil))))
  (pss_cons (ps_par (i := 6) (j := 7) rfl sc_compare.nd rfl rfl (by decide) rfl rfl (pa_cons (pe_op op_mulU (pv 2) (pv 5)) (pa_cons (pe_op op_mulU (pv 4) (pv 3)) pa_nil)) (by rfl))
  (pss_one (ps_ret (pe_op op_sub (pe_callTy call_int1 (by rfl) T.n_int (by decide +kernel) (pa_cons (pe_cmpR op_gt (pv 6) (pv 7) (nomark _)) pa_nil)) (pe_callTy call_int1 (by rfl) T.n_int (by decide +kernel) (pa_cons (pe_cmpR op_lt (pv 6) (pv 7) (nomark _)) pa_nil)))))))
theorem rd_compare {K : PySem.W.Frag} {mg : Str → Option Value} (T : Txt K mg) : ∀ vs H Q E, sp_compare K vs H Q E → t_compare K E (Ends.mk (fun _ H' => Q .non H') Q (fun _ _ => False) (fun _ _ => False)) (start N_compare vs) H := by
  intro vs H Q E h
  unfold t_compare
  obtain ⟨x, y, a, b, c, d, rfl, hx, hy, b1, b2, b3, b4, q⟩ := h
  have hB := big_le
  walk_at "x"
  refine ⟨_, _, _, rfl, hx, fun v H1 s1 j1 => ?_⟩
  walk_at "x"
  refine ⟨_, _, _, rfl, hy.same s1, fun w H2 s2 j2 => ?_⟩
  obtain ⟨c1, rfl, t1⟩ := two_of j1
  obtain ⟨c2, rfl, t2⟩ := two_of j2
  walk_at "xx"
  refine x_gtup (sqt_of (by walk_at "get")) ?_
  walk_at "x"
  refine x_gtup (sqt_same (by assumption) (sqt_same s2 t1)) ?_
  walk_at "x"
  refine x_gtup (sqt_same (by assumption) t2) ?_
  walk_at "x"
  exact q _ (Same.trans (Same.trans s1 s2) (by assumption))
theorem len_compare {K : PySem.W.Frag} : ∀ vs H Q E, sp_compare K vs H Q E → vs.length = 2 := by
  intro vs H Q E h
  unfold sp_compare at h
  repeat (first | (obtain ⟨rfl, _⟩ := h; rfl) | obtain ⟨_, h⟩ := h)
theorem ok_compare {P : Program} {w : World} {K : PySem.W.Frag} {mg : Str → Option Value} {base : Heap} (T : Txt K mg) : Ok P w K mg base 2 (He.ga K "compare") ["one", "other"] [] (sp_compare K) :=
  okF T.f_compare sc_compare len_compare (fun _ _ _ _ _ _ us hl => match us, hl with | [_, _], _ => rfl) (d_compare T) (rd_compare T)
theorem sgn_neg {a b : Int} (h : sgn a b < 0) : a < b := by
  unfold sgn at h
  by_cases c : a < b
  · exact c
  · rw [decide_eq_false c] at h
    by_cases e : b < a
    · rw [decide_eq_true e] at h
      exact absurd h (by decide)
    · rw [decide_eq_false e] at h
      exact absurd h (by decide)
theorem neg_sgn {a b : Int} (h : a < b) : sgn a b < 0 := by
  unfold sgn
  rw [decide_eq_true h, decide_eq_false (by omega)]
  decide
def enJ : Option (Int × Int) → J
  | none => .non
  | some (p, q) => pj p q
def enq : Option (Int × Int) → Int
  | none => 1
  | some (_, q) => q
def enp : Option (Int × Int) → Int
  | none => 0
  | some (p, _) => p
def enLo : Option (Int × Int) → Prop
  | none => True
  | some (p, q) => Lo p q
def enAb : Option (Int × Int) → Int → Int → Prop
  | none, _, _ => True
  | some (p, q), c, d => p * d < c * q
def enBe : Option (Int × Int) → Int → Int → Prop
  | none, _, _ => True
  | some (r, s), c, d => c * s < r * d
def sp_between (K : PySem.W.Frag) : Sp := fun vs H Q _ => ∃ x y lo hi, vs = [x, y] ∧ Jp K H x (enJ lo) ∧ Jp K H y (enJ hi) ∧ enLo lo ∧ enLo hi ∧ (∀ p q r s, lo = some (p, q) → hi = some (r, s) → p * s < r * q) ∧
  (enp lo).natAbs * (2 * (enq lo * enq hi)).natAbs + (2 * (enq lo * enq hi)).natAbs + 1 < Big ∧ (enp hi).natAbs + 1 < Big ∧
  ∀ c d v H', Same H H' → Jp K H' v (pj c d) → Lo c d → d ≤ 2 * (enq lo * enq hi) → c.natAbs < Big → enAb lo c d → enBe hi c d → Q v H'
def t_between (K : PySem.W.Frag) (E : XK) : TS :=
  (tSeq (tIfS (tB (tIsN (tVar 0)))
  (tSeq (tIfS (tB (tIsN (tVar 1)))
  (tRet (tC (.int 0)))
  tNext)
  (tSeq (tAsg (tCall (sp_parts_of K) [] E0 (tCons (tVar 1) tNil)) (gTup K 2 (gCons (gName 2) (gCons (gName 3) gNil))))
  (tRet (tIf (tTest (tOp (uEq K) (tVar 3) (tC (.int 1)))) (tOp mDiv (tOp mSub (tVar 2) (tC (.int 1))) (tVar 3)) (tOp mDiv (tVar 2) (tVar 3))))))
  tNext)
  (tSeq (tAsg (tCall (sp_parts_of K) [] E0 (tCons (tVar 0) tNil)) (gTup K 2 (gCons (gName 2) (gCons (gName 3) gNil))))
  (tSeq (tAsg (tC (.int 1)) (gName 4))
  (tWhile (tB (tC (.bl true)))
  (tSeq (tAsg (tCall (sp_number K) [] E0 (tCons (tOp (uAdd K) (tOp mDiv (tOp (uMul K) (tVar 2) (tVar 4)) (tVar 3)) (tC (.int 1))) (tCons (tVar 4) tNil))) (gName 5))
  (tSeq (tIfS (tOr (tB (tIsN (tVar 1))) (tTest (tOp mLt (tCall (sp_compare K) [] E0 (tCons (tVar 5) (tCons (tVar 1) tNil))) (tC (.int 0)))))
  (tRet (tVar 5))
  tNext)
  (tAsg (tOp (uMul K) (tVar 4) (tC (.int 2))) (gName 4))))))))
theorem d_between {P : Program} {w : World} {K : PySem.W.Frag} {mg : Str → Option Value} {base : Heap} (T : Txt K mg) (f : Addr) (cdv : Value) (A : Around) (outer : List Env) (s : Shared) (H : Hp) (E : XK) (hr : Room 3 (A.deeper (envOfC "between" (defScope s_between) s.heap.objs.size f cdv))) :
    PSs (cxOf (L2N.CX P w) P w K mg base N_between "between" (defScope s_between) f cdv A outer s H E) (defBody s_between) (t_between K E) := by
  unfold t_between
  exact (pss_cons (ps_if (pt_cmp (pc_isN (pv 0)) rfl)
  (pss_cons (ps_if (pt_cmp (pc_isN (pv 1)) rfl)
  (pss_one (ps_ret pe_int))
  pss_nil)
  (pss_cons (ps_asg (pe_c (ok_parts_of T) hr (by decide) T.g_parts_of passN0 (pa_cons (pv 1) pa_nil)) (pg_tup rfl (pgs_cons (pg_name (i := 2) sc_between.nd rfl (Or.inl rfl)) (pgs_cons (pg_name (i := 3) sc_between.nd rfl (Or.inl rfl)) pgs_nil))))
  (pss_one (ps_ret (pe_ifExp (pt_cmpR (op_eqU (hu64 hr)) (pv 3) pe_int (nomark _)) (pe_op op_fdivW (pe_op op_sub (pv 2) pe_int) (pv 3)) (pe_op op_fdivW (pv 2) (pv 3)))))))
  pss_nil)
  (pss_cons (ps_asg (pe_c (ok_parts_of T) hr (by decide) T.g_parts_of passN0 (pa_cons (pv 0) pa_nil)) (pg_tup rfl (pgs_cons (pg_name (i := 2) sc_between.nd rfl (Or.inl rfl)) (pgs_cons (pg_name (i := 3) sc_between.nd rfl (Or.inl rfl)) pgs_nil))))
  (pss_cons (ps_set (i := 4) sc_between.nd rfl (Or.inl rfl) pe_int)
  (pss_one (ps_while (passes_of rfl) (pt_val pe_bl)
  (pss_cons (ps_set (i := 5) sc_between.nd rfl (Or.inl rfl) (pe_c (ok_number T) hr (by decide) T.g_number passN0 (pa_cons (pe_op op_addU (pe_op op_fdivW (pe_op op_mulU (pv 2) (pv 4)) (pv 3)) pe_int) (pa_cons (pv 4) pa_nil))))
  (pss_cons (ps_if (PW.pt (pw_or (pt_cmp (pc_isN (pv 1)) rfl) (pw_or1 (pt_cmpR op_lt (pe_c (ok_compare T) hr (by decide) T.g_compare passN0 (pa_cons (pv 5) (pa_cons (pv 1) pa_nil))) pe_int (nomark _)))))
  (pss_one (ps_ret (pv 5)))
  pss_nil)
  (pss_one (ps_set (i := 4) sc_between.nd rfl (Or.inl rfl) (pe_op op_mulU (pv 4) pe_int))))))))))
theorem pj_non {K : PySem.W.Frag} {H : Hp} {x : V} {p q : Int} (h : Jp K H x (pj p q)) : decide (x = V.non) = false := by
  unfold pj at h
  split at h <;> cases h <;> rfl
theorem lo_floor {r s : Int} (h : Lo r s) (n : s ≠ 1) : r / s * s < r := by
  have h0 := h.pos
  have h1 := h.gcd
  have e := Int.mul_ediv_add_emod r s
  have m := Int.emod_nonneg r (by omega : s ≠ 0)
  rcases Int.lt_or_eq_of_le m with m | m
  · rw [Int.mul_comm] at e
    omega
  · have d : s ∣ r := Int.dvd_of_emod_eq_zero m.symm
    have g : s ∣ (Int.gcd r s : Int) := Int.dvd_coe_gcd d (Int.dvd_refl s)
    rw [h1] at g
    have := Int.le_of_dvd (by decide) g
    omega
theorem numP_abs {t b : Int} (h : 0 < b) : (numP t b).1.natAbs ≤ t.natAbs := by
  unfold numP
  rw [if_neg (by omega)]
  exact Int.natAbs_ediv_le_natAbs _ _
theorem num_ok {K : PySem.W.Frag} {H : Hp} {t b : Int} {Q : VK} {E : XK} (h : b ≠ 0) (l : b.natAbs < Big) (q : ∀ v H', Same H H' → Jp K H' v (numJ t b) → Q v H') : sp_number K [.int t, .int b] H Q E := ⟨t, b, rfl, l, fun z => absurd z h, fun _ => q⟩
/-- the next number of so many parts above p / q -/
theorem up_gt {p q n : Int} (h : 0 < q) : p * n < (p * n / q + 1) * q := by
  have e := Int.mul_ediv_add_emod (p * n) q
  have m := Int.emod_lt_of_pos (p * n) h
  rw [Int.add_mul, Int.mul_comm (p * n / q) q]
  omega
theorem up_le {p q n : Int} (h : 0 < q) : (p * n / q + 1) * q ≤ p * n + q := by
  have e := Int.mul_ediv_add_emod (p * n) q
  have m := Int.emod_nonneg (p * n) (by omega : q ≠ 0)
  rw [Int.add_mul, Int.mul_comm (p * n / q) q]
  omega
theorem up_abs {p q n : Int} (h : 0 < q) (hn : 0 < n) : (p * n / q + 1).natAbs ≤ p.natAbs * n.natAbs + 1 := by
  have a := up_gt (p := p) (n := n) h
  have b := up_le (p := p) (n := n) h
  rw [← Int.natAbs_mul]
  generalize p * n = z at *
  have h2 : (z / q).natAbs ≤ z.natAbs := Int.natAbs_ediv_le_natAbs z q
  omega
theorem lt_mul {a b c : Int} (h : a * c < b * c) (hc : 0 < c) : a < b := Int.lt_of_mul_lt_mul_right h (by omega)
theorem rd_between {K : PySem.W.Frag} {mg : Str → Option Value} (T : Txt K mg) : ∀ vs H Q E, sp_between K vs H Q E → t_between K E (Ends.mk (fun _ H' => Q .non H') Q (fun _ _ => False) (fun _ _ => False)) (start N_between vs) H := by
  intro vs H Q E h
  unfold t_between
  obtain ⟨x, y, lo, hi, rfl, hx, hy, l1, l2, lt, b1, b2, q⟩ := h
  have hB := big_le
  cases lo with
  | none =>
    cases hx
    cases hi with
    | none =>
      cases hy
      walk_at "x"
      exact q 0 1 _ _ (Same.refl _) (.int 0) ⟨by decide, by decide⟩ (by decide) (by omega) trivial trivial
    | some e =>
      obtain ⟨r, s⟩ := e
      have s0 : 0 < s := Lo.pos l2
      have b3 : s.natAbs < Big := by
        have e1 : enq (some (r, s)) = s := rfl
        have e2 : enq none = 1 := rfl
        rw [e1, e2] at b1
        omega
      walk_at "x"
      rw [pj_non hy]
      refine iteF ?_
      walk_at "x"
      refine ⟨_, _, _, rfl, hy, fun v H1 s1 j1 => ?_⟩
      obtain ⟨c1, rfl, t1⟩ := two_of j1
      refine x_gtup t1 ?_
      walk_at "x"
      have fin : ∀ c : Int, c * s < r → c.natAbs ≤ r.natAbs + 1 → Q (.int c) H1 := fun c hc ha => q c 1 _ _ s1 (.int c) ⟨by decide, by simp⟩ (by
        show (1 : Int) ≤ 2 * (1 * s)
        omega) (by
        have b4 : r.natAbs + 1 < Big := b2
        omega) trivial (by
        show c * s < r * 1
        omega)
      refine ite_d (fun c => ?_) (fun c => ?_)
      · subst c
        walk_at "x"
        exact fin _ (by omega) (by omega)
      · walk_at "x"
        exact fin _ (lo_floor l2 c) (Nat.le_succ_of_le (Int.natAbs_ediv_le_natAbs _ _))
  | some e =>
    obtain ⟨p, a⟩ := e
    have a0 : 0 < a := Lo.pos l1
    walk_at "x"
    rw [pj_non hx]
    refine iteF ?_
    walk_at "x"
    refine ⟨_, _, _, rfl, hx, fun v H1 s1 j1 => ?_⟩
    obtain ⟨c1, rfl, t1⟩ := two_of j1
    refine x_gtup t1 ?_
    walk_at "x"
    have d0 : 0 < enq hi := by
      cases hi with
      | none => decide
      | some e => exact Lo.pos l2
    have lt2 : ∀ r s, hi = some (r, s) → p * s < r * a := fun r s e => lt p a r s rfl e
    have b1' : p.natAbs * (2 * (a * enq hi)).natAbs + (2 * (a * enq hi)).natAbs + 1 < Big := b1
    have q' : ∀ c d v H', Same H H' → Jp K H' v (pj c d) → Lo c d → d ≤ 2 * (a * enq hi) → c.natAbs < Big → p * d < c * a → enBe hi c d → Q v H' := q
    clear q b1 lt
    have hm : ∀ r s, hi = some (r, s) → enq hi = s := fun r s e => by rw [e] <;> rfl
    have ad : 0 < a * enq hi := Int.mul_pos a0 d0
    have aB : a ≤ a * enq hi := by
      have := Int.mul_le_mul_of_nonneg_left (by omega : (1 : Int) ≤ enq hi) (by omega : 0 ≤ a)
      omega
    have sB : enq hi ≤ a * enq hi := by
      have := Int.mul_le_mul_of_nonneg_right (by omega : (1 : Int) ≤ a) (by omega : 0 ≤ enq hi)
      omega
    generalize hw : a * enq hi = w at *
    refine x_while (fun σ H' => Same H1 H' ∧ ∃ (n : Int) (s5 : Option V), σ = [some x, some y, some (.int p), some (.int a), some (.int n), s5] ∧ 1 ≤ n ∧ n ≤ 2 * w) (fun σ _ => match σ with | [_, _, _, _, some (.int n), _] => (2 * w + 1 - n).toNat | _ => 0) ⟨Same.refl _, 1, none, rfl, by omega, by omega⟩ ?_
    rintro σ H2 ⟨s2, n, s5, rfl, n1, n2⟩
    walk_at "x"
    refine x_whileN ?_
    have pn : p.natAbs * n.natAbs ≤ p.natAbs * (2 * w).natAbs := Nat.mul_le_mul_left _ (by omega)
    have pB : p.natAbs < Big := by
      have : p.natAbs * 1 ≤ p.natAbs * (2 * w).natAbs := Nat.mul_le_mul_left _ (by omega)
      omega
    walk_at "x"
    refine num_ok (by omega) (by omega) fun v H3 s3 j3 => ?_
    rw [numJ_pj] at j3
    have L3 := numP_lo (t := p * n / a + 1) (by omega : n ≠ 0)
    have e3 := numP_eq (t := p * n / a + 1) (by omega : 0 < n)
    have d3 := numP_le (t := p * n / a + 1) (by omega : 0 < n)
    have a3 := numP_abs (t := p * n / a + 1) (by omega : 0 < n)
    have u1 := up_gt (p := p) (n := n) a0
    have u2 := up_le (p := p) (n := n) a0
    have u3 := up_abs (p := p) (n := n) a0 (by omega)
    generalize numP (p * n / a + 1) n = cd at *
    obtain ⟨c, d⟩ := cd
    generalize p * n / a + 1 = c0 at *
    dsimp only at *
    have d1 : 0 < d := L3.pos
    have low : p * d < c * a := by
      have h1 : p * d * n < c * a * n := by
        have h2 : p * n * d < c0 * a * d := Int.mul_lt_mul_of_pos_right u1 d1
        have h3 : p * d * n = p * n * d := by rw [Int.mul_assoc, Int.mul_comm d n, ← Int.mul_assoc]
        have h4 : c * a * n = c0 * a * d := by rw [Int.mul_assoc, Int.mul_comm a n, ← Int.mul_assoc, e3, Int.mul_assoc, Int.mul_comm d a, ← Int.mul_assoc]
        omega
      exact lt_mul h1 (by omega)
    have S3 : Same H H3 := Same.trans (Same.trans s1 s2) s3
    walk_at "x"
    cases hi with
    | none =>
      cases hy
      walk_at "x"
      exact q' c d _ _ S3 j3 L3 (by omega) (by omega) low trivial
    | some e =>
      obtain ⟨r, s⟩ := e
      have es : s = enq (some (r, s)) := rfl
      have hs : 0 < s := by omega
      have lt3 := lt2 r s rfl
      rw [pj_non hy]
      refine iteF ?_
      walk_at "x"
      have rB : r.natAbs < Big := by
        have : r.natAbs + 1 < Big := b2
        omega
      refine ⟨_, _, _, _, _, _, rfl, j3, hy.same S3, by omega, by omega, rB, by omega, fun H4 s4 => ?_⟩
      walk_at "x"
      refine ite_d (fun h => ?_) (fun h => ?_)
      · walk_at "x"
        refine q' c d _ _ (Same.trans S3 s4) (j3.same s4) L3 (by omega) (by omega) low ?_
        show c * s < r * d
        exact sgn_neg h
      · walk_at "x"
        have ns : n ≤ w := by
          rcases Decidable.em (w < n) with l | l
          · exfalso
            refine h (neg_sgn ?_)
            refine lt_mul (c := n) ?_ (by omega)
            have h4 : c * s * n = c0 * s * d := by rw [Int.mul_assoc, Int.mul_comm s n, ← Int.mul_assoc, e3, Int.mul_assoc, Int.mul_comm d s, ← Int.mul_assoc]
            have h5 : r * d * n = r * n * d := by rw [Int.mul_assoc, Int.mul_comm d n, ← Int.mul_assoc]
            rw [h4, h5]
            refine Int.mul_lt_mul_of_pos_right ?_ d1
            refine lt_mul (c := a) ?_ a0
            have k1 : c0 * a * s ≤ (p * n + a) * s := Int.mul_le_mul_of_nonneg_right u2 (by omega)
            have k2 : c0 * s * a = c0 * a * s := by rw [Int.mul_assoc, Int.mul_comm s a, ← Int.mul_assoc]
            have k3 : (p * n + a) * s = p * s * n + w := by rw [Int.add_mul, ← hw, ← es, Int.mul_assoc, Int.mul_comm n s, ← Int.mul_assoc]
            have k4 : (p * s + 1) * n ≤ r * a * n := Int.mul_le_mul_of_nonneg_right lt3 (by omega)
            have k5 : (p * s + 1) * n = p * s * n + n := by rw [Int.add_mul, Int.one_mul]
            have k6 : r * n * a = r * a * n := by rw [Int.mul_assoc, Int.mul_comm n a, ← Int.mul_assoc]
            omega
          · omega
        refine ⟨⟨Same.trans s2 (Same.trans s3 s4), _, _, rfl, by omega, by omega⟩, ?_⟩
        show (2 * w + 1 - n * 2).toNat < (2 * w + 1 - n).toNat
        omega
theorem len_between {K : PySem.W.Frag} : ∀ vs H Q E, sp_between K vs H Q E → vs.length = 2 := by
  intro vs H Q E h
  unfold sp_between at h
  repeat (first | (obtain ⟨rfl, _⟩ := h; rfl) | obtain ⟨_, h⟩ := h)
theorem ok_between {P : Program} {w : World} {K : PySem.W.Frag} {mg : Str → Option Value} {base : Heap} (T : Txt K mg) : Ok P w K mg base 4 (He.ga K "between") ["low", "high"] [] (sp_between K) :=
  okF T.f_between sc_between len_between (fun _ _ _ _ _ _ us hl => match us, hl with | [_, _], _ => rfl) (d_between T) (rd_between T)

/-! ## the law's own defs -/
def sp_lbag (K : PySem.W.Frag) : Sp := fun vs H Q _ => ∃ (a : Addr) (ns : List Int) (i : Int), vs = [.ref a, .int i] ∧ SqL K H a (ns.map V.int) ∧ 0 ≤ i ∧ i ≤ 63 ∧ ∀ b H', H b = none → Same H H' → Bag H' b 0 → Q (.ref b) H'
def t_lbag (K : PySem.W.Frag) (E : XK) : TS :=
  (tSeq (tAsg (tIf (tTest (tOp mLt (tVar 1) (tCB (uLen K) (tCons (tVar 0) tNil)))) (tOp (uIx K) (tVar 0) (tVar 1)) (tC (.int 0))) (gName 2))
  (tSeq (tAsg (tIf (tTest (tOp mGe (tCB mAbs (tCons (tVar 2) tNil)) (tOp mPow (tC (.int 10)) (tC (.int 18))))) (tCB mAbs (tCons (tVar 2) tNil)) (tC (.int 0))) (gName 3))
  (tRet (tLst (tCons (tVar 3) (tCons (tOp (uAdd K) (tOp (uAdd K) (tOp (uMul K) (tOp mMod (tCB mInt (tCons (tVar 2) tNil)) (tC (.int 2305843009213693951))) (tC (.int 7))) (tOp (uMul K) (tC (.int 9176)) (tVar 1))) (tC (.int 7001))) (tCons (tC (.int 0)) tNil)))))))
theorem d_lbag {P : Program} {w : World} {K : PySem.W.Frag} {mg : Str → Option Value} {base : Heap} (T : Txt K mg) (f : Addr) (cdv : Value) (A : Around) (outer : List Env) (s : Shared) (H : Hp) (E : XK) (hr : Room 0 (A.deeper (envOfC "_law_bag" (defScope s_lbag) s.heap.objs.size f cdv))) :
    PSs (cxOf (L2N.CX P w) P w K mg base N_lbag "_law_bag" (defScope s_lbag) f cdv A outer s H E) (defBody s_lbag) (t_lbag K E) := by
  unfold t_lbag
  exact (pss_cons (ps_set (i := 2) sc_lbag.nd rfl (Or.inl rfl) (pe_ifExp (pt_cmpR op_lt (pv 1) (pe_callB call_lenU (by rfl) T.n_len (by decide +kernel) (pa_cons (pv 0) pa_nil)) (nomark _)) (pe_ix ix_U (pv 0) (pv 1) (fun _ _ => rfl)) pe_int))
  (pss_cons (ps_set (i := 3) sc_lbag.nd rfl (Or.inl rfl) (pe_ifExp (pt_cmpR op_ge (pe_callB call_abs (by rfl) T.n_abs (by decide +kernel) (pa_cons (pv 2) pa_nil)) (pe_op op_pow pe_int pe_int) (nomark _)) (pe_callB call_abs (by rfl) T.n_abs (by decide +kernel) (pa_cons (pv 2) pa_nil)) pe_int))
  (pss_one (ps_ret (pe_lst (pa_cons (pv 3) (pa_cons (pe_op op_addU (pe_op op_addU (pe_op op_mulU (pe_op op_mod (pe_callTy call_int1 (by rfl) T.n_int (by decide +kernel) (pa_cons (pv 2) pa_nil)) pe_int) pe_int) (pe_op op_mulU pe_int (pv 1))) pe_int) (pa_cons pe_int pa_nil))))))))
theorem bag_mod (c i : Int) (h0 : 0 ≤ i) (h : i ≤ 63) : 0 ≤ c % 2305843009213693951 * 7 + 9176 * i + 7001 ∧ c % 2305843009213693951 * 7 + 9176 * i + 7001 < 7 * 2 ^ 61 + 10 ^ 6 := by omega
theorem rd_lbag {K : PySem.W.Frag} {mg : Str → Option Value} (T : Txt K mg) : ∀ vs H Q E, sp_lbag K vs H Q E → t_lbag K E (Ends.mk (fun _ H' => Q .non H') Q (fun _ _ => False) (fun _ _ => False)) (start N_lbag vs) H := by
  intro vs H Q E h
  unfold t_lbag
  obtain ⟨a, ns, i, rfl, hs, h0, h1, q⟩ := h
  walk_at "x"
  refine ite_d (fun c => ?lt) (fun c => ?ge)
  case' lt =>
    rw [List.length_map] at c
    walk_at "x"
    refine ixU_L hs (atI_ints h0 c) ?_
    generalize ns.getD i.toNat 0 = c
  case' ge => generalize hc : (0 : Int) = c
  all_goals
    walk_at "x"
    refine ite_d (fun c1 => ?_) (fun c1 => ?_)
    all_goals
      walk_at "xx"
      refine q _ _ (by assumption) (by assumption) ⟨_, _, _, by assumption, ?_, ?_, by omega, by omega⟩
      · omega
      · omega
theorem len_lbag {K : PySem.W.Frag} : ∀ vs H Q E, sp_lbag K vs H Q E → vs.length = 2 := by
  intro vs H Q E h
  unfold sp_lbag at h
  repeat (first | (obtain ⟨rfl, _⟩ := h; rfl) | obtain ⟨_, h⟩ := h)
theorem ok_lbag {P : Program} {w : World} {K : PySem.W.Frag} {mg : Str → Option Value} {base : Heap} (T : Txt K mg) : Ok P w K mg base 1 (He.ga K "_law_bag") ["_law_script", "_law_at"] [] (sp_lbag K) :=
  okF T.f_lbag sc_lbag len_lbag (fun _ _ _ _ _ _ us hl => match us, hl with | [_, _], _ => rfl) (d_lbag T) (rd_lbag T)
def sp_ltake (K : PySem.W.Frag) : Sp := fun vs H Q _ => ∃ (b : Addr) (many : Int) (n : Nat), vs = [.ref b, .int many] ∧ Bag H b n ∧ n ≤ 1000000000 ∧ 0 < many ∧ many.natAbs < 10 ^ 200 ∧
  ∀ (d : Int) H', 0 ≤ d → d < many → But b H H' → Bag H' b (n + 1) → Q (.int d) H'
def t_ltake (K : PySem.W.Frag) (E : XK) : TS :=
  (tSeq (tIfS (tTest (tOp mGt (tOp (uIx K) (tVar 0) (tC (.int 0))) (tC (.int 0))))
  (tSeq (tAsg (tOp mMod (tCB mInt (tCons (tOp (uIx K) (tVar 0) (tC (.int 0))) tNil)) (tVar 1)) (gName 2))
  (tSeq (tAsg (tOp mDiv (tOp (uIx K) (tVar 0) (tC (.int 0))) (tVar 1)) (gSub (tVar 0) (tC (.int 0)) rSetL))
  (tRet (tVar 2))))
  tNext)
  (tSeq (tAsg (tOp (uAdd K) (tOp (uIx K) (tVar 0) (tC (.int 2))) (tC (.int 1))) (gSub (tVar 0) (tC (.int 2)) rSetL))
  (tSeq (tAsg (tOp mMod (tCB mInt (tCons (tOp mPow (tOp (uAdd K) (tOp (uIx K) (tVar 0) (tC (.int 1))) (tOp (uMul K) (tC (.int 1000003)) (tOp (uIx K) (tVar 0) (tC (.int 2))))) (tC (.int 3))) tNil)) (tC (.int 2305843009213693921))) (gName 3))
  (tSeq (tAsg (tOp mMod (tCB mInt (tCons (tOp mPow (tOp (uAdd K) (tVar 3) (tOp (uMul K) (tC (.int 15485863)) (tOp (uIx K) (tVar 0) (tC (.int 2))))) (tC (.int 2))) tNil)) (tC (.int 2305843009213693951))) (gName 3))
  (tRet (tOp mMod (tCB mInt (tCons (tOp mDiv (tVar 3) (tC (.int 8192))) tNil)) (tVar 1)))))))
theorem d_ltake {P : Program} {w : World} {K : PySem.W.Frag} {mg : Str → Option Value} {base : Heap} (T : Txt K mg) (f : Addr) (cdv : Value) (A : Around) (outer : List Env) (s : Shared) (H : Hp) (E : XK) (hr : Room 0 (A.deeper (envOfC "_law_take" (defScope s_ltake) s.heap.objs.size f cdv))) :
    PSs (cxOf (L2N.CX P w) P w K mg base N_ltake "_law_take" (defScope s_ltake) f cdv A outer s H E) (defBody s_ltake) (t_ltake K E) := by
  unfold t_ltake
  exact (pss_cons (ps_if (pt_cmpR op_gt (pe_ix ix_U (pv 0) pe_int (fun _ _ => rfl)) pe_int (nomark _))
  (pss_cons (ps_set (i := 2) sc_ltake.nd rfl (Or.inl rfl) (pe_op op_mod (pe_callTy call_int1 (by rfl) T.n_int (by decide +kernel) (pa_cons (pe_ix ix_U (pv 0) pe_int (fun _ _ => rfl)) pa_nil)) (pv 1)))
  (pss_cons (ps_asg (pe_op op_fdivW (pe_ix ix_U (pv 0) pe_int (fun _ _ => rfl)) (pv 1)) (pg_sub (pv 0) pe_int set_list))
  (pss_one (ps_ret (pv 2)))))
  pss_nil)
  (pss_cons (ps_asg (pe_op op_addU (pe_ix ix_U (pv 0) pe_int (fun _ _ => rfl)) pe_int) (pg_sub (pv 0) pe_int set_list))
  (pss_cons (ps_set (i := 3) sc_ltake.nd rfl (Or.inl rfl) (pe_op op_mod (pe_callTy call_int1 (by rfl) T.n_int (by decide +kernel) (pa_cons (pe_op op_pow (pe_op op_addU (pe_ix ix_U (pv 0) pe_int (fun _ _ => rfl)) (pe_op op_mulU pe_int (pe_ix ix_U (pv 0) pe_int (fun _ _ => rfl)))) pe_int) pa_nil)) pe_int))
  (pss_cons (ps_set (i := 3) sc_ltake.nd rfl (Or.inl rfl) (pe_op op_mod (pe_callTy call_int1 (by rfl) T.n_int (by decide +kernel) (pa_cons (pe_op op_pow (pe_op op_addU (pv 3) (pe_op op_mulU pe_int (pe_ix ix_U (pv 0) pe_int (fun _ _ => rfl)))) pe_int) pa_nil)) pe_int))
  (pss_one (ps_ret (pe_op op_mod (pe_callTy call_int1 (by rfl) T.n_int (by decide +kernel) (pa_cons (pe_op op_fdivW (pv 3) pe_int) pa_nil)) (pv 1))))))))
theorem rd_ltake {K : PySem.W.Frag} {mg : Str → Option Value} (T : Txt K mg) : ∀ vs H Q E, sp_ltake K vs H Q E → t_ltake K E (Ends.mk (fun _ H' => Q .non H') Q (fun _ _ => False) (fun _ _ => False)) (start N_ltake vs) H := by
  intro vs H Q E h
  unfold t_ltake
  obtain ⟨b, many, n, rfl, ⟨L, M, c, hb, m0, m1, c0, c1⟩, hn, h0, h1, q⟩ := h
  walk_at "x"
  refine ite_d (fun c => ?_) (fun c => ?_)
  · walk_at "x"
    refine q _ _ (Int.emod_nonneg _ (by omega)) (Int.emod_lt_of_pos _ h0) But.up ⟨_, _, _, upd_same, m0, m1, c0, by omega⟩
  · walk_at "x"
    refine q _ _ (Int.emod_nonneg _ (by omega)) (Int.emod_lt_of_pos _ h0) But.up ⟨_, _, _, upd_same, m0, m1, by omega, by omega⟩
theorem len_ltake {K : PySem.W.Frag} : ∀ vs H Q E, sp_ltake K vs H Q E → vs.length = 2 := by
  intro vs H Q E h
  unfold sp_ltake at h
  repeat (first | (obtain ⟨rfl, _⟩ := h; rfl) | obtain ⟨_, h⟩ := h)
theorem ok_ltake {P : Program} {w : World} {K : PySem.W.Frag} {mg : Str → Option Value} {base : Heap} (T : Txt K mg) : Ok P w K mg base 1 (He.ga K "_law_take") ["_law_bag_here", "_law_many"] [] (sp_ltake K) :=
  okF T.f_ltake sc_ltake len_ltake (fun _ _ _ _ _ _ us hl => match us, hl with | [_, _], _ => rfl) (d_ltake T) (rd_ltake T)
theorem ltake_ok {K : PySem.W.Frag} {H : Hp} {b : Addr} {n : Nat} {many : Int} {Q : VK} {E : XK} (hb : Bag H b n) (hn : n ≤ 1000000000) (h0 : 0 < many) (h1 : many.natAbs < 10 ^ 200) (q : ∀ (d : Int) H', 0 ≤ d → d < many → But b H H' → Bag H' b (n + 1) → Q (.int d) H') : sp_ltake K [.ref b, .int many] H Q E := ⟨b, many, n, rfl, hb, hn, h0, h1, q⟩
theorem pick {P : V → Prop} : ∀ {xs : List V} {k : Nat} {x : V}, xs[k]? = some x → (∀ y ∈ xs, P y) → P x := fun h a => a _ (List.mem_of_getElem? h)
theorem pickI {lo hi : Int} {xs : List V} {k : Nat} {x : V} (h : xs[k]? = some x) (a : ∀ y ∈ xs, ∃ m : Int, y = .int m ∧ lo ≤ m ∧ m ≤ hi) : ∃ m : Int, x = .int m ∧ lo ≤ m ∧ m ≤ hi := a _ (List.mem_of_getElem? h)
theorem int_in {lo hi m : Int} (h : lo ≤ m) (g : m ≤ hi) : ∃ k : Int, V.int m = .int k ∧ lo ≤ k ∧ k ≤ hi := ⟨m, rfl, h, g⟩
theorem ne_bag {H : Hp} {b s : Addr} {n : Nat} (h : H s = none) (hb : Bag H b n) : s ≠ b := by
  obtain ⟨L, M, c, e, _⟩ := hb
  exact (ne_of_none e h).symm

def sp_lvalue (K : PySem.W.Frag) : Sp := fun vs H Q _ => ∃ p r : Int, vs = [.int p, .int r] ∧ 0 < r ∧ r.natAbs < Big ∧ ∀ v H', Same H H' → Jp K H' v (numJ p r) → Q v H'
def t_lvalue (K : PySem.W.Frag) (E : XK) : TS :=
  (tSeq (tPar 2 3 (tCons (tCB mAbs (tCons (tVar 0) tNil)) (tCons (tVar 1) tNil)))
  (tSeq (tWhile (tTest (tOp mGt (tVar 2) (tC (.int 0))))
  (tPar 2 3 (tCons (tOp mMod (tCB mInt (tCons (tVar 3) tNil)) (tVar 2)) (tCons (tVar 2) tNil))))
  (tRet (tIf (tTest (tOp (uEq K) (tVar 1) (tVar 3))) (tOp mDiv (tVar 0) (tVar 3)) (tTup (tCons (tOp mDiv (tVar 0) (tVar 3)) (tCons (tOp mDiv (tVar 1) (tVar 3)) tNil)))))))
theorem d_lvalue {P : Program} {w : World} {K : PySem.W.Frag} {mg : Str → Option Value} {base : Heap} (T : Txt K mg) (f : Addr) (cdv : Value) (A : Around) (outer : List Env) (s : Shared) (H : Hp) (E : XK) (hr : Room 0 (A.deeper (envOfC "_law_value" (defScope s_lvalue) s.heap.objs.size f cdv))) :
    PSs (cxOf (L2N.CX P w) P w K mg base N_lvalue "_law_value" (defScope s_lvalue) f cdv A outer s H E) (defBody s_lvalue) (t_lvalue K E) := by
  unfold t_lvalue
  exact (pss_cons (ps_par (i := 2) (j := 3) rfl sc_lvalue.nd rfl rfl (by decide) rfl rfl (pa_cons (pe_callB call_abs (by rfl) T.n_abs (by decide +kernel) (pa_cons (pv 0) pa_nil)) (pa_cons (pv 1) pa_nil)) (by rfl))
  (pss_cons (ps_while (passes_of rfl) (pt_cmpR op_gt (pv 2) pe_int (nomark _))
  (pss_one (ps_par (i := 2) (j := 3) rfl sc_lvalue.nd rfl rfl (by decide) rfl rfl (pa_cons (pe_op op_mod (pe_callTy call_int1 (by rfl) T.n_int (by decide +kernel) (pa_cons (pv 3) pa_nil)) (pv 2)) (pa_cons (pv 2) pa_nil)) (by rfl))))
  (pss_one (ps_ret (pe_ifExp (pt_cmpR (op_eqU (hu64 hr)) (pv 1) (pv 3) (nomark _)) (pe_op op_fdivW (pv 0) (pv 3)) (pe_tup (pa_cons (pe_op op_fdivW (pv 0) (pv 3)) (pa_cons (pe_op op_fdivW (pv 1) (pv 3)) pa_nil))))))))
theorem rd_lvalue {K : PySem.W.Frag} {mg : Str → Option Value} (T : Txt K mg) : ∀ vs H Q E, sp_lvalue K vs H Q E → t_lvalue K E (Ends.mk (fun _ H' => Q .non H') Q (fun _ _ => False) (fun _ _ => False)) (start N_lvalue vs) H := by
  intro vs H Q E h
  unfold t_lvalue
  obtain ⟨a, b, rfl, h0, h1, q⟩ := h
  have hB := big_le
  walk_at "x"
  refine x_while (fun σ H' => H' = H ∧ ∃ l g : Int, σ = [some (.int a), some (.int b), some (.int l), some (.int g)] ∧ 0 ≤ l ∧ 0 ≤ g ∧ Int.gcd l g = Int.gcd a b) (fun σ _ => match σ with | [_, _, some (.int l), _] => l.toNat | _ => 0) ⟨rfl, (a.natAbs : Int), b, rfl, by omega, by omega, ?_⟩ ?_
  · show Int.gcd (a.natAbs : Int) b = Int.gcd a b
    unfold Int.gcd
    rw [Int.natAbs_natCast]
  rintro σ H1 ⟨rfl, l, g, rfl, hl, hg, e⟩
  walk_at "x"
  refine ite_d (fun h => ?_) (fun h => ?_)
  · refine x_whileN ?_
    walk_at "x"
    refine ⟨⟨rfl, _, _, rfl, Int.emod_nonneg _ (by omega), hl, ?_⟩, ?_⟩
    · rw [← e]
      obtain ⟨m, rfl⟩ := Int.eq_ofNat_of_zero_le hl
      obtain ⟨n, rfl⟩ := Int.eq_ofNat_of_zero_le hg
      show Int.gcd ((n : Int) % (m : Int)) (m : Int) = Int.gcd (m : Int) (n : Int)
      rw [← Int.natCast_emod]
      exact (Nat.gcd_rec m n).symm
    · show (g % l).toNat < l.toNat
      have := Int.emod_lt_of_pos g h
      have := Int.emod_nonneg g (by omega : l ≠ 0)
      omega
  · have e0 : l = 0 := by omega
    subst e0
    have e1 : g = (Int.gcd a b : Int) := by rw [← e]; simp; omega
    clear e hl hg h
    subst e1
    have g0 := gcd_pos (t := a) h0
    have g1 := gcd_lt (t := a) h0 h1
    rw [numJ_pos h0] at q
    walk_at "x"
    refine ite_d (fun c => ?_) (fun c => ?_)
    · rw [if_pos c] at q
      walk_at "x"
      exact q _ _ (Same.refl _) (.int _)
    · rw [if_neg c] at q
      walk_at "xx"
      exact q _ _ (by assumption) (by walk_at "jp")
theorem len_lvalue {K : PySem.W.Frag} : ∀ vs H Q E, sp_lvalue K vs H Q E → vs.length = 2 := by
  intro vs H Q E h
  unfold sp_lvalue at h
  repeat (first | (obtain ⟨rfl, _⟩ := h; rfl) | obtain ⟨_, h⟩ := h)
theorem ok_lvalue {P : Program} {w : World} {K : PySem.W.Frag} {mg : Str → Option Value} {base : Heap} (T : Txt K mg) : Ok P w K mg base 1 (He.ga K "_law_value") ["_law_p", "_law_q"] [] (sp_lvalue K) :=
  okF T.f_lvalue sc_lvalue len_lvalue (fun _ _ _ _ _ _ us hl => match us, hl with | [_, _], _ => rfl) (d_lvalue T) (rd_lvalue T)
def sp_lpair (K : PySem.W.Frag) : Sp := fun vs H Q _ => ∃ x p q, vs = [x] ∧ Jp K H x (pj p q) ∧ ∀ v H', Same H H' → Jp K H' v (.tup [.int p, .int q]) → Q v H'
def t_lpair (K : PySem.W.Frag) (E : XK) : TS :=
  (tRet (tIf (tTruth K (tCB (rIsi K) (tCons (tVar 0) (tCons (tC (.ty "tuple")) tNil)))) (tVar 0) (tTup (tCons (tVar 0) (tCons (tC (.int 1)) tNil)))))
theorem d_lpair {P : Program} {w : World} {K : PySem.W.Frag} {mg : Str → Option Value} {base : Heap} (T : Txt K mg) (f : Addr) (cdv : Value) (A : Around) (outer : List Env) (s : Shared) (H : Hp) (E : XK) (hr : Room 0 (A.deeper (envOfC "_law_pair" (defScope s_lpair) s.heap.objs.size f cdv))) :
    PSs (cxOf (L2N.CX P w) P w K mg base N_lpair "_law_pair" (defScope s_lpair) f cdv A outer s H E) (defBody s_lpair) (t_lpair K E) := by
  unfold t_lpair
  exact (pss_one (ps_ret (pe_ifExp (pt_tru (pe_callB call_isi (by rfl) T.n_isinstance (by decide +kernel) (pa_cons (pv 0) (pa_cons (pe_ty T.n_tuple (by decide +kernel)) pa_nil)))) (pv 0) (pe_tup (pa_cons (pv 0) (pa_cons pe_int pa_nil))))))
theorem rd_lpair {K : PySem.W.Frag} {mg : Str → Option Value} (T : Txt K mg) : ∀ vs H Q E, sp_lpair K vs H Q E → t_lpair K E (Ends.mk (fun _ H' => Q .non H') Q (fun _ _ => False) (fun _ _ => False)) (start N_lpair vs) H := by
  intro vs H Q E h
  unfold t_lpair
  obtain ⟨x, p, r, rfl, hx, q⟩ := h
  by_cases c : r = 1
  · subst c
    rw [pj_one] at hx
    cases hx
    walk_at "xx"
    exact q _ _ (by assumption) (by walk_at "jp")
  · rw [pj_two c] at hx
    walk_at "x"
    exact q _ _ (Same.refl _) hx
theorem len_lpair {K : PySem.W.Frag} : ∀ vs H Q E, sp_lpair K vs H Q E → vs.length = 1 := by
  intro vs H Q E h
  unfold sp_lpair at h
  repeat (first | (obtain ⟨rfl, _⟩ := h; rfl) | obtain ⟨_, h⟩ := h)
theorem ok_lpair {P : Program} {w : World} {K : PySem.W.Frag} {mg : Str → Option Value} {base : Heap} (T : Txt K mg) : Ok P w K mg base 1 (He.ga K "_law_pair") ["_law_value_here"] [] (sp_lpair K) :=
  okF T.f_lpair sc_lpair len_lpair (fun _ _ _ _ _ _ us hl => match us, hl with | [_], _ => rfl) (d_lpair T) (rd_lpair T)
def sp_lis_int (K : PySem.W.Frag) : Sp := fun vs H Q _ => ∃ x d, vs = [x] ∧ Jp K H x d ∧ Q (.bl (isInt d)) H
def t_lis_int (K : PySem.W.Frag) (E : XK) : TS :=
  (tRet (tAndV (tCB (rIsi K) (tCons (tVar 0) (tCons (tC (.ty "int")) tNil))) (tNotV (tCB (rIsi K) (tCons (tVar 0) (tCons (tC (.ty "bool")) tNil))))))
theorem d_lis_int {P : Program} {w : World} {K : PySem.W.Frag} {mg : Str → Option Value} {base : Heap} (T : Txt K mg) (f : Addr) (cdv : Value) (A : Around) (outer : List Env) (s : Shared) (H : Hp) (E : XK) (hr : Room 0 (A.deeper (envOfC "_law_is_int" (defScope s_lis_int) s.heap.objs.size f cdv))) :
    PSs (cxOf (L2N.CX P w) P w K mg base N_lis_int "_law_is_int" (defScope s_lis_int) f cdv A outer s H E) (defBody s_lis_int) (t_lis_int K E) := by
  unfold t_lis_int
  exact (pss_one (ps_ret (pe_and (pe_callB call_isi (by rfl) T.n_isinstance (by decide +kernel) (pa_cons (pv 0) (pa_cons (pe_ty T.n_int (by decide +kernel)) pa_nil))) (pe_one (pe_not (pe_callB call_isi (by rfl) T.n_isinstance (by decide +kernel) (pa_cons (pv 0) (pa_cons (pe_ty T.n_bool (by decide +kernel)) pa_nil))))))))
theorem rd_lis_int {K : PySem.W.Frag} {mg : Str → Option Value} (T : Txt K mg) : ∀ vs H Q E, sp_lis_int K vs H Q E → t_lis_int K E (Ends.mk (fun _ H' => Q .non H') Q (fun _ _ => False) (fun _ _ => False)) (start N_lis_int vs) H := by
  intro vs H Q E h
  unfold t_lis_int
  obtain ⟨x, d, rfl, hd, q⟩ := h
  walk_at "x"
  have e := isT_int d
  revert e
  cases isT d.ty "int" with
  | true =>
    intro e
    walk_at "x"
    rw [← e] at q
    exact q
  | false =>
    intro e
    walk_at "x"
    rw [← e] at q
    exact q
theorem len_lis_int {K : PySem.W.Frag} : ∀ vs H Q E, sp_lis_int K vs H Q E → vs.length = 1 := by
  intro vs H Q E h
  unfold sp_lis_int at h
  repeat (first | (obtain ⟨rfl, _⟩ := h; rfl) | obtain ⟨_, h⟩ := h)
theorem ok_lis_int {P : Program} {w : World} {K : PySem.W.Frag} {mg : Str → Option Value} {base : Heap} (T : Txt K mg) : Ok P w K mg base 1 (He.ga K "_law_is_int") ["_law_thing"] [] (sp_lis_int K) :=
  okF T.f_lis_int sc_lis_int len_lis_int (fun _ _ _ _ _ _ us hl => match us, hl with | [_], _ => rfl) (d_lis_int T) (rd_lis_int T)
theorem okH_lis_int {P : Program} {w : World} {K : PySem.W.Frag} {mg : Str → Option Value} {base : Heap} (T : Txt K mg) : OkH P w K mg base 1 (He.ga K "_law_is_int") ["_law_thing"] (sp_lis_int K) := by
  obtain ⟨fd, F⟩ := T.f_lis_int
  refine okH_of (k := 0) F sc_lis_int len_lis_int (F.bindsN (fun _ _ _ _ _ _ us hl => match us, hl with | [_], _ => rfl)) fun cdv A outer s H vs Q E p hot hr h => ⟨t_lis_int K E, ?_, rd_lis_int T vs H Q E h⟩
  unfold t_lis_int
  exact (pss_one (ps_ret (pe_and (pe_callB call_isi (by rfl) T.n_isinstance (by decide +kernel) (pa_cons (pv 0) (pa_cons (pe_ty T.n_int (by decide +kernel)) pa_nil))) (pe_one (pe_not (pe_callB call_isi (by rfl) T.n_isinstance (by decide +kernel) (pa_cons (pv 0) (pa_cons (pe_ty T.n_bool (by decide +kernel)) pa_nil))))))))
/-- an int, or a tuple of two -/
def numLike (d : J) : Prop := (∃ i, d = .int i) ∨ ∃ p q, d = .tup [.int p, .int q]
theorem numJ_like (t b : Int) : numLike (numJ t b) := by
  unfold numJ
  split
  · exact .inl ⟨_, rfl⟩
  · exact .inr ⟨_, _, rfl⟩
theorem like_int (i : Int) : numLike (.int i) := .inl ⟨_, rfl⟩
def sp_lsame (K : PySem.W.Frag) : Sp := fun vs H Q _ => ∃ x y d, vs = [x, y] ∧ Jp K H x d ∧ Jp K H y d ∧ numLike d ∧ Q (.bl true) H
def t_lsame (K : PySem.W.Frag) (E : XK) : TS :=
  (tSeq (tIfS (tNot (tTruth K (tCB (rIsi K) (tCons (tVar 1) (tCons (tC (.ty "tuple")) tNil)))))
  (tRet (tAndV (tCall (sp_lis_int K) [] E0 (tCons (tVar 0) tNil)) (tOp (uEq K) (tVar 0) (tVar 1))))
  tNext)
  (tSeq (tIfS (tOr (tNot (tTruth K (tCB (rIsi K) (tCons (tVar 0) (tCons (tC (.ty "tuple")) tNil))))) (tTest (tOp (uNe K) (tCB (uLen K) (tCons (tVar 0) tNil)) (tC (.int 2)))))
  (tRet (tC (.bl false)))
  tNext)
  (tRet (tAndV (tCall (sp_lis_int K) [] E0 (tCons (tOp (uIx K) (tVar 0) (tC (.int 0))) tNil)) (tAndV (tCall (sp_lis_int K) [] E0 (tCons (tOp (uIx K) (tVar 0) (tC (.int 1))) tNil)) (tOp (uEq K) (tVar 0) (tVar 1)))))))
theorem d_lsame {P : Program} {w : World} {K : PySem.W.Frag} {mg : Str → Option Value} {base : Heap} (T : Txt K mg) (f : Addr) (cdv : Value) (A : Around) (outer : List Env) (s : Shared) (H : Hp) (E : XK) (hr : Room 1 (A.deeper (envOfC "_law_same" (defScope s_lsame) s.heap.objs.size f cdv))) :
    PSs (cxOf (L2N.CX P w) P w K mg base N_lsame "_law_same" (defScope s_lsame) f cdv A outer s H E) (defBody s_lsame) (t_lsame K E) := by
  unfold t_lsame
  exact (pss_cons (ps_if (pt_not (pt_tru (pe_callB call_isi (by rfl) T.n_isinstance (by decide +kernel) (pa_cons (pv 1) (pa_cons (pe_ty T.n_tuple (by decide +kernel)) pa_nil)))))
  (pss_one (ps_ret (pe_and (pe_c (ok_lis_int T) hr (by decide) T.g__law_is_int passN0 (pa_cons (pv 0) pa_nil)) (pe_one (pe_cmpR (op_eqU (hu64 hr)) (pv 0) (pv 1) (nomark _))))))
  pss_nil)
  (pss_cons (ps_if (PW.pt (pw_or (pt_not (pt_tru (pe_callB call_isi (by rfl) T.n_isinstance (by decide +kernel) (pa_cons (pv 0) (pa_cons (pe_ty T.n_tuple (by decide +kernel)) pa_nil))))) (pw_or1 (pt_cmpR (op_neU (hu64 hr)) (pe_callB call_lenU (by rfl) T.n_len (by decide +kernel) (pa_cons (pv 0) pa_nil)) pe_int (nomark _)))))
  (pss_one (ps_ret pe_bl))
  pss_nil)
  (pss_one (ps_ret (pe_and (pe_c (ok_lis_int T) hr (by decide) T.g__law_is_int passN0 (pa_cons (pe_ix ix_U (pv 0) pe_int (fun _ _ => rfl)) pa_nil)) (pe_and (pe_c (ok_lis_int T) hr (by decide) T.g__law_is_int passN0 (pa_cons (pe_ix ix_U (pv 0) pe_int (fun _ _ => rfl)) pa_nil)) (pe_one (pe_cmpR (op_eqU (hu64 hr)) (pv 0) (pv 1) (nomark _)))))))))
theorem eqJ_two (p q : Int) : eqJ (.tup [.int p, .int q]) (.tup [.int p, .int q]) = true := by
  simp [eqJ, J.py, J.pys, PyData.eqv, PyData.eqvAll]
theorem rd_lsame {K : PySem.W.Frag} {mg : Str → Option Value} (T : Txt K mg) : ∀ vs H Q E, sp_lsame K vs H Q E → t_lsame K E (Ends.mk (fun _ H' => Q .non H') Q (fun _ _ => False) (fun _ _ => False)) (start N_lsame vs) H := by
  intro vs H Q E h
  unfold t_lsame
  obtain ⟨x, y, d, rfl, hx, hy, hd, q⟩ := h
  rcases hd with ⟨i, rfl⟩ | ⟨p, r, rfl⟩
  · cases hx
    cases hy
    walk_at "x"
    refine ⟨_, _, rfl, .int _, ?_⟩
    walk_at "x"
    rw [decide_eq_true rfl]
    exact q
  · cases hx with
    | tup hs hr =>
    rename_i a xs
    cases hr with
    | cons h1 hr =>
    cases hr with
    | cons h2 hr =>
    cases hr
    cases h1
    cases h2
    walk_at "x"
    refine ⟨_, _, rfl, .int _, ?_⟩
    walk_at "x"
    refine ⟨_, _, rfl, .int _, ?_⟩
    walk_at "x"
    refine eqU_J (.tup hs (.cons (.int _) (.cons (.int _) .nil))) hy ?_ (by rfl) (by rfl)
    rw [eqJ_two]
    exact q
theorem len_lsame {K : PySem.W.Frag} : ∀ vs H Q E, sp_lsame K vs H Q E → vs.length = 2 := by
  intro vs H Q E h
  unfold sp_lsame at h
  repeat (first | (obtain ⟨rfl, _⟩ := h; rfl) | obtain ⟨_, h⟩ := h)
theorem ok_lsame {P : Program} {w : World} {K : PySem.W.Frag} {mg : Str → Option Value} {base : Heap} (T : Txt K mg) : Ok P w K mg base 2 (He.ga K "_law_same") ["_law_actual", "_law_due"] [] (sp_lsame K) :=
  okF T.f_lsame sc_lsame len_lsame (fun _ _ _ _ _ _ us hl => match us, hl with | [_, _], _ => rfl) (d_lsame T) (rd_lsame T)
theorem lsame_ok {K : PySem.W.Frag} {H : Hp} {x y : V} {d : J} {Q : VK} {E : XK} (hx : Jp K H x d) (hy : Jp K H y d) (n : numLike d) (q : Q (.bl true) H) : sp_lsame K [x, y] H Q E := ⟨x, y, d, rfl, hx, hy, n, q⟩
theorem lvalue_ok {K : PySem.W.Frag} {H : Hp} {t b : Int} {Q : VK} {E : XK} (h : 0 < b) (l : b.natAbs < Big) (q : ∀ v H' p r, Same H H' → Jp K H' v (pj p r) → Lo p r → r ≤ b → p * b = t * r → p.natAbs ≤ t.natAbs → Q v H') : sp_lvalue K [.int t, .int b] H Q E :=
  ⟨t, b, rfl, h, l, fun v H' s j => q v H' _ _ s j (numP_lo (by omega)) (numP_le h) (numP_eq h) (numP_abs h)⟩
def sp_lnumber (K : PySem.W.Frag) : Sp := fun vs H Q _ => ∃ (b : Addr) (n : Nat), vs = [.ref b] ∧ Bag H b n ∧ n ≤ 1000000 ∧
  ∀ v p q H', But b H H' → Bag H' b (n + 3) → Jp K H' v (pj p q) → Lo p q → q ≤ 10 ^ 9 → p.natAbs ≤ 10 ^ 20 → Q v H'
def t_lnumber (K : PySem.W.Frag) (E : XK) : TS :=
  (tSeq (tIfS (tTest (tOp mGt (tCall (sp_ltake K) [] E0 (tCons (tVar 0) (tCons (tC (.int 3)) tNil))) (tC (.int 0))))
  (tRet (tCall (sp_lvalue K) [] E0 (tCons (tOp mSub (tCall (sp_ltake K) [] E0 (tCons (tVar 0) (tCons (tC (.int 11)) tNil))) (tC (.int 5))) (tCons (tOp (uAdd K) (tC (.int 1)) (tCall (sp_ltake K) [] E0 (tCons (tVar 0) (tCons (tC (.int 3)) tNil)))) tNil))))
  tNext)
  (tRet (tCall (sp_lvalue K) [] E0 (tCons (tOp mSub (tCall (sp_ltake K) [] E0 (tCons (tVar 0) (tCons (tOp (uAdd K) (tOp (uMul K) (tC (.int 2)) (tOp mPow (tC (.int 10)) (tC (.int 20)))) (tC (.int 1))) tNil))) (tOp mPow (tC (.int 10)) (tC (.int 20)))) (tCons (tOp (uAdd K) (tC (.int 1)) (tCall (sp_ltake K) [] E0 (tCons (tVar 0) (tCons (tOp mPow (tC (.int 10)) (tC (.int 9))) tNil)))) tNil)))))
theorem d_lnumber {P : Program} {w : World} {K : PySem.W.Frag} {mg : Str → Option Value} {base : Heap} (T : Txt K mg) (f : Addr) (cdv : Value) (A : Around) (outer : List Env) (s : Shared) (H : Hp) (E : XK) (hr : Room 1 (A.deeper (envOfC "_law_number" (defScope s_lnumber) s.heap.objs.size f cdv))) :
    PSs (cxOf (L2N.CX P w) P w K mg base N_lnumber "_law_number" (defScope s_lnumber) f cdv A outer s H E) (defBody s_lnumber) (t_lnumber K E) := by
  unfold t_lnumber
  exact (pss_cons (ps_if (pt_cmpR op_gt (pe_c (ok_ltake T) hr (by decide) T.g__law_take passN0 (pa_cons (pv 0) (pa_cons pe_int pa_nil))) pe_int (nomark _))
  (pss_one (ps_ret (pe_c (ok_lvalue T) hr (by decide) T.g__law_value passN0 (pa_cons (pe_op op_sub (pe_c (ok_ltake T) hr (by decide) T.g__law_take passN0 (pa_cons (pv 0) (pa_cons pe_int pa_nil))) pe_int) (pa_cons (pe_op op_addU pe_int (pe_c (ok_ltake T) hr (by decide) T.g__law_take passN0 (pa_cons (pv 0) (pa_cons pe_int pa_nil)))) pa_nil)))))
  pss_nil)
  (pss_one (ps_ret (pe_c (ok_lvalue T) hr (by decide) T.g__law_value passN0 (pa_cons (pe_op op_sub (pe_c (ok_ltake T) hr (by decide) T.g__law_take passN0 (pa_cons (pv 0) (pa_cons (pe_op op_addU (pe_op op_mulU pe_int (pe_op op_pow pe_int pe_int)) pe_int) pa_nil))) (pe_op op_pow pe_int pe_int)) (pa_cons (pe_op op_addU pe_int (pe_c (ok_ltake T) hr (by decide) T.g__law_take passN0 (pa_cons (pv 0) (pa_cons (pe_op op_pow pe_int pe_int) pa_nil)))) pa_nil))))))
theorem rd_lnumber {K : PySem.W.Frag} {mg : Str → Option Value} (T : Txt K mg) : ∀ vs H Q E, sp_lnumber K vs H Q E → t_lnumber K E (Ends.mk (fun _ H' => Q .non H') Q (fun _ _ => False) (fun _ _ => False)) (start N_lnumber vs) H := by
  intro vs H Q E h
  unfold t_lnumber
  obtain ⟨b, n, rfl, hb, hn, q⟩ := h
  have hB := big_le
  walk_at "x"
  refine ltake_ok hb (by omega) (by decide) (by decide) fun d0 H1 _ _ e1 g1 => ?_
  walk_at "x"
  refine ite_d (fun c => ?_) (fun c => ?_)
  all_goals
    walk_at "x"
    refine ltake_ok g1 (by omega) (by decide) (by decide) fun d1 H2 a1 a2 e2 g2 => ?_
    walk_at "x"
    refine ltake_ok g2 (by omega) (by decide) (by decide) fun d2 H3 a3 a4 e3 g3 => ?_
    walk_at "x"
    refine lvalue_ok (by omega) (by omega) fun v H4 p r s4 j l r1 e r2 => ?_
    exact q _ _ _ _ (e1.trans (e2.trans (e3.trans (Same.but s4)))) (g3.same s4) j l (by omega) (by omega)
theorem len_lnumber {K : PySem.W.Frag} : ∀ vs H Q E, sp_lnumber K vs H Q E → vs.length = 1 := by
  intro vs H Q E h
  unfold sp_lnumber at h
  repeat (first | (obtain ⟨rfl, _⟩ := h; rfl) | obtain ⟨_, h⟩ := h)
theorem ok_lnumber {P : Program} {w : World} {K : PySem.W.Frag} {mg : Str → Option Value} {base : Heap} (T : Txt K mg) : Ok P w K mg base 2 (He.ga K "_law_number") ["_law_bag_here"] [] (sp_lnumber K) :=
  okF T.f_lnumber sc_lnumber len_lnumber (fun _ _ _ _ _ _ us hl => match us, hl with | [_], _ => rfl) (d_lnumber T) (rd_lnumber T)

/-! ## the law -/
/-- a number of the law: at most M in size, its denominator below B -/
structure Nm (p q : Int) (M B : Nat) : Prop where
  lo : Lo p q
  hp : p.natAbs ≤ M * q.natAbs
  hq : q.natAbs < B
def sp_lorder (K : PySem.W.Frag) : Sp := fun vs H Q _ => ∃ x y p q r s, vs = [x, y] ∧ Jp K H x (pj p q) ∧ Jp K H y (pj r s) ∧ p.natAbs < Big ∧ q.natAbs < Big ∧ r.natAbs < Big ∧ s.natAbs < Big ∧ ∀ H', Same H H' → Q (.int (p * s - r * q)) H'
def t_lorder (K : PySem.W.Frag) (E : XK) : TS :=
  (tSeq (tPar 2 3 (tCons (tCall (sp_lpair K) [] E0 (tCons (tVar 0) tNil)) (tCons (tCall (sp_lpair K) [] E0 (tCons (tVar 1) tNil)) tNil)))
  (tRet (tOp mSub (tOp (uMul K) (tOp (uIx K) (tVar 2) (tC (.int 0))) (tOp (uIx K) (tVar 3) (tC (.int 1)))) (tOp (uMul K) (tOp (uIx K) (tVar 3) (tC (.int 0))) (tOp (uIx K) (tVar 2) (tC (.int 1)))))))
theorem d_lorder {P : Program} {w : World} {K : PySem.W.Frag} {mg : Str → Option Value} {base : Heap} (T : Txt K mg) (f : Addr) (cdv : Value) (A : Around) (outer : List Env) (s : Shared) (H : Hp) (E : XK) (hr : Room 1 (A.deeper (envOfC "_law_order" (defScope s_lorder) s.heap.objs.size f cdv))) :
    PSs (cxOf (L2N.CX P w) P w K mg base N_lorder "_law_order" (defScope s_lorder) f cdv A outer s H E) (defBody s_lorder) (t_lorder K E) := by
  unfold t_lorder
  exact (pss_cons (ps_par (i := 2) (j := 3) rfl sc_lorder.nd rfl rfl (by decide) rfl rfl (pa_cons (pe_c (ok_lpair T) hr (by decide) T.g__law_pair passN0 (pa_cons (pv 0) pa_nil)) (pa_cons (pe_c (ok_lpair T) hr (by decide) T.g__law_pair passN0 (pa_cons (pv 1) pa_nil)) pa_nil)) (by rfl))
  (pss_one (ps_ret (pe_op op_sub (pe_op op_mulU (pe_ix ix_U (pv 2) pe_int (fun _ _ => rfl)) (pe_ix ix_U (pv 3) pe_int (fun _ _ => rfl))) (pe_op op_mulU (pe_ix ix_U (pv 3) pe_int (fun _ _ => rfl)) (pe_ix ix_U (pv 2) pe_int (fun _ _ => rfl)))))))
theorem rd_lorder {K : PySem.W.Frag} {mg : Str → Option Value} (T : Txt K mg) : ∀ vs H Q E, sp_lorder K vs H Q E → t_lorder K E (Ends.mk (fun _ H' => Q .non H') Q (fun _ _ => False) (fun _ _ => False)) (start N_lorder vs) H := by
  intro vs H Q E h
  unfold t_lorder
  obtain ⟨x, y, p, r, t, s, rfl, hx, hy, b1, b2, b3, b4, q⟩ := h
  have hB := big_le
  walk_at "x"
  refine ⟨_, _, _, rfl, hx, fun v H1 s1 j1 => ?_⟩
  walk_at "x"
  refine ⟨_, _, _, rfl, hy.same s1, fun w H2 s2 j2 => ?_⟩
  obtain ⟨c1, rfl, t1⟩ := two_of j1
  obtain ⟨c2, rfl, t2⟩ := two_of j2
  have t1 := sqt_same s2 t1
  walk_at "x"
  exact q _ (Same.trans s1 s2)
theorem len_lorder {K : PySem.W.Frag} : ∀ vs H Q E, sp_lorder K vs H Q E → vs.length = 2 := by
  intro vs H Q E h
  unfold sp_lorder at h
  repeat (first | (obtain ⟨rfl, _⟩ := h; rfl) | obtain ⟨_, h⟩ := h)
theorem ok_lorder {P : Program} {w : World} {K : PySem.W.Frag} {mg : Str → Option Value} {base : Heap} (T : Txt K mg) : Ok P w K mg base 2 (He.ga K "_law_order") ["_law_one", "_law_other"] [] (sp_lorder K) :=
  okF T.f_lorder sc_lorder len_lorder (fun _ _ _ _ _ _ us hl => match us, hl with | [_, _], _ => rfl) (d_lorder T) (rd_lorder T)
def sp_lis_lowest (K : PySem.W.Frag) : Sp := fun vs H Q _ => ∃ x p q, vs = [x] ∧ Jp K H x (pj p q) ∧ Lo p q ∧ q.natAbs < Big ∧ ∀ H', Same H H' → Q (.bl true) H'
def t_lis_lowest (K : PySem.W.Frag) (E : XK) : TS :=
  (tSeq (tIfS (tTruth K (tCall (sp_lis_int K) [] E0 (tCons (tVar 0) tNil)))
  (tRet (tC (.bl true)))
  tNext)
  (tSeq (tIfS (tOr (tNot (tTruth K (tCB (rIsi K) (tCons (tVar 0) (tCons (tC (.ty "tuple")) tNil))))) (tOr (tTest (tOp (uNe K) (tCB (uLen K) (tCons (tVar 0) tNil)) (tC (.int 2)))) (tOr (tNot (tTruth K (tCall (sp_lis_int K) [] E0 (tCons (tOp (uIx K) (tVar 0) (tC (.int 0))) tNil)))) (tNot (tTruth K (tCall (sp_lis_int K) [] E0 (tCons (tOp (uIx K) (tVar 0) (tC (.int 1))) tNil)))))))
  (tRet (tC (.bl false)))
  tNext)
  (tRet (tAndV (tOp mGt (tOp (uIx K) (tVar 0) (tC (.int 1))) (tC (.int 1))) (tOp (uEq K) (tCall (sp_lvalue K) [] E0 (tCons (tOp (uIx K) (tVar 0) (tC (.int 0))) (tCons (tOp (uIx K) (tVar 0) (tC (.int 1))) tNil))) (tVar 0))))))
theorem d_lis_lowest {P : Program} {w : World} {K : PySem.W.Frag} {mg : Str → Option Value} {base : Heap} (T : Txt K mg) (f : Addr) (cdv : Value) (A : Around) (outer : List Env) (s : Shared) (H : Hp) (E : XK) (hr : Room 1 (A.deeper (envOfC "_law_is_lowest" (defScope s_lis_lowest) s.heap.objs.size f cdv))) :
    PSs (cxOf (L2N.CX P w) P w K mg base N_lis_lowest "_law_is_lowest" (defScope s_lis_lowest) f cdv A outer s H E) (defBody s_lis_lowest) (t_lis_lowest K E) := by
  unfold t_lis_lowest
  exact (pss_cons (ps_if (pt_tru (pe_c (ok_lis_int T) hr (by decide) T.g__law_is_int passN0 (pa_cons (pv 0) pa_nil)))
  (pss_one (ps_ret pe_bl))
  pss_nil)
  (pss_cons (ps_if (PW.pt (pw_or (pt_not (pt_tru (pe_callB call_isi (by rfl) T.n_isinstance (by decide +kernel) (pa_cons (pv 0) (pa_cons (pe_ty T.n_tuple (by decide +kernel)) pa_nil))))) (pw_or (pt_cmpR (op_neU (hu64 hr)) (pe_callB call_lenU (by rfl) T.n_len (by decide +kernel) (pa_cons (pv 0) pa_nil)) pe_int (nomark _)) (pw_or (pt_not (pt_tru (pe_c (ok_lis_int T) hr (by decide) T.g__law_is_int passN0 (pa_cons (pe_ix ix_U (pv 0) pe_int (fun _ _ => rfl)) pa_nil)))) (pw_or1 (pt_not (pt_tru (pe_c (ok_lis_int T) hr (by decide) T.g__law_is_int passN0 (pa_cons (pe_ix ix_U (pv 0) pe_int (fun _ _ => rfl)) pa_nil)))))))))
  (pss_one (ps_ret pe_bl))
  pss_nil)
  (pss_one (ps_ret (pe_and (pe_cmpR op_gt (pe_ix ix_U (pv 0) pe_int (fun _ _ => rfl)) pe_int (nomark _)) (pe_one (pe_cmpR (op_eqU (hu64 hr)) (pe_c (ok_lvalue T) hr (by decide) T.g__law_value passN0 (pa_cons (pe_ix ix_U (pv 0) pe_int (fun _ _ => rfl)) (pa_cons (pe_ix ix_U (pv 0) pe_int (fun _ _ => rfl)) pa_nil))) (pv 0) (nomark _))))))))
theorem rd_lis_lowest {K : PySem.W.Frag} {mg : Str → Option Value} (T : Txt K mg) : ∀ vs H Q E, sp_lis_lowest K vs H Q E → t_lis_lowest K E (Ends.mk (fun _ H' => Q .non H') Q (fun _ _ => False) (fun _ _ => False)) (start N_lis_lowest vs) H := by
  intro vs H Q E h
  unfold t_lis_lowest
  obtain ⟨x, p, r, rfl, hx, hl, hq, q⟩ := h
  have hB := big_le
  have r0 := hl.pos
  by_cases c : r = 1
  · subst c
    rw [pj_one] at hx
    cases hx
    walk_at "x"
    refine ⟨_, _, rfl, .int _, ?_⟩
    walk_at "x"
    exact q _ (Same.refl _)
  · rw [pj_two c] at hx
    have hx2 := hx
    cases hx2 with | tup t jj =>
    cases jj with | cons ja jj =>
    cases jj with | cons jb jj =>
    cases jj
    cases ja
    cases jb
    walk_at "x"
    refine ⟨_, _, rfl, hx, ?_⟩
    walk_at "x"
    refine ⟨_, _, rfl, .int _, ?_⟩
    walk_at "x"
    refine ⟨_, _, rfl, .int _, ?_⟩
    walk_at "x"
    refine ite_d (fun c2 => ?_) (fun c2 => absurd (show 1 < r by omega) c2)
    walk_at "x"
    refine ⟨_, _, rfl, r0, hq, fun v H' s' j => ?_⟩
    rw [numJ_of hl, pj_two c] at j
    walk_at "x"
    refine eqU_J j (hx.same s') ?_ (by rfl) (by rfl)
    rw [eqJ_two]
    exact q _ s'
theorem len_lis_lowest {K : PySem.W.Frag} : ∀ vs H Q E, sp_lis_lowest K vs H Q E → vs.length = 1 := by
  intro vs H Q E h
  unfold sp_lis_lowest at h
  repeat (first | (obtain ⟨rfl, _⟩ := h; rfl) | obtain ⟨_, h⟩ := h)
theorem ok_lis_lowest {P : Program} {w : World} {K : PySem.W.Frag} {mg : Str → Option Value} {base : Heap} (T : Txt K mg) : Ok P w K mg base 2 (He.ga K "_law_is_lowest") ["_law_value_here"] [] (sp_lis_lowest K) :=
  okF T.f_lis_lowest sc_lis_lowest len_lis_lowest (fun _ _ _ _ _ _ us hl => match us, hl with | [_], _ => rfl) (d_lis_lowest T) (rd_lis_lowest T)
theorem sgn_sub (a b : Int) : sgn a b = (if decide (0 < a - b) then 1 else 0) - (if decide (a - b < 0) then 1 else 0) := by
  unfold sgn
  rw [show decide (b < a) = decide (0 < a - b) from decide_eq_decide.mpr (by omega), show decide (a < b) = decide (a - b < 0) from decide_eq_decide.mpr (by omega)]
theorem sgn_turn (a b : Int) : sgn a b = -sgn b a := by
  unfold sgn
  omega
theorem sgn_self (a : Int) : sgn a a = 0 := by
  unfold sgn
  omega
def sp_lcompares (K : PySem.W.Frag) : Sp := fun vs H Q _ => ∃ x y p q r s, vs = [x, y] ∧ Jp K H x (pj p q) ∧ Jp K H y (pj r s) ∧ p.natAbs < Big ∧ q.natAbs < Big ∧ r.natAbs < Big ∧ s.natAbs < Big ∧ ∀ H', Same H H' → Q (.bl true) H'
def t_lcompares (K : PySem.W.Frag) (E : XK) : TS :=
  (tSeq (tAsg (tCall (sp_lorder K) [] E0 (tCons (tVar 0) (tCons (tVar 1) tNil))) (gName 2))
  (tSeq (tAsg (tOp mSub (tCB mInt (tCons (tOp mGt (tVar 2) (tC (.int 0))) tNil)) (tCB mInt (tCons (tOp mLt (tVar 2) (tC (.int 0))) tNil))) (gName 3))
  (tSeq (tIfS (tOr (tNot (tTruth K (tCall (sp_lsame K) [] E0 (tCons (tCall (sp_compare K) [] E0 (tCons (tVar 0) (tCons (tVar 1) tNil))) (tCons (tVar 3) tNil))))) (tNot (tTruth K (tCall (sp_lsame K) [] E0 (tCons (tCall (sp_compare K) [] E0 (tCons (tVar 1) (tCons (tVar 0) tNil))) (tCons (tUn mNeg (tVar 3)) tNil))))))
  (tRet (tC (.bl false)))
  tNext)
  (tRet (tCall (sp_lsame K) [] E0 (tCons (tCall (sp_compare K) [] E0 (tCons (tVar 0) (tCons (tVar 0) tNil))) (tCons (tC (.int 0)) tNil)))))))
theorem d_lcompares {P : Program} {w : World} {K : PySem.W.Frag} {mg : Str → Option Value} {base : Heap} (T : Txt K mg) (f : Addr) (cdv : Value) (A : Around) (outer : List Env) (s : Shared) (H : Hp) (E : XK) (hr : Room 2 (A.deeper (envOfC "_law_compares" (defScope s_lcompares) s.heap.objs.size f cdv))) :
    PSs (cxOf (L2N.CX P w) P w K mg base N_lcompares "_law_compares" (defScope s_lcompares) f cdv A outer s H E) (defBody s_lcompares) (t_lcompares K E) := by
  unfold t_lcompares
  exact (pss_cons (ps_set (i := 2) sc_lcompares.nd rfl (Or.inl rfl) (pe_c (ok_lorder T) hr (by decide) T.g__law_order passN0 (pa_cons (pv 0) (pa_cons (pv 1) pa_nil))))
  (pss_cons (ps_set (i := 3) sc_lcompares.nd rfl (Or.inl rfl) (pe_op op_sub (pe_callTy call_int1 (by rfl) T.n_int (by decide +kernel) (pa_cons (pe_cmpR op_gt (pv 2) pe_int (nomark _)) pa_nil)) (pe_callTy call_int1 (by rfl) T.n_int (by decide +kernel) (pa_cons (pe_cmpR op_lt (pv 2) pe_int (nomark _)) pa_nil))))
  (pss_cons (ps_if (PW.pt (pw_or (pt_not (pt_tru (pe_c (ok_lsame T) hr (by decide) T.g__law_same passN0 (pa_cons (pe_c (ok_compare T) hr (by decide) T.g_compare passN0 (pa_cons (pv 0) (pa_cons (pv 1) pa_nil))) (pa_cons (pv 3) pa_nil))))) (pw_or1 (pt_not (pt_tru (pe_c (ok_lsame T) hr (by decide) T.g__law_same passN0 (pa_cons (pe_c (ok_compare T) hr (by decide) T.g_compare passN0 (pa_cons (pv 1) (pa_cons (pv 0) pa_nil))) (pa_cons (pe_un un_neg (pv 3)) pa_nil))))))))
  (pss_one (ps_ret pe_bl))
  pss_nil)
  (pss_one (ps_ret (pe_c (ok_lsame T) hr (by decide) T.g__law_same passN0 (pa_cons (pe_c (ok_compare T) hr (by decide) T.g_compare passN0 (pa_cons (pv 0) (pa_cons (pv 0) pa_nil))) (pa_cons pe_int pa_nil))))))))
theorem rd_lcompares {K : PySem.W.Frag} {mg : Str → Option Value} (T : Txt K mg) : ∀ vs H Q E, sp_lcompares K vs H Q E → t_lcompares K E (Ends.mk (fun _ H' => Q .non H') Q (fun _ _ => False) (fun _ _ => False)) (start N_lcompares vs) H := by
  intro vs H Q E h
  unfold t_lcompares
  obtain ⟨x, y, p, r, t, s, rfl, hx, hy, b1, b2, b3, b4, q⟩ := h
  walk_at "x"
  refine ⟨_, _, _, _, _, _, rfl, hx, hy, b1, b2, b3, b4, fun H1 s1 => ?_⟩
  walk_at "x"
  refine ⟨_, _, _, _, _, _, rfl, hx.same s1, hy.same s1, b1, b2, b3, b4, fun H2 s2 => ?_⟩
  rw [sgn_sub]
  walk_at "x"
  refine lsame_ok (.int _) (.int _) (like_int _) ?_
  walk_at "x"
  refine ⟨_, _, _, _, _, _, rfl, (hy.same s1).same s2, (hx.same s1).same s2, b3, b4, b1, b2, fun H3 s3 => ?_⟩
  rw [sgn_turn, sgn_sub]
  walk_at "x"
  refine lsame_ok (.int _) (.int _) (like_int _) ?_
  walk_at "x"
  refine ⟨_, _, _, _, _, _, rfl, ((hx.same s1).same s2).same s3, ((hx.same s1).same s2).same s3, b1, b2, b1, b2, fun H4 s4 => ?_⟩
  rw [sgn_self]
  walk_at "x"
  refine lsame_ok (.int _) (.int _) (like_int _) ?_
  exact q _ (Same.trans (Same.trans (Same.trans s1 s2) s3) s4)
theorem len_lcompares {K : PySem.W.Frag} : ∀ vs H Q E, sp_lcompares K vs H Q E → vs.length = 2 := by
  intro vs H Q E h
  unfold sp_lcompares at h
  repeat (first | (obtain ⟨rfl, _⟩ := h; rfl) | obtain ⟨_, h⟩ := h)
theorem ok_lcompares {P : Program} {w : World} {K : PySem.W.Frag} {mg : Str → Option Value} {base : Heap} (T : Txt K mg) : Ok P w K mg base 3 (He.ga K "_law_compares") ["_law_one", "_law_other"] [] (sp_lcompares K) :=
  okF T.f_lcompares sc_lcompares len_lcompares (fun _ _ _ _ _ _ us hl => match us, hl with | [_, _], _ => rfl) (d_lcompares T) (rd_lcompares T)

/-! sizes of the numbers found one after another -/
def fz : Nat → Nat × Nat
  | 0 => (130, 260)
  | n + 1 => ((fz n).2 + 1, (fz n).2 + 1 + (fz n).1)
theorem fz_le : ∀ n, n < 7 → (fz n).1 + (fz n).2 + 80 ≤ 8900 := by decide
structure Sz (t : Nat) (p a r s : Int) : Prop where
  lo : Lo p a
  hi : Lo r s
  lt : p * s < r * a
  sz : ∃ A B, A ≤ (fz t).1 ∧ B ≤ (fz t).1 ∧ A + B ≤ (fz t).2 ∧ a.natAbs ≤ 2 ^ A ∧ s.natAbs ≤ 2 ^ B
  p : p.natAbs ≤ 2 ^ 70 * a.natAbs
  r : r.natAbs ≤ 2 ^ 70 * s.natAbs
theorem Sz.step {t : Nat} {p a r s c d : Int} (h : Sz t p a r s) (l : Lo c d) (hd : d ≤ 2 * (a * s)) (h1 : p * d < c * a) (h2 : c * s < r * d) : Sz (t + 1) p a c d ∧ Sz (t + 1) c d r s ∧ c.natAbs ≤ 2 ^ 70 * d.natAbs := by
  obtain ⟨A, B, hA, hB, hS, ha, hs⟩ := h.sz
  have a0 := h.lo.pos
  have s0 := h.hi.pos
  have d0 := l.pos
  have hc : c.natAbs ≤ 2 ^ 70 * d.natAbs := by
    have k1 : c < 2 ^ 70 * d := by
      refine lt_mul (c := s) ?_ s0
      have e : r * d ≤ 2 ^ 70 * s * d := Int.mul_le_mul_of_nonneg_right (by have := h.r; omega) (by omega)
      have e2 : (2 : Int) ^ 70 * s * d = 2 ^ 70 * d * s := by rw [Int.mul_assoc, Int.mul_comm s d, ← Int.mul_assoc]
      omega
    have k2 : -(2 ^ 70 * d) < c := by
      refine lt_mul (c := a) ?_ a0
      have e : -(2 ^ 70 * a) * d ≤ p * d := Int.mul_le_mul_of_nonneg_right (by have := h.p; omega) (by omega)
      have e2 : -((2 : Int) ^ 70 * a) * d = -(2 ^ 70 * d) * a := by rw [Int.neg_mul, Int.neg_mul, Int.mul_assoc, Int.mul_comm a d, ← Int.mul_assoc]
      omega
    omega
  have dB : d.natAbs ≤ 2 ^ (A + B + 1) := by
    have e : (a * s).natAbs ≤ 2 ^ (A + B) := by
      rw [Int.natAbs_mul, Nat.pow_add]
      exact Nat.mul_le_mul ha hs
    have e2 : 2 ^ (A + B + 1) = 2 ^ (A + B) * 2 := Nat.pow_succ ..
    omega
  refine ⟨⟨h.lo, l, h1, ⟨A, A + B + 1, ?_, ?_, ?_, ha, dB⟩, h.p, hc⟩, ⟨l, h.hi, h2, ⟨A + B + 1, B, ?_, ?_, ?_, dB, hs⟩, hc, h.r⟩, hc⟩
  all_goals
    simp only [fz]
    omega
theorem big_pow {n : Nat} (h : n ≤ 8899) : 2 ^ n < Big := by
  have h2 : (2 : Nat) ^ n ≤ 2 ^ 8899 := Nat.pow_le_pow_right (by decide) h
  have h3 : (2 : Nat) ^ 8899 < Big := by
    unfold Big
    exact Nat.pow_lt_pow_right (by decide) (by decide)
  omega
theorem Sz.use {t : Nat} {p a r s : Int} (h : Sz t p a r s) (ht : t < 7) : p.natAbs * (2 * (a * s)).natAbs + (2 * (a * s)).natAbs + 1 < Big ∧ r.natAbs + 1 < Big ∧ 2 ^ 70 * (2 * (a * s)).natAbs + 2 < Big := by
  obtain ⟨A, B, hA, hB, hS, ha, hs⟩ := h.sz
  have f := fz_le t ht
  have e : (a * s).natAbs ≤ 2 ^ (A + B) := by
    rw [Int.natAbs_mul, Nat.pow_add]
    exact Nat.mul_le_mul ha hs
  have e2 : 2 ^ (A + B + 1) = 2 ^ (A + B) * 2 := Nat.pow_succ ..
  have e1 : (2 * (a * s)).natAbs ≤ 2 ^ (A + B + 1) := by omega
  have p1 : p.natAbs ≤ 2 ^ (70 + A) := Nat.le_trans h.p (by rw [Nat.pow_add]; exact Nat.mul_le_mul_left _ ha)
  have r1 : r.natAbs ≤ 2 ^ (70 + B) := Nat.le_trans h.r (by rw [Nat.pow_add]; exact Nat.mul_le_mul_left _ hs)
  have x1 : p.natAbs * (2 * (a * s)).natAbs ≤ 2 ^ (70 + A + (A + B + 1)) := by
    rw [Nat.pow_add 2 (70 + A)]
    exact Nat.mul_le_mul p1 e1
  have x2 : (2 : Nat) ^ (A + B + 1) ≤ 2 ^ (70 + A + (A + B + 1)) := Nat.pow_le_pow_right (by decide) (by omega)
  have x3 : (2 : Nat) ^ (70 + A + (A + B + 1) + 2) = 2 ^ (70 + A + (A + B + 1)) * 4 := Nat.pow_add 2 _ 2
  have x4 : (2 : Nat) ^ (70 + A + (A + B + 1) + 2) < Big := big_pow (by omega)
  have x5 : 0 < (2 : Nat) ^ (70 + A + (A + B + 1)) := Nat.pow_pos (by decide)
  have y1 : (2 : Nat) ^ (70 + B) * 4 < Big := by
    have : (2 : Nat) ^ (70 + B + 2) = 2 ^ (70 + B) * 4 := Nat.pow_add 2 _ 2
    rw [← this]
    exact big_pow (by omega)
  have y2 : 0 < (2 : Nat) ^ (70 + B) := Nat.pow_pos (by decide)
  have z1 : 2 ^ 70 * (2 * (a * s)).natAbs ≤ 2 ^ (70 + (A + B + 1)) := by
    rw [Nat.pow_add 2 70]
    exact Nat.mul_le_mul_left _ e1
  have z2 : (2 : Nat) ^ (70 + (A + B + 1)) * 4 < Big := by
    have : (2 : Nat) ^ (70 + (A + B + 1) + 2) = 2 ^ (70 + (A + B + 1)) * 4 := Nat.pow_add 2 _ 2
    rw [← this]
    exact big_pow (by omega)
  have z3 : 0 < (2 : Nat) ^ (70 + (A + B + 1)) := Nat.pow_pos (by decide)
  have hB := big_le
  refine ⟨?_, ?_, ?_⟩
  · have x6 : (2 : Nat) ^ (70 + A + (A + B + 1)) * 4 < Big := by rw [← x3]; exact x4
    clear x4 x3 e2 y1 z1 z2
    omega
  · omega
  · omega
theorem fz_le2 : ∀ n, n < 7 → 2 * (fz n).1 + 80 ≤ 8900 := by decide
theorem Sz.use2 {t : Nat} {p a r s : Int} (h : Sz t p a r s) (ht : t < 7) : p.natAbs + 1 < Big ∧ (2 * a).natAbs + 1 < Big ∧ (2 * s).natAbs + 1 < Big ∧ r.natAbs * (2 * s).natAbs + (2 * s).natAbs + 1 < Big := by
  obtain ⟨A, B, hA, hB, hS, ha, hs⟩ := h.sz
  have f := fz_le2 t ht
  have hG := big_le
  have pw : ∀ {z w : Int} {C : Nat}, z.natAbs ≤ 2 ^ 70 * w.natAbs → w.natAbs ≤ 2 ^ C → C ≤ (fz t).1 → z.natAbs * (2 * w).natAbs + (2 * w).natAbs + 1 < Big ∧ z.natAbs + 1 < Big ∧ (2 * w).natAbs + 1 < Big := by
    intro z w C h1 h2 h3
    have z1 : z.natAbs ≤ 2 ^ (70 + C) := Nat.le_trans h1 (by rw [Nat.pow_add]; exact Nat.mul_le_mul_left _ h2)
    have e2 : 2 ^ (C + 1) = 2 ^ C * 2 := Nat.pow_succ ..
    have w1 : (2 * w).natAbs ≤ 2 ^ (C + 1) := by omega
    have x1 : z.natAbs * (2 * w).natAbs ≤ 2 ^ (70 + C + (C + 1)) := by
      rw [Nat.pow_add 2 (70 + C)]
      exact Nat.mul_le_mul z1 w1
    have x2 : (2 : Nat) ^ (C + 1) ≤ 2 ^ (70 + C + (C + 1)) := Nat.pow_le_pow_right (by decide) (by omega)
    have x7 : (2 : Nat) ^ (70 + C) ≤ 2 ^ (70 + C + (C + 1)) := Nat.pow_le_pow_right (by decide) (by omega)
    have x3 : (2 : Nat) ^ (70 + C + (C + 1) + 2) = 2 ^ (70 + C + (C + 1)) * 4 := Nat.pow_add 2 _ 2
    have x4 : (2 : Nat) ^ (70 + C + (C + 1) + 2) < Big := big_pow (by omega)
    have x5 : 0 < (2 : Nat) ^ (70 + C + (C + 1)) := Nat.pow_pos (by decide)
    rw [x3] at x4
    clear x3 e2
    refine ⟨?_, ?_, ?_⟩ <;> omega
  exact ⟨(pw h.p ha hA).2.1, (pw h.p ha hA).2.2, (pw h.r hs hB).2.2, (pw h.r hs hB).1⟩
theorem btw_mid {K : PySem.W.Frag} {H : Hp} {x y : V} {t : Nat} {p a r s : Int} {Q : VK} {E : XK} (hx : Jp K H x (pj p a)) (hy : Jp K H y (pj r s)) (z : Sz t p a r s) (ht : t < 7)
    (q : ∀ c d v H', Same H H' → Jp K H' v (pj c d) → Lo c d → d ≤ 2 * (a * s) → c.natAbs < Big → p * d < c * a → c * s < r * d → Q v H') : sp_between K [x, y] H Q E :=
  ⟨x, y, some (p, a), some (r, s), rfl, hx, hy, z.lo, z.hi, fun p' q' r' s' e1 e2 => by cases e1; cases e2; exact z.lt, (z.use ht).1, (z.use ht).2.1, fun c d v H' s j l h b h1 h2 => q c d v H' s j l h b h1 h2⟩
theorem btw_below {K : PySem.W.Frag} {H : Hp} {y : V} {r s : Int} {Q : VK} {E : XK} (hy : Jp K H y (pj r s)) (l : Lo r s) (h1 : (2 * s).natAbs + 1 < Big) (h2 : r.natAbs + 1 < Big)
    (q : ∀ c d v H', Same H H' → Jp K H' v (pj c d) → Lo c d → d ≤ 2 * s → c.natAbs < Big → c * s < r * d → Q v H') : sp_between K [.non, y] H Q E :=
  ⟨.non, y, none, some (r, s), rfl, .non, hy, trivial, l, (fun _ _ _ _ e1 _ => nomatch e1), by
    show (0 : Int).natAbs * (2 * (1 * s)).natAbs + (2 * (1 * s)).natAbs + 1 < Big
    rw [Int.natAbs_zero, Nat.zero_mul, Int.one_mul]
    omega, h2, fun c d v H' s' j l h b h1 h2 => q c d v H' s' j l (by
      have h3 : d ≤ 2 * (1 * s) := h
      omega) b h2⟩
theorem btw_above {K : PySem.W.Frag} {H : Hp} {x : V} {p a : Int} {Q : VK} {E : XK} (hx : Jp K H x (pj p a)) (l : Lo p a) (h1 : p.natAbs * (2 * a).natAbs + (2 * a).natAbs + 1 < Big)
    (q : ∀ c d v H', Same H H' → Jp K H' v (pj c d) → Lo c d → d ≤ 2 * a → c.natAbs < Big → p * d < c * a → Q v H') : sp_between K [x, .non] H Q E :=
  ⟨x, .non, some (p, a), none, rfl, hx, .non, l, trivial, (fun _ _ _ _ _ e2 => nomatch e2), by
    show p.natAbs * (2 * (a * 1)).natAbs + (2 * (a * 1)).natAbs + 1 < Big
    rw [Int.mul_one]
    exact h1, by
    have hG := big_le
    show (0 : Int).natAbs + 1 < Big
    omega, fun c d v H' s' j l h b h1 h2 => q c d v H' s' j l (by
      have h3 : d ≤ 2 * (a * 1) := h
      omega) b h1⟩
theorem lowest_ok {K : PySem.W.Frag} {H : Hp} {x : V} {p r : Int} {Q : VK} {E : XK} (hx : Jp K H x (pj p r)) (l : Lo p r) (h : r.natAbs < Big) (q : ∀ H', Same H H' → Q (.bl true) H') : sp_lis_lowest K [x] H Q E := ⟨x, p, r, rfl, hx, l, h, q⟩
theorem order_ok {K : PySem.W.Frag} {H : Hp} {x y : V} {p a r s : Int} {Q : VK} {E : XK} (hx : Jp K H x (pj p a)) (hy : Jp K H y (pj r s)) (h1 : p.natAbs < Big) (h2 : a.natAbs < Big) (h3 : r.natAbs < Big) (h4 : s.natAbs < Big) (q : ∀ H', Same H H' → Q (.int (p * s - r * a)) H') : sp_lorder K [x, y] H Q E :=
  ⟨x, y, p, a, r, s, rfl, hx, hy, h1, h2, h3, h4, q⟩
def sp_lstands (K : PySem.W.Frag) : Sp := fun vs H Q _ => ∃ (t : Nat) (x y : V) (p a r s : Int), vs = [x, y] ∧ Jp K H x (pj p a) ∧ Jp K H y (pj r s) ∧ Sz t p a r s ∧ t < 7 ∧ ∀ H', Same H H' → Q (.bl true) H'
def t_lstands (K : PySem.W.Frag) (E : XK) : TS :=
  (tSeq (tPar3 2 3 4 (tCons (tCall (sp_between K) [] E0 (tCons (tVar 0) (tCons (tVar 1) tNil))) (tCons (tCall (sp_between K) [] E0 (tCons (tC .non) (tCons (tVar 0) tNil))) (tCons (tCall (sp_between K) [] E0 (tCons (tVar 1) (tCons (tC .non) tNil))) tNil))))
  (tSeq (tIfS (tOr (tNot (tTruth K (tCall (sp_lis_lowest K) [] E0 (tCons (tVar 2) tNil)))) (tOr (tNot (tTruth K (tCall (sp_lis_lowest K) [] E0 (tCons (tVar 3) tNil)))) (tNot (tTruth K (tCall (sp_lis_lowest K) [] E0 (tCons (tVar 4) tNil))))))
  (tRet (tC (.bl false)))
  tNext)
  (tSeq (tIfS (tOr (tTest (tOp mGe (tCall (sp_lorder K) [] E0 (tCons (tVar 0) (tCons (tVar 2) tNil))) (tC (.int 0)))) (tTest (tOp mGe (tCall (sp_lorder K) [] E0 (tCons (tVar 2) (tCons (tVar 1) tNil))) (tC (.int 0)))))
  (tRet (tC (.bl false)))
  tNext)
  (tRet (tAndV (tOp mLt (tCall (sp_lorder K) [] E0 (tCons (tVar 3) (tCons (tVar 0) tNil))) (tC (.int 0))) (tOp mGt (tCall (sp_lorder K) [] E0 (tCons (tVar 4) (tCons (tVar 1) tNil))) (tC (.int 0))))))))
theorem d_lstands {P : Program} {w : World} {K : PySem.W.Frag} {mg : Str → Option Value} {base : Heap} (T : Txt K mg) (f : Addr) (cdv : Value) (A : Around) (outer : List Env) (s : Shared) (H : Hp) (E : XK) (hr : Room 4 (A.deeper (envOfC "_law_stands" (defScope s_lstands) s.heap.objs.size f cdv))) :
    PSs (cxOf (L2N.CX P w) P w K mg base N_lstands "_law_stands" (defScope s_lstands) f cdv A outer s H E) (defBody s_lstands) (t_lstands K E) := by
  unfold t_lstands
  exact (pss_cons (ps_par3 (i := 2) (j := 3) (l := 4) rfl sc_lstands.nd rfl rfl rfl (by decide) (by decide) (by decide) rfl rfl rfl (pa_cons (pe_c (ok_between T) hr (by decide) T.g_between passN0 (pa_cons (pv 0) (pa_cons (pv 1) pa_nil))) (pa_cons (pe_c (ok_between T) hr (by decide) T.g_between passN0 (pa_cons pe_non (pa_cons (pv 0) pa_nil))) (pa_cons (pe_c (ok_between T) hr (by decide) T.g_between passN0 (pa_cons (pv 1) (pa_cons pe_non pa_nil))) pa_nil))) (by rfl))
  (pss_cons (ps_if (PW.pt (pw_or (pt_not (pt_tru (pe_c (ok_lis_lowest T) hr (by decide) T.g__law_is_lowest passN0 (pa_cons (pv 2) pa_nil)))) (pw_or (pt_not (pt_tru (pe_c (ok_lis_lowest T) hr (by decide) T.g__law_is_lowest passN0 (pa_cons (pv 3) pa_nil)))) (pw_or1 (pt_not (pt_tru (pe_c (ok_lis_lowest T) hr (by decide) T.g__law_is_lowest passN0 (pa_cons (pv 4) pa_nil))))))))
  (pss_one (ps_ret pe_bl))
  pss_nil)
  (pss_cons (ps_if (PW.pt (pw_or (pt_cmpR op_ge (pe_c (ok_lorder T) hr (by decide) T.g__law_order passN0 (pa_cons (pv 0) (pa_cons (pv 2) pa_nil))) pe_int (nomark _)) (pw_or1 (pt_cmpR op_ge (pe_c (ok_lorder T) hr (by decide) T.g__law_order passN0 (pa_cons (pv 2) (pa_cons (pv 1) pa_nil))) pe_int (nomark _)))))
  (pss_one (ps_ret pe_bl))
  pss_nil)
  (pss_one (ps_ret (pe_and (pe_cmpR op_lt (pe_c (ok_lorder T) hr (by decide) T.g__law_order passN0 (pa_cons (pv 3) (pa_cons (pv 0) pa_nil))) pe_int (nomark _)) (pe_one (pe_cmpR op_gt (pe_c (ok_lorder T) hr (by decide) T.g__law_order passN0 (pa_cons (pv 4) (pa_cons (pv 1) pa_nil))) pe_int (nomark _)))))))))
theorem rd_lstands {K : PySem.W.Frag} {mg : Str → Option Value} (T : Txt K mg) : ∀ vs H Q E, sp_lstands K vs H Q E → t_lstands K E (Ends.mk (fun _ H' => Q .non H') Q (fun _ _ => False) (fun _ _ => False)) (start N_lstands vs) H := by
  intro vs H Q E h
  unfold t_lstands
  obtain ⟨t, x, y, p, a, r, s, rfl, hx, hy, z, ht, q⟩ := h
  obtain ⟨u1, u2, u3⟩ := z.use ht
  obtain ⟨w1, w2, w3, w4⟩ := z.use2 ht
  have a0 := z.lo.pos
  have s0 := z.hi.pos
  walk_at "x"
  refine btw_mid hx hy z ht fun c1 d1 v1 H1 s1 j1 l1 e1 b1 m1 n1 => ?_
  walk_at "x"
  refine btw_below (hx.same s1) z.lo w2 w1 fun c2 d2 v2 H2 s2 j2 l2 e2 b2 n2 => ?_
  walk_at "x"
  refine btw_above ((hy.same s1).same s2) z.hi w4 fun c3 d3 v3 H3 s3 j3 l3 e3 b3 m3 => ?_
  walk_at "x"
  have d10 := l1.pos
  have d20 := l2.pos
  have d30 := l3.pos
  have x3 := (hx.same s1).same s2 |>.same s3
  have y3 := (hy.same s1).same s2 |>.same s3
  have k1 := (j1.same s2).same s3
  have k2 := j2.same s3
  have S3 := Same.trans (Same.trans s1 s2) s3
  clear hx hy j1 j2
  have D1 : d1.natAbs < Big := by omega
  refine lowest_ok k1 l1 (by omega) fun H4 s4 => ?_
  walk_at "x"
  refine lowest_ok (k2.same s4) l2 (by omega) fun H5 s5 => ?_
  walk_at "x"
  refine lowest_ok ((j3.same s4).same s5) l3 (by omega) fun H6 s6 => ?_
  have S6 : Same H3 H6 := Same.trans (Same.trans s4 s5) s6
  walk_at "x"
  refine order_ok (x3.same S6) (k1.same S6) (by omega) (by omega) b1 (by omega) fun H7 s7 => ?_
  walk_at "x"
  refine ite_d (fun h => absurd h (by omega)) (fun _ => ?_)
  walk_at "x"
  have S7 := Same.trans S6 s7
  refine order_ok (k1.same S7) (y3.same S7) b1 (by omega) (by omega) (by omega) fun H8 s8 => ?_
  walk_at "x"
  refine ite_d (fun h => absurd h (by omega)) (fun _ => ?_)
  walk_at "x"
  have S8 := Same.trans S7 s8
  refine order_ok (k2.same S8) (x3.same S8) b2 (by omega) (by omega) (by omega) fun H9 s9 => ?_
  walk_at "x"
  refine ite_d (fun _ => ?_) (fun h => absurd (by omega) h)
  walk_at "x"
  have S9 := Same.trans S8 s9
  refine order_ok (j3.same S9) (y3.same S9) b3 (by omega) (by omega) (by omega) fun H10 s10 => ?_
  walk_at "x"
  rw [decide_eq_true (by omega)]
  exact q _ (Same.trans S3 (Same.trans S9 s10))
theorem len_lstands {K : PySem.W.Frag} : ∀ vs H Q E, sp_lstands K vs H Q E → vs.length = 2 := by
  intro vs H Q E h
  unfold sp_lstands at h
  repeat (first | (obtain ⟨rfl, _⟩ := h; rfl) | obtain ⟨_, h⟩ := h)
theorem ok_lstands {P : Program} {w : World} {K : PySem.W.Frag} {mg : Str → Option Value} {base : Heap} (T : Txt K mg) : Ok P w K mg base 5 (He.ga K "_law_stands") ["_law_low", "_law_high"] [] (sp_lstands K) :=
  okF T.f_lstands sc_lstands len_lstands (fun _ _ _ _ _ _ us hl => match us, hl with | [_, _], _ => rfl) (d_lstands T) (rd_lstands T)
structure Nu (p q : Int) : Prop where
  lo : Lo p q
  hp : p.natAbs ≤ 2 ^ 70 * q.natAbs
  hq : q.natAbs ≤ 2 ^ 130
theorem Nu.sz {p a r s : Int} (h : Nu p a) (g : Nu r s) (lt : p * s < r * a) : Sz 0 p a r s := ⟨h.lo, g.lo, lt, ⟨130, 130, by decide, by decide, by decide, h.hq, g.hq⟩, h.hp, g.hp⟩
theorem Nu.big {p q : Int} (h : Nu p q) : p.natAbs < Big ∧ q.natAbs < Big := by
  have h1 := h.hp
  have h2 := h.hq
  have hB := big_le
  omega
/-- two numbers in a tuple -/
def Pr (K : PySem.W.Frag) (H : Hp) (x : V) : Prop := ∃ (c : Addr) (v w : V) (p a r s : Int), x = .ref c ∧ SqT K H c [v, w] ∧ Jp K H v (pj p a) ∧ Jp K H w (pj r s) ∧ Nu p a ∧ Nu r s
theorem Pr.but {K : PySem.W.Frag} {H H' : Hp} {b : Addr} {n : Nat} {x : V} (h : Pr K H x) (e : But b H H') (g : Bag H b n) : Pr K H' x := by
  obtain ⟨c, v, w, p, a, r, s, rfl, t, j1, j2, n1, n2⟩ := h
  obtain ⟨ys, hb⟩ := g.lst
  exact ⟨c, v, w, p, a, r, s, rfl, sqt_but e hb t, j1.bag e g (pj_nl _ _), j2.bag e g (pj_nl _ _), n1, n2⟩
theorem near_nu {p q t b : Int} (h : Lo p q) (h1 : q ≤ b) (h0 : 10 ^ 30 ≤ b) (hb : b ≤ 10 ^ 39) (e : p * b = t * q) (ht : t.natAbs ≤ 10 ^ 50 + 1) : Nu p q := by
  have q0 := h.pos
  refine ⟨h, ?_, by omega⟩
  have e1 : p.natAbs * b.natAbs = t.natAbs * q.natAbs := by rw [← Int.natAbs_mul, ← Int.natAbs_mul, e]
  have e2 : p.natAbs * 10 ^ 30 ≤ p.natAbs * b.natAbs := Nat.mul_le_mul_left _ (by omega)
  have e3 : t.natAbs * q.natAbs ≤ (10 ^ 50 + 1) * q.natAbs := Nat.mul_le_mul_right _ ht
  omega
def sp_law (K : PySem.W.Frag) : Sp := fun vs H Q _ => ∃ (a : Addr) (ns : List Int), vs = [.ref a] ∧ SqL K H a (ns.map V.int) ∧ ns.length ≤ 63 ∧ ∀ H', Q (.bl true) H'
def t_law (K : PySem.W.Frag) (E : XK) : TS :=
  (tSeq (tIfS (tNot (tTruth K (tCall (sp_lis_lowest K) [] E0 (tCons (tCall (sp_between K) [] E0 (tCons (tC .non) (tCons (tC .non) tNil))) tNil))))
  (tRet (tC (.bl false)))
  tNext)
  (tSeq (tFor (iRng1 (tCons (tCB mMax2 (tCons (tC (.int 1)) (tCons (tCB mMin2 (tCons (tC (.int 6)) (tCons (tCB (uLen K) (tCons (tVar 0) tNil)) tNil))) tNil))) tNil)) (gName 1)
  (tSeq (tAsg (tCall (sp_lbag K) [] E0 (tCons (tVar 0) (tCons (tVar 1) tNil))) (gName 2))
  (tSeq (tPar 3 4 (tCons (tCall (sp_lnumber K) [] E0 (tCons (tVar 2) tNil)) (tCons (tCall (sp_lnumber K) [] E0 (tCons (tVar 2) tNil)) tNil)))
  (tSeq (tAsg (tCall (sp_lpair K) [] E0 (tCons (tVar 3) tNil)) (gName 5))
  (tSeq (tAsg (tCall (sp_lvalue K) [] E0 (tCons (tOp mSub (tOp (uAdd K) (tOp (uMul K) (tOp (uIx K) (tVar 5) (tC (.int 0))) (tOp mPow (tC (.int 10)) (tC (.int 30)))) (tCall (sp_ltake K) [] E0 (tCons (tVar 2) (tCons (tC (.int 3)) tNil)))) (tC (.int 1))) (tCons (tOp (uMul K) (tOp (uIx K) (tVar 5) (tC (.int 1))) (tOp mPow (tC (.int 10)) (tC (.int 30)))) tNil))) (gName 6))
  (tFor (iList K (tLst (tCons (tTup (tCons (tVar 3) (tCons (tVar 4) tNil))) (tCons (tTup (tCons (tVar 3) (tCons (tVar 6) tNil))) (tCons (tTup (tCons (tVar 6) (tCons (tVar 4) tNil))) tNil))))) (gTup K 2 (gCons (gName 7) (gCons (gName 8) gNil)))
  (tSeq (tIfS (tNot (tTruth K (tCall (sp_lcompares K) [] E0 (tCons (tVar 7) (tCons (tVar 8) tNil)))))
  (tRet (tC (.bl false)))
  tNext)
  (tSeq (tPar 9 10 (tCons (tVar 7) (tCons (tVar 8) tNil)))
  (tSeq (tIfS (tTest (tOp mGt (tCall (sp_lorder K) [] E0 (tCons (tVar 7) (tCons (tVar 8) tNil))) (tC (.int 0))))
  (tPar 9 10 (tCons (tVar 8) (tCons (tVar 7) tNil)))
  tNext)
  (tFor (iRng1 (tCons (tIf (tTest (tOp mLt (tCall (sp_lorder K) [] E0 (tCons (tVar 9) (tCons (tVar 10) tNil))) (tC (.int 0)))) (tCall (sp_ltake K) [] E0 (tCons (tVar 2) (tCons (tC (.int 8)) tNil))) (tC (.int 0))) tNil)) (gName 11)
  (tSeq (tIfS (tNot (tTruth K (tCall (sp_lstands K) [] E0 (tCons (tVar 9) (tCons (tVar 10) tNil)))))
  (tRet (tC (.bl false)))
  tNext)
  (tSeq (tAsg (tCall (sp_between K) [] E0 (tCons (tVar 9) (tCons (tVar 10) tNil))) (gName 12))
  (tIfS (tTest (tOp (uEq K) (tCall (sp_ltake K) [] E0 (tCons (tVar 2) (tCons (tC (.int 2)) tNil))) (tC (.int 0))))
  (tAsg (tVar 12) (gName 9))
  (tAsg (tVar 12) (gName 10)))))))))))))))
  (tRet (tC (.bl true)))))
theorem d_law {P : Program} {w : World} {K : PySem.W.Frag} {mg : Str → Option Value} {base : Heap} (T : Txt K mg) (f : Addr) (cdv : Value) (A : Around) (outer : List Env) (s : Shared) (H : Hp) (E : XK) (hr : Room 5 (A.deeper (envOfC "law" (defScope s_law) s.heap.objs.size f cdv))) :
    PSs (cxOf (L2N.CX P w) P w K mg base N_law "law" (defScope s_law) f cdv A outer s H E) (defBody s_law) (t_law K E) := by
  unfold t_law
  exact (pss_cons (ps_if (pt_not (pt_tru (pe_c (ok_lis_lowest T) hr (by decide) T.g__law_is_lowest passN0 (pa_cons (pe_c (ok_between T) hr (by decide) T.g_between passN0 (pa_cons pe_non (pa_cons pe_non pa_nil))) pa_nil))))
  (pss_one (ps_ret pe_bl))
  pss_nil)
  (pss_cons (ps_for (passes_of rfl) rfl (pi_range1 (by rfl) T.n_range (pa_cons (pe_callB (call_max2 rfl) (by rfl) T.n_max (by decide +kernel) (pa_cons pe_int (pa_cons (pe_callB (call_min2 rfl) (by rfl) T.n_min (by decide +kernel) (pa_cons pe_int (pa_cons (pe_callB call_lenU (by rfl) T.n_len (by decide +kernel) (pa_cons (pv 0) pa_nil)) pa_nil))) pa_nil))) pa_nil)) (pg_name (i := 1) sc_law.nd rfl (Or.inl rfl))
  (pss_cons (ps_set (i := 2) sc_law.nd rfl (Or.inl rfl) (pe_c (ok_lbag T) hr (by decide) T.g__law_bag passN0 (pa_cons (pv 0) (pa_cons (pv 1) pa_nil))))
  (pss_cons (ps_par (i := 3) (j := 4) rfl sc_law.nd rfl rfl (by decide) rfl rfl (pa_cons (pe_c (ok_lnumber T) hr (by decide) T.g__law_number passN0 (pa_cons (pv 2) pa_nil)) (pa_cons (pe_c (ok_lnumber T) hr (by decide) T.g__law_number passN0 (pa_cons (pv 2) pa_nil)) pa_nil)) (by rfl))
  (pss_cons (ps_set (i := 5) sc_law.nd rfl (Or.inl rfl) (pe_c (ok_lpair T) hr (by decide) T.g__law_pair passN0 (pa_cons (pv 3) pa_nil)))
  (pss_cons (ps_set (i := 6) sc_law.nd rfl (Or.inl rfl) (pe_c (ok_lvalue T) hr (by decide) T.g__law_value passN0 (pa_cons (pe_op op_sub (pe_op op_addU (pe_op op_mulU (pe_ix ix_U (pv 5) pe_int (fun _ _ => rfl)) (pe_op op_pow pe_int pe_int)) (pe_c (ok_ltake T) hr (by decide) T.g__law_take passN0 (pa_cons (pv 2) (pa_cons pe_int pa_nil)))) pe_int) (pa_cons (pe_op op_mulU (pe_ix ix_U (pv 5) pe_int (fun _ _ => rfl)) (pe_op op_pow pe_int pe_int)) pa_nil))))
  (pss_one (ps_for (passes_of rfl) rfl (pi_list (pe_lst (pa_cons (pe_tup (pa_cons (pv 3) (pa_cons (pv 4) pa_nil))) (pa_cons (pe_tup (pa_cons (pv 3) (pa_cons (pv 6) pa_nil))) (pa_cons (pe_tup (pa_cons (pv 6) (pa_cons (pv 4) pa_nil))) pa_nil))))) (pg_tup rfl (pgs_cons (pg_name (i := 7) sc_law.nd rfl (Or.inl rfl)) (pgs_cons (pg_name (i := 8) sc_law.nd rfl (Or.inl rfl)) pgs_nil)))
  (pss_cons (ps_if (pt_not (pt_tru (pe_c (ok_lcompares T) hr (by decide) T.g__law_compares passN0 (pa_cons (pv 7) (pa_cons (pv 8) pa_nil)))))
  (pss_one (ps_ret pe_bl))
  pss_nil)
  (pss_cons (ps_par (i := 9) (j := 10) rfl sc_law.nd rfl rfl (by decide) rfl rfl (pa_cons (pv 7) (pa_cons (pv 8) pa_nil)) (by rfl))
  (pss_cons (ps_if (pt_cmpR op_gt (pe_c (ok_lorder T) hr (by decide) T.g__law_order passN0 (pa_cons (pv 7) (pa_cons (pv 8) pa_nil))) pe_int (nomark _))
  (pss_one (ps_par (i := 9) (j := 10) rfl sc_law.nd rfl rfl (by decide) rfl rfl (pa_cons (pv 8) (pa_cons (pv 7) pa_nil)) (by rfl)))
  pss_nil)
  (pss_one (ps_for (passes_of rfl) rfl (pi_range1 (by rfl) T.n_range (pa_cons (pe_ifExp (pt_cmpR op_lt (pe_c (ok_lorder T) hr (by decide) T.g__law_order passN0 (pa_cons (pv 9) (pa_cons (pv 10) pa_nil))) pe_int (nomark _)) (pe_c (ok_ltake T) hr (by decide) T.g__law_take passN0 (pa_cons (pv 2) (pa_cons pe_int pa_nil))) pe_int) pa_nil)) (pg_name (i := 11) sc_law.nd rfl (Or.inl rfl))
  (pss_cons (ps_if (pt_not (pt_tru (pe_c (ok_lstands T) hr (by decide) T.g__law_stands passN0 (pa_cons (pv 9) (pa_cons (pv 10) pa_nil)))))
  (pss_one (ps_ret pe_bl))
  pss_nil)
  (pss_cons (ps_set (i := 12) sc_law.nd rfl (Or.inl rfl) (pe_c (ok_between T) hr (by decide) T.g_between passN0 (pa_cons (pv 9) (pa_cons (pv 10) pa_nil))))
  (pss_one (ps_if (pt_cmpR (op_eqU (hu64 hr)) (pe_c (ok_ltake T) hr (by decide) T.g__law_take passN0 (pa_cons (pv 2) (pa_cons pe_int pa_nil))) pe_int (nomark _))
  (pss_one (ps_set (i := 9) sc_law.nd rfl (Or.inl rfl) (pv 12)))
  (pss_one (ps_set (i := 10) sc_law.nd rfl (Or.inl rfl) (pv 12)))))))))))))))))))
  (pss_one (ps_ret pe_bl))))
theorem rd_law {K : PySem.W.Frag} {mg : Str → Option Value} (T : Txt K mg) : ∀ vs H Q E, sp_law K vs H Q E → t_law K E (Ends.mk (fun _ H' => Q .non H') Q (fun _ _ => False) (fun _ _ => False)) (start N_law vs) H := by
  intro vs H Q E h
  unfold t_law
  obtain ⟨a, ns, rfl, hs, hl, q⟩ := h
  have hB := big_le
  walk_at "x"
  refine ⟨_, _, none, none, rfl, .non, .non, trivial, trivial, (fun _ _ _ _ e => nomatch e), by show (0 : Int).natAbs * (2 * (1 * 1) : Int).natAbs + (2 * (1 * 1) : Int).natAbs + 1 < Big; rw [Int.natAbs_zero, Nat.zero_mul]; omega, by show (0 : Int).natAbs + 1 < Big; omega, fun c d v H1 s1 j1 l1 e1 b1 _ _ => ?_⟩
  have e2 : d ≤ 2 * (1 * 1) := e1
  have d0 := l1.pos
  walk_at "x"
  refine lowest_ok j1 l1 (by omega) fun H2 s2 => ?_
  have S0 := Same.trans s1 s2
  clear j1 l1 e1 b1 e2 d0
  walk_at "x"
  rw [List.length_map]
  refine x_rngJ (by omega) (by omega) ?_
  refine forR (fun i σ H' => Same H H' ∧ ∃ s1 s2 s3 s4 s5 s6 s7 s8 s9 s10 s11 s12 : Option V, σ = [some (.ref a), s1, s2, s3, s4, s5, s6, s7, s8, s9, s10, s11, s12])
    ⟨S0, _, _, _, _, _, _, _, _, _, _, _, _, rfl⟩ ?_ ?_
  · rintro i σ H0 hi ⟨s0, s1, s2, s3, s4, s5, s6, s7, s8, s9, s10, s11, s12, rfl⟩
    have hi6 : i < 63 := by omega
    walk_at "x"
    refine ⟨a, ns, i, rfl, by walk_at "sql", by omega, by omega, fun b H3 hb0 e1 B0 => ?_⟩
    walk_at "x"
    refine ⟨b, 0, rfl, B0, by decide, fun v1 p1 q1 H4 f1 B1 j1 l1 k1 m1 => ?_⟩
    walk_at "x"
    refine ⟨b, 3, rfl, B1, by decide, fun v2 p2 q2 H5 f2 B2 j2 l2 k2 m2 => ?_⟩
    have j1 := j1.bag f2 B1 (pj_nl _ _)
    have q10 := l1.pos
    have q20 := l2.pos
    walk_at "x"
    refine ⟨_, _, _, rfl, j1, fun w H6 s6 jw => ?_⟩
    obtain ⟨cw, rfl, tw⟩ := two_of jw
    have j1 := j1.same s6
    have j2 := j2.same s6
    have B2 := B2.same s6
    clear jw
    walk_at "x"
    refine ltake_ok B2 (by decide) (by decide) (by decide) fun d H7 d0 d1 f7 B3 => ?_
    have j1 := j1.bag f7 B2 (pj_nl _ _)
    have j2 := j2.bag f7 B2 (pj_nl _ _)
    obtain ⟨ys, hys⟩ := B2.lst
    have tw := sqt_but f7 hys tw
    walk_at "x"
    refine lvalue_ok (by omega) (by omega) fun v3 H8 p3 q3 s8 j3 l3 k3 e3 a3 => ?_
    have j1 := j1.same s8
    have j2 := j2.same s8
    have B4 := B3.same s8
    have h0 : H b = none := s0.free hb0
    have E8 : Same H H8 := Same.trans (f7.same (Same.trans (f2.same (f1.same (Same.trans s0 e1) h0) h0) s6) h0) s8
    have n1 : Nu p1 q1 := ⟨l1, by omega, by omega⟩
    have n2 : Nu p2 q2 := ⟨l2, by omega, by omega⟩
    have n3 : Nu p3 q3 := near_nu l3 k3 (by omega) (by omega) e3 (by omega)
    clear e3 a3 tw hys
    walk_at "xx"
    rename_i pa Ha na sa ga pb Hb nb sb gb pc Hc nc sc gc pl Hl nl sl gl
    have SL : Same H8 Hl := Same.trans (Same.trans (Same.trans sa sb) sc) sl
    have BL := B4.same SL
    have nep : pl ≠ b := ne_bag nl (B4.same (Same.trans (Same.trans sa sb) sc))
    have prs : ∀ x ∈ [V.ref pa, V.ref pb, V.ref pc], Pr K Hl x := all_cons ⟨pa, v1, v2, p1, q1, p2, q2, rfl, sqt_of (sl _ _ (sc _ _ (sb _ _ ga))), j1.same SL, j2.same SL, n1, n2⟩
      (all_cons ⟨pb, v1, v3, p1, q1, p3, q3, rfl, sqt_of (sl _ _ (sc _ _ gb)), j1.same SL, j3.same SL, n1, n3⟩
      (all_cons ⟨pc, v3, v2, p3, q3, p2, q2, rfl, sqt_of (sl _ _ gc), j3.same SL, j2.same SL, n3, n2⟩ all_nil))
    refine x_iL1 (sql_of gl) ?_
    refine forL [V.ref pa, V.ref pb, V.ref pc] (fun j σ H' => But b Hl H' ∧ Bag H' b (7 + 10 * j) ∧ ∃ s7 s8 s9 s10 s11 s12 : Option V, σ = [some (.ref a), some (.int i), some (.ref b), some v1, some v2, some (.ref cw), some v3, s7, s8, s9, s10, s11, s12])
      ⟨But.refl, BL, _, _, _, _, _, _, rfl⟩ ?_ ?_ ?_
    · rintro j σ H' _ ⟨e, _⟩
      exact sql_of (e _ _ nep gl)
    · rintro j x σ H' hx ⟨e, BB, s7, s8, s9, s10, s11, s12, rfl⟩
      have hj : j < 3 := (List.getElem?_eq_some_iff.mp hx).1
      obtain ⟨c, v, w, p, a', r, s, rfl, t, jv, jw, nv, nw⟩ := (pick hx prs).but e BL
      clear hx prs
      refine x_gtup t ?_
      obtain ⟨g1, g2⟩ := nv.big
      obtain ⟨g3, g4⟩ := nw.big
      walk_at "x"
      refine ⟨_, _, _, _, _, _, rfl, jv, jw, g1, g2, g3, g4, fun H9 s9' => ?_⟩
      walk_at "x"
      refine order_ok (jv.same s9') (jw.same s9') g1 g2 g3 g4 fun H10 s10' => ?_
      have jv := (jv.same s9').same s10'
      have jw := (jw.same s9').same s10'
      have eA : But b Hl H10 := e.trans ((Same.but s9').trans (Same.but s10'))
      have BB := (BB.same s9').same s10'
      clear e s9' s10' t
      walk_at "x"
      refine ite_d (fun cc => ?_) (fun cc => ?_)
      all_goals
        walk_at "x"
        refine order_ok (by assumption) (by assumption) (by assumption) (by assumption) (by assumption) (by assumption) fun H11 s11' => ?_
        have jv := jv.same s11'
        have jw := jw.same s11'
        have eB : But b Hl H11 := eA.trans (Same.but s11')
        have BB := BB.same s11'
        walk_at "x"
        refine ite_d (fun lt => ?_) (fun ge => ?_)
        · walk_at "x"
          refine ltake_ok BB (by omega) (by decide) (by decide) fun d8 H12 z0 z1 f12 B12 => ?_
          have jv := jv.bag f12 BB (pj_nl _ _)
          have jw := jw.bag f12 BB (pj_nl _ _)
          walk_at "x"
          refine x_rngJ (by omega) (by omega) ?_
          refine forR (fun t σ H' => But b H12 H' ∧ Bag H' b (7 + 10 * j + 1 + t) ∧ ∃ (x y : V) (p a' r s : Int) (s11 s12 : Option V), σ = [some (.ref a), some (.int i), some (.ref b), some v1, some v2, some (.ref cw), some v3, some v, some w, some x, some y, s11, s12] ∧ Jp K H' x (pj p a') ∧ Jp K H' y (pj r s) ∧ Sz t p a' r s)
            ⟨But.refl, B12, _, _, _, _, _, _, _, _, rfl, by assumption, by assumption, Nu.sz (by assumption) (by assumption) (by omega)⟩ ?_ ?_
          · rintro t σ H' ht ⟨g, BG, x, y, p5, a5, r5, s5, s11, s12, rfl, jx, jy, z⟩
            have ht7 : t < 7 := by omega
            walk_at "x"
            refine ⟨t, _, _, _, _, _, _, rfl, jx, jy, z, ht7, fun H13 s13' => ?_⟩
            walk_at "x"
            refine btw_mid (jx.same s13') (jy.same s13') z ht7 fun c1 d1 v5 H14 s14' j14 l14 e14 b14 m14 m15 => ?_
            have BG2 := (BG.same s13').same s14'
            have jx := (jx.same s13').same s14'
            have jy := (jy.same s13').same s14'
            walk_at "x"
            refine ltake_ok BG2 (by omega) (by decide) (by decide) fun d2 H15 z2 z3 f15 B15 => ?_
            obtain ⟨za, zb, zc⟩ := z.step l14 e14 m14 m15
            have g2 := g.trans ((Same.but s13').trans ((Same.but s14').trans f15))
            walk_at "x"
            refine ite_d (fun k => ?_) (fun k => ?_)
            · walk_at "x"
              exact ⟨g2, B15, _, _, _, _, _, _, _, _, rfl, j14.bag f15 BG2 (pj_nl _ _), jy.bag f15 BG2 (pj_nl _ _), zb⟩
            · walk_at "x"
              exact ⟨g2, B15, _, _, _, _, _, _, _, _, rfl, jx.bag f15 BG2 (pj_nl _ _), j14.bag f15 BG2 (pj_nl _ _), za⟩
          · rintro σ H' ⟨g, BG, x, y, p5, a5, r5, s5, s11, s12, rfl, jx, jy, z⟩
            exact ⟨eB.trans (f12.trans g), BG.mono (by omega), _, _, _, _, _, _, rfl⟩
        · walk_at "x"
          refine x_rngJ (by omega) (by omega) ?_
          refine forR (fun t σ H' => t = 0 ∧ H' = H11 ∧ ∃ (s9 s10 s11 s12 : Option V), σ = [some (.ref a), some (.int i), some (.ref b), some v1, some v2, some (.ref cw), some v3, some v, some w, s9, s10, s11, s12]) ⟨rfl, rfl, _, _, _, _, rfl⟩ ?_ ?_
          · rintro t σ H' ht _
            exact absurd ht (by simp)
          · rintro σ H' ⟨_, rfl, _, _, _, _, rfl⟩
            exact ⟨eB, BB.mono (by omega), _, _, _, _, _, _, rfl⟩
    · rintro σ H' ⟨e, _, s7, s8, s9, s10, s11, s12, rfl⟩
      exact ⟨e.same (Same.trans E8 SL) h0, _, _, _, _, _, _, _, _, _, _, _, _, rfl⟩
  · rintro σ H1 ⟨s0, s1, s2, s3, s4, s5, s6, s7, s8, s9, s10, s11, s12, rfl⟩
    walk_at "x"
    exact q _
theorem len_law {K : PySem.W.Frag} : ∀ vs H Q E, sp_law K vs H Q E → vs.length = 1 := by
  intro vs H Q E h
  unfold sp_law at h
  repeat (first | (obtain ⟨rfl, _⟩ := h; rfl) | obtain ⟨_, h⟩ := h)
theorem ok_law {P : Program} {w : World} {K : PySem.W.Frag} {mg : Str → Option Value} {base : Heap} (T : Txt K mg) : Ok P w K mg base 6 (He.ga K "law") ["_law_script"] [] (sp_law K) :=
  okF T.f_law sc_law len_law (fun _ _ _ _ _ _ us hl => match us, hl with | [_], _ => rfl) (d_law T) (rd_law T)
theorem law_end {K : PySem.W.Frag} {H : Hp} {a : Addr} {ns : List Int} (hl : ns.length ≤ 63) (_ : ∀ z ∈ ns, Builtin.Int.intBits z ≤ 1048576) (hS : SqL K H a (ns.map V.int)) : sp_law K [.ref a] H (fun v _ => v = .bl true) fun _ _ _ => False := ⟨a, ns, rfl, hS, hl, fun _ => rfl⟩
def loose0 : List Str := ["MendroundsError", "BadNumber", "common_divisor", "number", "parts_of", "compare", "between", "_law_bag", "_law_take", "_law_value", "_law_number", "_law_pair", "_law_order", "_law_is_int", "_law_same", "_law_is_lowest", "_law_compares", "_law_stands"]
abbrev loose : List Str := loose0
abbrev Ro : PySem.W.OpenRow := PySem.W.OpenLaw.row PySem.Challenge.rw_mendrounds_k02_numbers_compared
abbrev hk : PySem.W.Hook := He.hookX 6 fa fn [] [] ex
def ob (s : PySem.W.SharedT) : He.AlX := He.obsX 6 fa fn [] [] ex (HandSHeadRun.getT s)
theorem ob_eq (s : PySem.W.SharedT) : ob s = hk.obs s.abs := He.obsX_eq (HandSHeadRun.getT_eq s)
theorem run (w : World) : HandSHeadRun.RunEq Ro (PySem.W.view Ro.prog [21]) hk ob 4000 loose w := by
  intro os
  kernel_rfl

end T
open PySem PySem.W PySem.Calls PyProof.Rows
theorem PySem.Challenge.cw_mendrounds_k02_numbers_compared_holds : PySem.Challenge.rw_mendrounds_k02_numbers_compared.Holds := by
  w_on; o_law
  refine HandSHeadRun.head_any (r := T.Ro) (q := view T.Ro.prog [21]) (H := T.hk) (ob := T.ob) (M := 4000) (loose := T.loose) (d := HandSHeadRun.topDef T.Ro.prog 21) (kwd := []) T.ob_eq
    (by kernel_rfl) (fun s => by kernel_rfl) T.run (by kernel_rfl) (by kernel_rfl) (by kernel_rfl) (by rfl) (by first | assumption | decide +kernel) (by decide +kernel) ⟨rfl, rfl, rfl, rfl, rfl, by decide +kernel⟩ ?hw ?hc
  case hw => w_witness2
  case hc =>
    refine LamX.walk_ofTsE (l := PySem.Challenge.rw_mendrounds_k02_numbers_compared) (n := 63) (k := 6) (x := "_law_script") (CX := fun w => L2N.CX PySem.Challenge.pw_mendrounds_k02_numbers_compared w) rfl (by decide) (by kernel_rfl) ⟨rfl, by decide, by decide⟩ ?F ?G
    case G =>
      intro w H s e s' h
      obtain ⟨_, _, _, _, _, _, _, _, _, _, _, _, z⟩ := h
      exact z.elim
    case F =>
      intro w mg f h Y G hmg0
      obtain ⟨K, KX, c⟩ := Y
      have hmg : mg ("law" : PySem.Str) = some (.ref f) := by
        have e : (HandSHeadRun.topDef T.Ro.prog 21).name = ("law" : PySem.Str) := by kernel_rfl
        rw [← e]
        exact hmg0
      have X := T.txt_of KX G c.t.d c.more
      have ef := hmg.symm.trans X.g_law
      cases ef
      refine ⟨K, KX, ?_⟩
      obtain ⟨fd, F⟩ := X.f_law
      have b := L2.FunD.bindsA (ps := ["_law_script"]) F fun _ _ _ _ _ _ us hl => match us, hl with | [_], _ => rfl
      refine ⟨fd, [], T.sp_law K, (fun _ h => nomatch h), (fun _ h => nomatch h), (fun _ h => nomatch h), (fun s v => b s [v] rfl), (fun H a ns hl hb _ hS => T.law_end hl hb hS), fun base hb hm _ => ?_⟩
      exact M.fnF F T.sc_law T.len_law (T.d_law X) (T.rd_law X)
