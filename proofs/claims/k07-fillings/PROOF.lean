import PyProof.Rows.All
import Wide.All
import OpenK.AllK
import Wide.FinOn
import HandS.ForMost
import HandS.Exc
import HandS.ExcOwn
import HandS.ExcCtx
import HandS.ExcInit
import HandS.ExcInitHot
import HandS.ExcField
import HandS.HotCalls
import HandS.TryOnly
import HandS.TryMany
import HandS.WordsExc
import HandS.Wide
import HandS.IsInst
import HandS.Style
import HandS.Defaults
import HandS.TupAny
import HandS.Deep
import HandS.Iter
import HandS.Comp
import HandS.Text
import HandS.RaiseMore
import HandS.NoneIn
import HandS.FStr
import HandS.CallSlots
import HandS.DictComp
import HandS.OwnEq
import HandS.Property
import HandS.Rev
import HandS.Zip
import HandS.Walk
import HandS.StrMore
import HandS.StrSplit
import HandS.Strs
import HandS.SetFor
import HandS.Conv
import HandS.Codes
import HandS.Flow
import HandS.RaiseFrom
import HandS.SuiteRaise
import HandS.GenBody
import HandS.GenYield
import HandS.GenCall
import HandS.GenList
import HandS.Star
import HandS.ClsMeth
import KE.GoesMore
import KE.KIndexOf
import KE.KParD
import HandS.Head0
import HandS.Head1
import HandS.Head2
import HandS.HeadEnd
import HandS.HeadHook1
import HandS.HeadHook2
import HandS.HeadHook3
import HandS.HeadHook4
import HandS.HeadWalk
import KE.KExcIs
import KE.SortData
import PyProof.Rows.SortShellAny
import HandS.MakeKwOnly
import PySem.Challenge.RW_mendrounds_k07_fillings
set_option Elab.async false
set_option linter.all false
set_option maxRecDepth 100000
set_option maxHeartbeats 4000000

namespace M
open PySem PySem.Spec PyProof.Rows L2
inductive J where
  | non | bl (b : Bool) | int (i : Int) | str (s : Str) | lst (l : List J) | tup (l : List J) | dct (l : List (Key × J)) | obj (c : Str) (fs : List (Str × J)) | scr (l : List Int) | own (a : Addr) | ty (n : String) | cls (c : Str) | exc (a dd : Addr) (fs : List (Str × J)) | tupN (l : List J)
/-- a dict that a loop has locked is the dict -/
def cor : HO → HO
  | .frz _ (.dK l) => .dK l
  | o => o
theorem cor_lst {h : HO} {xs : List V} (e : cor h = .lst xs) : h = .lst xs := by
  unfold cor at e
  split at e
  · cases e
  · exact e
theorem cor_ins {h : HO} {C dx : Addr} {fs : List (Str × V)} (e : cor h = .ins C dx fs) : h = .ins C dx fs := by
  unfold cor at e
  split at e
  · cases e
  · exact e
theorem cor_tup {h : HO} {xs : List V} (e : cor h = .tup xs) : h = .tup xs := by
  unfold cor at e
  split at e
  · cases e
  · exact e
theorem cor_xd {h : HO} {xs : List (Str × V)} (e : cor h = .xd xs) : h = .xd xs := by
  unfold cor at e
  split at e
  · cases e
  · exact e
theorem cor_frT {h : HO} {o : Obj} {xs : List V} (e : cor h = .frz o (.tup xs)) : h = .frz o (.tup xs) := by
  unfold cor at e
  split at e
  · cases e
  · exact e
theorem cor_frL {h : HO} {o : Obj} {xs : List V} (e : cor h = .frz o (.lst xs)) : h = .frz o (.lst xs) := by
  unfold cor at e
  split at e
  · cases e
  · exact e
theorem cor_dK {h : HO} {l : List (Key × V)} (e : cor h = .dK l) : h = .dK l ∨ ∃ o, h = .frz o (.dK l) := by
  unfold cor at e
  split at e
  · cases e
    exact .inr ⟨_, rfl⟩
  · exact .inl e
/-- a thing later: itself; a dict may have been locked -/
def Lk (h h' : HO) : Prop := h' = h ∨ ∃ o l, h = .dK l ∧ h' = .frz o (.dK l)
theorem Lk.cor {h h' : HO} (k : Lk h h') : M.cor h' = M.cor h := by
  rcases k with rfl | ⟨o, l, rfl, rfl⟩ <;> rfl
theorem Lk.trans {h h1 h2 : HO} (a : Lk h h1) (b : Lk h1 h2) : Lk h h2 := by
  rcases a with rfl | ⟨o, l, rfl, rfl⟩
  · exact b
  · rcases b with rfl | ⟨_, _, e, _⟩
    · exact .inr ⟨o, l, rfl, rfl⟩
    · cases e
theorem Lk.frz {h' : HO} {o : Obj} {u : HO} (k : Lk (.frz o u) h') : h' = .frz o u := by
  rcases k with rfl | ⟨_, _, e, _⟩
  · rfl
  · cases e
/-- all stands -/
def Le (G G' : Hp) : Prop := ∀ a h, G a = some h → ∃ h', G' a = some h' ∧ Lk h h'
theorem Le.refl {G : Hp} : Le G G := fun _ h e => ⟨h, e, .inl rfl⟩
theorem Le.trans {G G1 G2 : Hp} (h1 : Le G G1) (h2 : Le G1 G2) : Le G G2 := fun a h e => by
  obtain ⟨h', e1, c1⟩ := h1 a h e
  obtain ⟨h'', e2, c2⟩ := h2 a h' e1
  exact ⟨h'', e2, c1.trans c2⟩
theorem Le.lst {G G' : Hp} {a : Addr} {xs : List V} (l : Le G G') (e : G a = some (.lst xs)) : G' a = some (.lst xs) := by
  obtain ⟨h', e1, c1⟩ := l a _ e
  rw [e1, cor_lst c1.cor]
theorem Le.ins {G G' : Hp} {a C dx : Addr} {fs : List (Str × V)} (l : Le G G') (e : G a = some (.ins C dx fs)) : G' a = some (.ins C dx fs) := by
  obtain ⟨h', e1, c1⟩ := l a _ e
  rw [e1, cor_ins c1.cor]
theorem Le.xd {G G' : Hp} {a : Addr} {fs : List (Str × V)} (l : Le G G') (e : G a = some (.xd fs)) : G' a = some (.xd fs) := by
  obtain ⟨h', e1, c1⟩ := l a _ e
  rw [e1, cor_xd c1.cor]
theorem Le.sqt {K : PySem.W.Frag} {G G' : Hp} (l : Le G G') {a : Addr} {xs : List V} (h : SqT K G a xs) : SqT K G' a xs := by
  rcases h with (h | ⟨o, h⟩) | h
  · obtain ⟨h', e1, c1⟩ := l a _ h
    exact .inl (.inl (by rw [e1, cor_tup c1.cor]))
  · obtain ⟨h', e1, c1⟩ := l a _ h
    exact .inl (.inr ⟨o, by rw [e1, cor_frT c1.cor]⟩)
  · exact .inr h
theorem Le.sql {K : PySem.W.Frag} {G G' : Hp} (l : Le G G') {a : Addr} {xs : List V} (h : SqL K G a xs) : SqL K G' a xs := by
  rcases h with (h | ⟨o, h⟩) | h
  · exact .inl (.inl (l.lst h))
  · obtain ⟨h', e1, c1⟩ := l a _ h
    exact .inl (.inr ⟨o, by rw [e1, cor_frL c1.cor]⟩)
  · exact .inr h
mutual
inductive Jp (K : PySem.W.Frag) (G : Hp) : V → J → Prop
  | non : Jp K G .non .non
  | bl (b : Bool) : Jp K G (.bl b) (.bl b)
  | int (i : Int) : Jp K G (.int i) (.int i)
  | str (x : Str) : Jp K G (.str x) (.str x)
  | lst {a : Addr} {xs : List V} {ds : List J} : G a = some (.lst xs) → Jps K G xs ds → Jp K G (.ref a) (.lst ds)
  | tup {a : Addr} {xs : List V} {ds : List J} : SqT K G a xs → Jps K G xs ds → Jp K G (.ref a) (.tup ds)
  | dct {a : Addr} {h : HO} {xs : List (Key × V)} {ds : List (Key × J)} : G a = some h → cor h = .dK xs → Jpd K G xs ds → Jp K G (.ref a) (.dct ds)
  | obj {a dx : Addr} {c : Str} {xs : List (Str × V)} {ds : List (Str × J)} : G a = some (.ins (He.ga K c) dx xs) → Jpf K G xs ds → Jp K G (.ref a) (.obj c ds)
  | scr {a : Addr} {l : List Int} : SqL K G a (l.map V.int) → Jp K G (.ref a) (.scr l)
  | own (a : Addr) : Jp K G (.ref a) (.own a)
  | ty (n : String) : Jp K G (.ty n) (.ty n)
  | cls (c : Str) : Jp K G (.ref (He.ga K c)) (.cls c)
  | exc {a dd : Addr} {xs : List (Str × V)} {fs : List (Str × J)} : G dd = some (.xd xs) → Jpf K G xs fs → Jp K G (.ref a) (.exc a dd fs)
  | tupN {a : Addr} {ob : Obj} {xs : List V} {ds : List J} : G a = some (.frz ob (.tup xs)) → ob.dict = none → Jps K G xs ds → Jp K G (.ref a) (.tupN ds)
inductive Jps (K : PySem.W.Frag) (G : Hp) : List V → List J → Prop
  | nil : Jps K G [] []
  | cons {v : V} {vs : List V} {d : J} {ds : List J} : Jp K G v d → Jps K G vs ds → Jps K G (v :: vs) (d :: ds)
inductive Jpd (K : PySem.W.Frag) (G : Hp) : List (Key × V) → List (Key × J) → Prop
  | nil : Jpd K G [] []
  | cons {k : Key} {v : V} {vs : List (Key × V)} {d : J} {ds : List (Key × J)} : Jp K G v d → Jpd K G vs ds → Jpd K G ((k, v) :: vs) ((k, d) :: ds)
inductive Jpf (K : PySem.W.Frag) (G : Hp) : List (Str × V) → List (Str × J) → Prop
  | nil : Jpf K G [] []
  | cons {k : Str} {v : V} {vs : List (Str × V)} {d : J} {ds : List (Str × J)} : Jp K G v d → Jpf K G vs ds → Jpf K G ((k, v) :: vs) ((k, d) :: ds)
end
section
variable {K : PySem.W.Frag} {G G' : Hp}
mutual
theorem Jp.up (e : Le G G') : ∀ {v : V} {d : J}, Jp K G v d → Jp K G' v d
  | _, _, .non => .non
  | _, _, .bl b => .bl b
  | _, _, .int b => .int b
  | _, _, .str b => .str b
  | _, _, .lst h r => .lst (e.lst h) (Jps.up e r)
  | _, _, .tup h r => .tup (e.sqt h) (Jps.up e r)
  | _, _, .dct h c r => let ⟨h', e1, c1⟩ := e _ _ h; .dct e1 (c1.cor.trans c) (Jpd.up e r)
  | _, _, .obj h r => .obj (e.ins h) (Jpf.up e r)
  | _, _, .scr h => .scr (e.sql h)
  | _, _, .own a => .own a
  | _, _, .ty a => .ty a
  | _, _, .cls a => .cls a
  | _, _, .exc h r => .exc (e.xd h) (Jpf.up e r)
  | _, _, .tupN h d r => .tupN (by obtain ⟨h', e1, c1⟩ := e _ _ h; rw [e1, cor_frT c1.cor]) d (Jps.up e r)
theorem Jps.up (e : Le G G') : ∀ {v : List V} {d : List J}, Jps K G v d → Jps K G' v d
  | _, _, .nil => .nil
  | _, _, .cons h r => .cons (Jp.up e h) (Jps.up e r)
theorem Jpd.up (e : Le G G') : ∀ {v : List (Key × V)} {d : List (Key × J)}, Jpd K G v d → Jpd K G' v d
  | _, _, .nil => .nil
  | _, _, .cons h r => .cons (Jp.up e h) (Jpd.up e r)
theorem Jpf.up (e : Le G G') : ∀ {v : List (Str × V)} {d : List (Str × J)}, Jpf K G v d → Jpf K G' v d
  | _, _, .nil => .nil
  | _, _, .cons h r => .cons (Jp.up e h) (Jpf.up e r)
end
theorem Jps.length : ∀ {v : List V} {d : List J}, Jps K G v d → v.length = d.length
  | _, _, .nil => rfl
  | _, _, .cons _ r => congrArg Nat.succ (Jps.length r)
theorem Jps.append : ∀ {v w : List V} {d e : List J}, Jps K G v d → Jps K G w e → Jps K G (v ++ w) (d ++ e)
  | _, _, _, _, .nil, r => r
  | _, _, _, _, .cons h t, r => .cons h (Jps.append t r)
theorem Jps.get : ∀ {v : List V} {d : List J} {i : Nat} {x : J}, Jps K G v d → d[i]? = some x → ∃ u, v[i]? = some u ∧ Jp K G u x
  | _, _, i, _, .nil, h => by simp at h
  | _, _, 0, x, .cons (v := v) h t, e => ⟨v, rfl, by simp at e; rw [← e]; exact h⟩
  | _, _, i + 1, _, .cons h t, e => by
    rw [List.getElem?_cons_succ] at e ⊢
    exact Jps.get t e
theorem Jps.get' : ∀ {v : List V} {d : List J} {i : Nat} {u : V}, Jps K G v d → v[i]? = some u → ∃ x, d[i]? = some x ∧ Jp K G u x
  | _, _, i, _, .nil, h => by simp at h
  | _, _, 0, x, .cons (d := d) h t, e => ⟨d, rfl, by simp at e; rw [← e]; exact h⟩
  | _, _, i + 1, _, .cons h t, e => by
    rw [List.getElem?_cons_succ] at e ⊢
    exact Jps.get' t e
theorem Jps.set : ∀ {v : List V} {d : List J} (i : Nat) {u : V} {x : J}, Jps K G v d → Jp K G u x → Jps K G (v.set i u) (d.set i x)
  | _, _, _, _, _, .nil, _ => .nil
  | _, _, 0, _, _, .cons _ t, j => .cons j t
  | _, _, i + 1, _, _, .cons h t, j => .cons h (Jps.set i t j)
theorem Jps.drop : ∀ {v : List V} {d : List J} (i : Nat), Jps K G v d → Jps K G (v.drop i) (d.drop i)
  | _, _, 0, h => h
  | _, _, _ + 1, .nil => .nil
  | _, _, i + 1, .cons _ t => Jps.drop i t
theorem Jps.take : ∀ {v : List V} {d : List J} (i : Nat), Jps K G v d → Jps K G (v.take i) (d.take i)
  | _, _, 0, h => .nil
  | _, _, _ + 1, .nil => .nil
  | _, _, i + 1, .cons h t => .cons h (Jps.take i t)
theorem Jps.ints : ∀ {v : List V} {l : List Int}, Jps K G v (l.map J.int) → v = l.map V.int
  | _, [], .nil => rfl
  | _, _ :: _, .cons h t => by cases h; rw [List.map_cons, Jps.ints t]
theorem Jps.strs : ∀ {v : List V} {l : List Str}, Jps K G v (l.map J.str) → v = l.map V.str
  | _, [], .nil => rfl
  | _, _ :: _, .cons h t => by cases h; rw [List.map_cons, Jps.strs t]
theorem Jps.bls : ∀ {v : List V} {l : List Bool}, Jps K G v (l.map J.bl) → v = l.map V.bl
  | _, [], .nil => rfl
  | _, _ :: _, .cons h t => by cases h; rw [List.map_cons, Jps.bls t]
theorem Jpf.look : ∀ {v : List (Str × V)} {d : List (Str × J)} {f : Str} {x : J}, Jpf K G v d → d.lookup f = some x → ∃ u, v.lookup f = some u ∧ Jp K G u x
  | _, _, f, _, .nil, e => by cases e
  | _, _, f, x, .cons (k := k) (v := u) h t, e => by
    rw [List.lookup_cons] at e ⊢
    cases hk : f == k with
    | true =>
      rw [hk] at e
      cases e
      exact ⟨u, rfl, h⟩
    | false =>
      rw [hk] at e
      exact Jpf.look t e
theorem Jpf.look_none : ∀ {v : List (Str × V)} {d : List (Str × J)} {f : Str}, Jpf K G v d → d.lookup f = none → v.lookup f = none
  | _, _, f, .nil, e => rfl
  | _, _, f, .cons (k := k) (v := u) h t, e => by
    rw [List.lookup_cons] at e ⊢
    cases hk : f == k with
    | true =>
      rw [hk] at e
      cases e
    | false =>
      rw [hk] at e
      exact Jpf.look_none t e
theorem Jpf.length : ∀ {v : List (Str × V)} {d : List (Str × J)}, Jpf K G v d → v.length = d.length
  | _, _, .nil => rfl
  | _, _, .cons _ r => congrArg Nat.succ (Jpf.length r)
def valJ (kvs : List (Key × J)) (k : Key) : Option J := (kvs.find? fun kv => decide (kv.1 = k)).map (·.2)
theorem Jpd.val : ∀ {v : List (Key × V)} {d : List (Key × J)} {k : Key}, Jpd K G v d → (valV v k = none ∧ valJ d k = none) ∨ ∃ u x, valV v k = some u ∧ valJ d k = some x ∧ Jp K G u x
  | _, _, k, .nil => .inl ⟨rfl, rfl⟩
  | _, _, k, .cons (k := k') (v := u) (d := x) h t => by
    unfold valV valJ
    by_cases e : k' = k
    · rw [List.find?_cons_of_pos (by simpa using e), List.find?_cons_of_pos (by simpa using e)]
      exact .inr ⟨u, x, rfl, rfl, h⟩
    · rw [List.find?_cons_of_neg (by simpa using e), List.find?_cons_of_neg (by simpa using e)]
      exact Jpd.val (k := k) t
theorem Jpd.length : ∀ {v : List (Key × V)} {d : List (Key × J)}, Jpd K G v d → v.length = d.length
  | _, _, .nil => rfl
  | _, _, .cons _ r => congrArg Nat.succ (Jpd.length r)
end
inductive O where
  | lst (l : List J) | dct (l : List (Key × J)) | ins (c : Str) (fs : List (Str × J))
  | dN (hs : NestedKey → Int) (a : Addr) (l : List (NestedKey × J))
abbrev Sto := Addr → Option O
def put (s : Sto) (a : Addr) (o : O) : Sto := fun b => if b = a then some o else s b
theorem put_same {s : Sto} {a : Addr} {o : O} : put s a o a = some o := by unfold put; rw [if_pos rfl]
theorem put_ne {s : Sto} {a b : Addr} {o : O} (h : b ≠ a) : put s a o b = s b := by unfold put; rw [if_neg h]
theorem put_put {s : Sto} {a : Addr} {o u : O} : put (put s a o) a u = put s a u := by
  funext b
  unfold put
  by_cases h : b = a
  · rw [if_pos h, if_pos h]
  · rw [if_neg h, if_neg h, if_neg h]
def mask (F : Hp) (s : Sto) (H : Hp) : Hp := fun a => match F a, s a with
  | none, none => H a
  | _, _ => none
theorem mask_none {F : Hp} {s : Sto} {H : Hp} {a : Addr} (h1 : F a = none) (h2 : s a = none) : mask F s H a = H a := by
  unfold mask; rw [h1, h2]
theorem of_mask {F : Hp} {s : Sto} {H : Hp} {a : Addr} {o : HO} (h : mask F s H a = some o) : F a = none ∧ s a = none ∧ H a = some o := by
  unfold mask at h
  split at h
  · rename_i h1 h2
    exact ⟨h1, h2, h⟩
  · cases h
mutual
def nkJ : NestedKey → J
  | .none => .non
  | .num i => .int i
  | .text x => .str x
  | .tup ks => .tup (nkJs ks)
def nkJs : List NestedKey → List J
  | [] => []
  | k :: ks => nkJ k :: nkJs ks
end
abbrev NX := NestedKey × Value × Value
inductive NKs (K : PySem.W.Frag) (G : Hp) : List NX → List (NestedKey × J) → Prop
  | nil : NKs K G [] []
  | cons {k : NestedKey} {b : Value} {kv : V} {u : Value} {v : V} {y : J} {xs : List NX} {l : List (NestedKey × J)} (rk : RelV kv b) (j : Jp K G kv (nkJ k)) (e : k.depth ≤ 8) (r : RelV v u) (jv : Jp K G v y) (t : NKs K G xs l) : NKs K G ((k, b, u) :: xs) ((k, y) :: l)
theorem NKs.up {K : PySem.W.Frag} {G G' : Hp} (e : Le G G') {xs : List NX} {l : List (NestedKey × J)} (h : NKs K G xs l) : NKs K G' xs l := by
  induction h with
  | nil => exact .nil
  | cons rk j h r jv _ ih => exact .cons rk (j.up e) h r (jv.up e) ih
/-- at a stands a dict with these entries -/
def NR (a : Addr) (es : List DictEntry) : Heap → Prop := fun h => ∃ o ep, h.get? a = some o ∧ o.ExactDict ∧ o.data = .dict es.toArray ep
def nEs (hs : NestedKey → Int) (xs : List NX) : List DictEntry := xs.map fun x => ⟨hs x.1, x.2.1, x.2.2⟩
def Oh (K : PySem.W.Frag) (G : Hp) : HO → O → Prop
  | .lst xs, .lst l => Jps K G xs l
  | .dK xs, .dct l => Jpd K G xs l
  | .ins C _ fs, .ins c ds => C = He.ga K c ∧ Jpf K G fs ds
  | .ext φ, .dN hs a l => ∃ xs, φ = NR a (nEs hs xs) ∧ xs.length ≤ 100000 ∧ (a == sysModules) = false ∧ (xs.map (·.1)).Nodup ∧ NKs K G xs l
  | _, _ => False
theorem Oh.up {K : PySem.W.Frag} {G G' : Hp} (l : Le G G') : ∀ {h : HO} {o : O}, Oh K G h o → Oh K G' h o := by
  intro h o e
  unfold Oh at e ⊢
  split at e
  · exact Jps.up l e
  · exact Jpd.up l e
  · exact ⟨e.1, Jpf.up l e.2⟩
  · obtain ⟨xs, e1, e2, e3, e4, e5⟩ := e
    exact ⟨xs, e1, e2, e3, e4, e5.up l⟩
  · exact e
structure Stt (K : PySem.W.Frag) (F : Hp) (s : Sto) (H : Hp) : Prop where
  sk : ∀ a o, s a = some o → F a = none ∧ ∃ h, H a = some h ∧ Oh K (mask F s H) h o
  fr : ∀ a o, F a = some o → H a = some o
section
variable {K : PySem.W.Frag} {F : Hp} {s s' : Sto} {H H' : Hp} {a p : Addr} {h : HO} {o : O}
theorem Stt.fresh (t : Stt K F s H) (e : H p = none) : s p = none ∧ F p = none := by
  constructor
  · cases q : s p with
    | none => rfl
    | some o =>
      obtain ⟨_, h, e2, _⟩ := t.sk p o q
      rw [e] at e2
      cases e2
  · cases q : F p with
    | none => rfl
    | some o =>
      have := t.fr p o q
      rw [e] at this
      cases this
theorem Le.new (e : H p = none) : Le (mask F s H) (mask F s (upd H p h)) := fun a o q => by
  obtain ⟨h1, h2, h3⟩ := of_mask q
  exact ⟨o, by rw [mask_none h1 h2, upd_ne (ne_of_none h3 e)]; exact h3, .inl rfl⟩
/-- a new thing, seen -/
theorem Stt.new (t : Stt K F s H) (e : H p = none) : Stt K F s (upd H p h) := by
  refine ⟨fun a o q => ?_, fun a o q => ?_⟩
  · obtain ⟨h1, h2, h3, h4⟩ := t.sk a o q
    exact ⟨h1, h2, by rw [upd_ne (ne_of_none h3 e)]; exact h3, h4.up (Le.new e)⟩
  · have := t.fr a o q
    rw [upd_ne (ne_of_none this e)]
    exact this
theorem Le.newO (e : H p = none) : Le (mask F s H) (mask F (put s p o) (upd H p h)) := fun a u q => by
  obtain ⟨h1, h2, h3⟩ := of_mask q
  have n := ne_of_none h3 e
  exact ⟨u, by rw [mask_none h1 (by rw [put_ne n]; exact h2), upd_ne n]; exact h3, .inl rfl⟩
/-- a new thing, in the store -/
theorem Stt.newO (t : Stt K F s H) (e : H p = none) (w : Oh K (mask F s H) h o) : Stt K F (put s p o) (upd H p h) := by
  obtain ⟨f1, f2⟩ := t.fresh e
  refine ⟨fun a u q => ?_, fun a u q => ?_⟩
  · by_cases n : a = p
    · subst n
      rw [put_same] at q
      cases q
      exact ⟨f2, h, upd_same, w.up (Le.newO e)⟩
    · rw [put_ne n] at q
      obtain ⟨h1, h2, h3, h4⟩ := t.sk a u q
      exact ⟨h1, h2, by rw [upd_ne n]; exact h3, h4.up (Le.newO e)⟩
  · have := t.fr a u q
    rw [upd_ne (ne_of_none this e)]
    exact this
theorem mask_write {u : O} (e : s a = some u) : mask F (put s a o) (upd H a h) = mask F s H := by
  funext b
  unfold mask
  by_cases n : b = a
  · subst n
    rw [put_same, e]
    cases F b <;> rfl
  · rw [put_ne n, upd_ne n]
/-- a thing of the store is written -/
theorem Stt.write {u : O} (t : Stt K F s H) (e : s a = some u) (w : Oh K (mask F s H) h o) : Stt K F (put s a o) (upd H a h) := by
  refine ⟨fun b v q => ?_, fun b v q => ?_⟩
  · rw [mask_write e]
    by_cases n : b = a
    · subst n
      rw [put_same] at q
      cases q
      exact ⟨(t.sk _ _ e).1, h, upd_same, w⟩
    · rw [put_ne n] at q
      obtain ⟨h1, h2, h3, h4⟩ := t.sk b v q
      exact ⟨h1, h2, by rw [upd_ne n]; exact h3, h4⟩
  · have n : b ≠ a := fun z => by
      rw [z, (t.sk _ _ e).1] at q
      cases q
    rw [upd_ne n]
    exact t.fr b v q
/-- things of the store are let go -/
theorem Le.sub (d : ∀ a o, s' a = some o → s a = some o) : Le (mask F s H) (mask F s' H) := fun a u q => by
  obtain ⟨h1, h2, h3⟩ := of_mask q
  refine ⟨u, ?_, .inl rfl⟩
  rw [mask_none h1 ?_]
  · exact h3
  · cases z : s' a with
    | none => rfl
    | some o =>
      rw [d a o z] at h2
      cases h2
theorem Stt.sub (t : Stt K F s H) (d : ∀ a o, s' a = some o → s a = some o) : Stt K F s' H :=
  ⟨fun a o q => let ⟨h1, h2, h3, h4⟩ := t.sk a o (d a o q); ⟨h1, h2, h3, h4.up (Le.sub d)⟩, t.fr⟩
/-- what stands at a place of the store -/
theorem Stt.lst {l : List J} (t : Stt K F s H) (e : s a = some (.lst l)) : ∃ xs, H a = some (.lst xs) ∧ Jps K (mask F s H) xs l := by
  obtain ⟨h1, h2, h3, h4⟩ := t.sk a _ e
  unfold Oh at h4
  split at h4
  · rename_i q; cases q; exact ⟨_, h3, h4⟩
  · rename_i q; cases q
  · rename_i q; cases q
  · rename_i q; cases q
  · exact h4.elim
theorem Stt.dct {l : List (Key × J)} (t : Stt K F s H) (e : s a = some (.dct l)) : ∃ xs, H a = some (.dK xs) ∧ Jpd K (mask F s H) xs l := by
  obtain ⟨h1, h2, h3, h4⟩ := t.sk a _ e
  unfold Oh at h4
  split at h4
  · rename_i q; cases q
  · rename_i q; cases q; exact ⟨_, h3, h4⟩
  · rename_i q; cases q
  · rename_i q; cases q
  · exact h4.elim
theorem Stt.ins {c : Str} {l : List (Str × J)} (t : Stt K F s H) (e : s a = some (.ins c l)) : ∃ dx xs, H a = some (.ins (He.ga K c) dx xs) ∧ Jpf K (mask F s H) xs l := by
  obtain ⟨h1, h2, h3, h4⟩ := t.sk a _ e
  unfold Oh at h4
  split at h4
  · rename_i q; cases q
  · rename_i q; cases q
  · rename_i q; cases q
    obtain ⟨w1, w2⟩ := h4
    subst w1
    exact ⟨_, _, h3, w2⟩
  · rename_i q; cases q
  · exact h4.elim
end
abbrev Rho := List (Option J)
inductive Rs (K : PySem.W.Frag) (G : Hp) : L2.St → Rho → Prop
  | nil : Rs K G [] []
  | no {σ : L2.St} {ρ : Rho} : Rs K G σ ρ → Rs K G (none :: σ) (none :: ρ)
  | yes {v : V} {d : J} {σ : L2.St} {ρ : Rho} : Jp K G v d → Rs K G σ ρ → Rs K G (some v :: σ) (some d :: ρ)
section
variable {K : PySem.W.Frag} {G G' : Hp}
theorem Rs.up (e : Le G G') : ∀ {σ : L2.St} {ρ : Rho}, Rs K G σ ρ → Rs K G' σ ρ
  | _, _, .nil => .nil
  | _, _, .no r => .no (Rs.up e r)
  | _, _, .yes j r => .yes (j.up e) (Rs.up e r)
theorem Rs.get : ∀ {σ : L2.St} {ρ : Rho} {i : Nat} {d : J}, Rs K G σ ρ → ρ[i]? = some (some d) → ∃ v, σ[i]? = some (some v) ∧ Jp K G v d
  | _, _, _, _, .nil, e => by simp at e
  | _, _, 0, _, .no r, e => by simp at e
  | _, _, 0, d, .yes (v := v) j r, e => ⟨v, rfl, by simp at e; rw [← e]; exact j⟩
  | _, _, i + 1, _, .no r, e => by
    rw [List.getElem?_cons_succ] at e ⊢
    exact Rs.get r e
  | _, _, i + 1, _, .yes j r, e => by
    rw [List.getElem?_cons_succ] at e ⊢
    exact Rs.get r e
theorem Rs.set : ∀ {σ : L2.St} {ρ : Rho} (i : Nat) {v : V} {d : J}, Rs K G σ ρ → Jp K G v d → Rs K G (σ.set i (some v)) (ρ.set i (some d))
  | _, _, _, _, _, .nil, _ => .nil
  | _, _, 0, _, _, .no r, j => .yes j r
  | _, _, 0, _, _, .yes _ r, j => .yes j r
  | _, _, i + 1, _, _, .no r, j => .no (Rs.set i r j)
  | _, _, i + 1, _, _, .yes q r, j => .yes q (Rs.set i r j)
theorem Rs.set0 : ∀ {σ : L2.St} {ρ : Rho} (i : Nat), Rs K G σ ρ → Rs K G (σ.set i none) (ρ.set i none)
  | _, _, _, .nil => .nil
  | _, _, 0, .no r => .no r
  | _, _, 0, .yes _ r => .no r
  | _, _, i + 1, .no r => .no (Rs.set0 i r)
  | _, _, i + 1, .yes q r => .yes q (Rs.set0 i r)
theorem Rs.beg {vs : List V} {ds : List J} (N : List Str) (h : Jps K G vs ds) : Rs K G (L2.start N vs) (ds.map some ++ List.replicate (N.length - ds.length) none) := by
  unfold L2.start
  rw [h.length]
  have base : ∀ n : Nat, Rs K G (List.replicate n none) (List.replicate n none) := fun n => by
    induction n with
    | zero => exact .nil
    | succ n h => rw [List.replicate_succ]; exact .no h
  generalize N.length - ds.length = n
  have go : ∀ {vs : List V} {ds : List J}, Jps K G vs ds → Rs K G (vs.map some ++ List.replicate n none) (ds.map some ++ List.replicate n none) := by
    intro vs ds h
    induction ds generalizing vs with
    | nil => cases h; exact base n
    | cons d ds ih =>
      cases h with
      | cons j r => exact .yes j (ih r)
  exact go h
end
end M
namespace M
open PySem PySem.Spec PyProof.Rows L2
theorem Le.unmask {F : Hp} {s : Sto} {H : Hp} : Le (mask F s H) H := fun a o q => ⟨o, (of_mask q).2.2, .inl rfl⟩
theorem sqt_mask {K : PySem.W.Frag} {F : Hp} {s : Sto} {H : Hp} {a : Addr} {xs : List V} (h : SqT K (mask F s H) a xs) : SqT K H a xs := Le.unmask.sqt h
theorem sql_mask {K : PySem.W.Frag} {F : Hp} {s : Sto} {H : Hp} {a : Addr} {xs : List V} (h : SqL K (mask F s H) a xs) : SqL K H a xs := Le.unmask.sql h
end M

namespace M
open PySem PySem.Spec PyProof.Rows L2
abbrev QJ := J → Sto → Prop
abbrev XJ := Str → List (Str × J) → Sto → Prop
abbrev TJ := Rho → Sto → QJ → XJ → Prop
abbrev AJ := Rho → Sto → (List J → Sto → Prop) → XJ → Prop
abbrev BJ := Rho → Sto → (Bool → Sto → Prop) → XJ → Prop
structure EJ where
  nx : Rho → Sto → Prop
  rt : QJ
  bk : Rho → Sto → Prop
  ct : Rho → Sto → Prop
  xr : Rho → XJ
abbrev SJ := EJ → Rho → Sto → Prop
abbrev GJ := J → Rho → Sto → (Rho → Sto → Prop) → Prop
abbrev GsJ := List J → Rho → Sto → (Rho → Sto → Prop) → Prop
def No : XJ := fun _ _ _ => False
abbrev W0 : WX := fun _ _ _ _ => False
abbrev WE' (E : XK) : WX := fun cl d _ H => E cl d H
structure At (K : PySem.W.Frag) (F : Hp) (ρ : Rho) (s : Sto) (σ : L2.St) (H : Hp) : Prop where
  rs : Rs K (mask F s H) σ ρ
  st : Stt K F s H
theorem At.to {K : PySem.W.Frag} {F : Hp} {ρ : Rho} {s s' : Sto} {σ : L2.St} {H H' : Hp} (a : At K F ρ s σ H) (l : Le (mask F s H) (mask F s' H')) (t : Stt K F s' H') : At K F ρ s' σ H' := ⟨a.rs.up l, t⟩
def Bk (K : PySem.W.Frag) (F G : Hp) (QV : VK) : QJ := fun d s' => ∀ v H', Le G (mask F s' H') → Stt K F s' H' → Jp K (mask F s' H') v d → QV v H'
def Bks (K : PySem.W.Frag) (F G : Hp) (QV : List V → Hp → Prop) : List J → Sto → Prop := fun d s' => ∀ v H', Le G (mask F s' H') → Stt K F s' H' → Jps K (mask F s' H') v d → QV v H'
def Bkb (K : PySem.W.Frag) (F G : Hp) (R : Bool → Hp → Prop) : Bool → Sto → Prop := fun b s' => ∀ H', Le G (mask F s' H') → Stt K F s' H' → R b H'
def XD (K : PySem.W.Frag) (G : Hp) : Option Addr → List (Str × J) → Prop
  | none, fs => fs = []
  | some a, fs => ∃ vs, G a = some (.xd vs) ∧ Jpf K G vs fs
def Xk (K : PySem.W.Frag) (F G : Hp) (E : XK) : XJ := fun c fs s' => ∀ d H', Le G (mask F s' H') → Stt K F s' H' → XD K (mask F s' H') d fs → E (.ref (He.ga K c)) d H'
theorem Bk.up {K : PySem.W.Frag} {F G G1 : Hp} {QV : VK} {d : J} {s : Sto} (h : Bk K F G QV d s) (l : Le G G1) : Bk K F G1 QV d s := fun v H' l' t j => h v H' (l.trans l') t j
theorem Bks.up {K : PySem.W.Frag} {F G G1 : Hp} {QV : List V → Hp → Prop} {d : List J} {s : Sto} (h : Bks K F G QV d s) (l : Le G G1) : Bks K F G1 QV d s := fun v H' l' t j => h v H' (l.trans l') t j
theorem Bkb.up {K : PySem.W.Frag} {F G G1 : Hp} {R : Bool → Hp → Prop} {b : Bool} {s : Sto} (h : Bkb K F G R b s) (l : Le G G1) : Bkb K F G1 R b s := fun H' l' t => h H' (l.trans l') t
theorem Xk.up {K : PySem.W.Frag} {F G G1 : Hp} {E : XK} {c : Str} {fs : List (Str × J)} {s : Sto} (h : Xk K F G E c fs s) (l : Le G G1) : Xk K F G1 E c fs s := fun d H' l' t x => h d H' (l.trans l') t x
def Se (K : PySem.W.Frag) (W : WX) (t : TE) (p : TJ) : Prop := ∀ (F : Hp) (ρ : Rho) (s : Sto) (σ : L2.St) (H : Hp) (Q : QJ) (R : XJ) (QV : VK), At K F ρ s σ H → (∀ d s', Q d s' → Bk K F (mask F s H) QV d s') →
  (∀ c fs s', R c fs s' → Xk K F (mask F s H) (fun cl d H' => W cl d σ H') c fs s') → p ρ s Q R → t σ H QV
def Sa (K : PySem.W.Frag) (W : WX) (t : TA) (p : AJ) : Prop := ∀ (F : Hp) (ρ : Rho) (s : Sto) (σ : L2.St) (H : Hp) (Q : List J → Sto → Prop) (R : XJ) (QV : List V → Hp → Prop), At K F ρ s σ H → (∀ d s', Q d s' → Bks K F (mask F s H) QV d s') →
  (∀ c fs s', R c fs s' → Xk K F (mask F s H) (fun cl d H' => W cl d σ H') c fs s') → p ρ s Q R → t σ H QV
def Sb (K : PySem.W.Frag) (W : WX) (t : TT) (p : BJ) : Prop := ∀ (F : Hp) (ρ : Rho) (s : Sto) (σ : L2.St) (H : Hp) (Q : Bool → Sto → Prop) (R : XJ) (QV : Bool → Hp → Prop), At K F ρ s σ H → (∀ d s', Q d s' → Bkb K F (mask F s H) QV d s') →
  (∀ c fs s', R c fs s' → Xk K F (mask F s H) (fun cl d H' => W cl d σ H') c fs s') → p ρ s Q R → t σ H QV
structure Er (K : PySem.W.Frag) (F : Hp) (W : WX) (G : Hp) (D : EJ) (DV : Ends) : Prop where
  nx : ∀ ρ s σ H, D.nx ρ s → Le G (mask F s H) → At K F ρ s σ H → DV.nx σ H
  rt : ∀ d s, D.rt d s → Bk K F G DV.rt d s
  bk : ∀ ρ s σ H, D.bk ρ s → Le G (mask F s H) → At K F ρ s σ H → DV.bk σ H
  ct : ∀ ρ s σ H, D.ct ρ s → Le G (mask F s H) → At K F ρ s σ H → DV.ct σ H
  xr : ∀ ρ c fs s σ, D.xr ρ c fs s → ∀ d H', Le G (mask F s H') → At K F ρ s σ H' → XD K (mask F s H') d fs → W (.ref (He.ga K c)) d σ H'
theorem Er.up {K : PySem.W.Frag} {F : Hp} {W : WX} {G G1 : Hp} {D : EJ} {DV : Ends} (e : Er K F W G D DV) (l : Le G G1) : Er K F W G1 D DV :=
  ⟨fun ρ s σ H h l' a => e.nx ρ s σ H h (l.trans l') a, fun d s h => (e.rt d s h).up l, fun ρ s σ H h l' a => e.bk ρ s σ H h (l.trans l') a, fun ρ s σ H h l' a => e.ct ρ s σ H h (l.trans l') a,
    fun ρ c fs s σ h d H' l' a x => e.xr ρ c fs s σ h d H' (l.trans l') a x⟩
def Ss (K : PySem.W.Frag) (W : WX) (t : TS) (q : SJ) : Prop := ∀ (F : Hp) (D : EJ) (DV : Ends) (ρ : Rho) (s : Sto) (σ : L2.St) (H : Hp), At K F ρ s σ H → Er K F W (mask F s H) D DV → q D ρ s → t DV σ H
def Sg (K : PySem.W.Frag) (g : TG) (gj : GJ) : Prop := ∀ (F : Hp) (v : V) (d : J) (ρ : Rho) (s : Sto) (σ : L2.St) (H : Hp) (Q : Rho → Sto → Prop) (QV : L2.St → Hp → Prop), At K F ρ s σ H → Jp K (mask F s H) v d →
  (∀ ρ' s', Q ρ' s' → ∀ σ' H', Le (mask F s H) (mask F s' H') → At K F ρ' s' σ' H' → QV σ' H') → gj d ρ s Q → g v σ H QV
def Sgs (K : PySem.W.Frag) (g : TGs) (gj : GsJ) : Prop := ∀ (F : Hp) (v : List V) (d : List J) (ρ : Rho) (s : Sto) (σ : L2.St) (H : Hp) (Q : Rho → Sto → Prop) (QV : L2.St → Hp → Prop), At K F ρ s σ H → Jps K (mask F s H) v d →
  (∀ ρ' s', Q ρ' s' → ∀ σ' H', Le (mask F s H) (mask F s' H') → At K F ρ' s' σ' H' → QV σ' H') → gj d ρ s Q → g v σ H QV
/-- operators, by values; built-in functions; methods -/
def So (K : PySem.W.Frag) (r : R2) (rj : J → J → Sto → QJ → Prop) : Prop := ∀ (F : Hp) (s : Sto) (H : Hp) (v u : V) (x y : J) (Q : QJ) (QV : VK), Stt K F s H → Jp K (mask F s H) v x → Jp K (mask F s H) u y → (∀ d s', Q d s' → Bk K F (mask F s H) QV d s') → rj x y s Q → r v u H QV
def So1 (K : PySem.W.Frag) (r : V → Hp → VK → Prop) (rj : J → Sto → QJ → Prop) : Prop := ∀ (F : Hp) (s : Sto) (H : Hp) (v : V) (x : J) (Q : QJ) (QV : VK), Stt K F s H → Jp K (mask F s H) v x → (∀ d s', Q d s' → Bk K F (mask F s H) QV d s') → rj x s Q → r v H QV
def Sf (K : PySem.W.Frag) (r : List V → Hp → VK → Prop) (rj : List J → Sto → QJ → Prop) : Prop := ∀ (F : Hp) (s : Sto) (H : Hp) (v : List V) (x : List J) (Q : QJ) (QV : VK), Stt K F s H → Jps K (mask F s H) v x → (∀ d s', Q d s' → Bk K F (mask F s H) QV d s') → rj x s Q → r v H QV
def Sm (K : PySem.W.Frag) (r : V → List V → Hp → VK → Prop) (rj : J → List J → Sto → QJ → Prop) : Prop := ∀ (F : Hp) (s : Sto) (H : Hp) (v : V) (vs : List V) (x : J) (xs : List J) (Q : QJ) (QV : VK), Stt K F s H → Jp K (mask F s H) v x → Jps K (mask F s H) vs xs → (∀ d s', Q d s' → Bk K F (mask F s H) QV d s') → rj x xs s Q → r v vs H QV
def jVar (i : Nat) : TJ := fun ρ s Q _ => ∃ d, ρ[i]? = some (some d) ∧ Q d s
def jC (d : J) : TJ := fun _ s Q _ => Q d s
def jOp (r : J → J → Sto → QJ → Prop) (a b : TJ) : TJ := fun ρ s Q R => a ρ s (fun x s1 => b ρ s1 (fun y s2 => r x y s2 Q) R) R
def jUn (r : J → Sto → QJ → Prop) (a : TJ) : TJ := fun ρ s Q R => a ρ s (fun x s1 => r x s1 Q) R
def jIf (t : BJ) (a b : TJ) : TJ := fun ρ s Q R => t ρ s (fun c s1 => if c = true then a ρ s1 Q R else b ρ s1 Q R) R
def jTest (a : TJ) : BJ := fun ρ s Q R => a ρ s (fun x s1 => ∃ b, x = .bl b ∧ Q b s1) R
def jNot (a : BJ) : BJ := fun ρ s Q R => a ρ s (fun b s1 => Q (!b) s1) R
def jAnd (a b : BJ) : BJ := fun ρ s Q R => a ρ s (fun c s1 => if c = true then b ρ s1 Q R else Q false s1) R
def jOr (a b : BJ) : BJ := fun ρ s Q R => a ρ s (fun c s1 => if c = true then Q true s1 else b ρ s1 Q R) R
def jAndV (a b : TJ) : TJ := fun ρ s Q R => a ρ s (fun x s1 => ∃ c, x = .bl c ∧ if c = true then b ρ s1 Q R else Q (.bl false) s1) R
def jOrV (a b : TJ) : TJ := fun ρ s Q R => a ρ s (fun x s1 => ∃ c, x = .bl c ∧ if c = true then Q (.bl true) s1 else b ρ s1 Q R) R
def jNotV (a : TJ) : TJ := fun ρ s Q R => a ρ s (fun x s1 => ∃ c, x = .bl c ∧ Q (.bl (!c)) s1) R
def jChain (r r' : J → J → Sto → QJ → Prop) (a b c : TJ) : TJ := fun ρ s Q R => a ρ s (fun x s1 => b ρ s1 (fun y s2 => r x y s2 fun z s3 => ∃ k, z = .bl k ∧ if k = true then c ρ s3 (fun w s4 => r' y w s4 Q) R else Q (.bl false) s3) R) R
def J.isN : J → Bool
  | .non => true
  | _ => false
def jIsN (a : TJ) : TJ := fun ρ s Q R => a ρ s (fun x s1 => Q (.bl x.isN) s1) R
def jNotN (a : TJ) : TJ := fun ρ s Q R => a ρ s (fun x s1 => Q (.bl (!x.isN)) s1) R
def jNil : AJ := fun _ s Q _ => Q [] s
def jCons (a : TJ) (b : AJ) : AJ := fun ρ s Q R => a ρ s (fun x s1 => b ρ s1 (fun xs s2 => Q (x :: xs) s2) R) R
def jTup (a : AJ) : TJ := fun ρ s Q R => a ρ s (fun xs s1 => xs.length ≤ 100000 ∧ Q (.tup xs) s1) R
/-- a new list, seen; one of the store -/
def jLst (a : AJ) : TJ := fun ρ s Q R => a ρ s (fun xs s1 => xs.length ≤ 100000 ∧ Q (.lst xs) s1) R
def jLstO (a : AJ) : TJ := fun ρ s Q R => a ρ s (fun xs s1 => xs.length ≤ 100000 ∧ ∀ p, s1 p = none → Q (.own p) (put s1 p (.lst xs))) R
def jDct0 : TJ := fun _ s Q _ => Q (.dct []) s
def jDct0O : TJ := fun _ s Q _ => ∀ p, s p = none → Q (.own p) (put s p (.dct []))
abbrev WJ := List J → Sto → QJ → XJ → Prop
def jCall (w : WJ) (dj : List J) (a : AJ) : TJ := fun ρ s Q R => a ρ s (fun ds s1 => w (ds ++ dj) s1 Q R) R
def jCB (r : List J → Sto → QJ → Prop) (a : AJ) : TJ := fun ρ s Q R => a ρ s (fun xs s1 => r xs s1 Q) R
def jSeq (a b : SJ) : SJ := fun D ρ s => a { D with nx := b D } ρ s
def jNext : SJ := fun D ρ s => D.nx ρ s
def jBreak : SJ := fun D ρ s => D.bk ρ s
def jCont : SJ := fun D ρ s => D.ct ρ s
def jRet (a : TJ) : SJ := fun D ρ s => a ρ s D.rt (D.xr ρ)
def jRetN : SJ := fun D _ s => D.rt .non s
def jDrop (a : TJ) : SJ := fun D ρ s => a ρ s (fun _ s1 => D.nx ρ s1) (D.xr ρ)
def jIfS (t : BJ) (a b : SJ) : SJ := fun D ρ s => t ρ s (fun c s1 => if c = true then a D ρ s1 else b D ρ s1) (D.xr ρ)
def jAsg (a : TJ) (g : GJ) : SJ := fun D ρ s => a ρ s (fun x s1 => g x ρ s1 D.nx) (D.xr ρ)
def jPar (i j : Nat) (a : AJ) : SJ := fun D ρ s => a ρ s (fun xs s1 => ∃ x y, xs = [x, y] ∧ D.nx ((ρ.set i (some x)).set j (some y)) s1) (D.xr ρ)
def jPar3 (i j l : Nat) (a : AJ) : SJ := fun D ρ s => a ρ s (fun xs s1 => ∃ x y z, xs = [x, y, z] ∧ D.nx (((ρ.set i (some x)).set j (some y)).set l (some z)) s1) (D.xr ρ)
def jWhile (t : BJ) (b : SJ) : SJ := fun D ρ s => ∃ (I : Rho → Sto → Prop) (μ : Rho → Sto → Nat), I ρ s ∧ ∀ ρ s, I ρ s →
  t ρ s (fun c s1 => if c = true then b { D with nx := fun ρ' s' => I ρ' s' ∧ μ ρ' s' < μ ρ s, ct := fun ρ' s' => I ρ' s' ∧ μ ρ' s' < μ ρ s, bk := D.nx } ρ s1 else D.nx ρ s1) (D.xr ρ)
def jgName (i : Nat) : GJ := fun d ρ s Q => Q (ρ.set i (some d)) s
def jgNil : GsJ := fun ds ρ s Q => ds = [] ∧ Q ρ s
def jgCons (g : GJ) (r : GsJ) : GsJ := fun ds ρ s Q => ∃ d ds', ds = d :: ds' ∧ g d ρ s fun ρ' s' => r ds' ρ' s' Q
def jgTup (k : Nat) (g : GsJ) : GJ := fun d ρ s Q => ∃ l, d = .tup l ∧ l.length = k ∧ g l ρ s Q
section
variable {K : PySem.W.Frag} {W : WX} {ta tb tc te : TE} {pa pb pc pe : TJ} {tt tu : TT} {pt pu : BJ} {xa : TA} {qa : AJ} {t u s1 : TS} {q r : SJ} {g : TG} {gj : GJ} {gs : TGs} {gsj : GsJ} {i j : Nat} {v : V} {d : J}
theorem se_var : Se K W (tVar i) (jVar i) := by
  intro F ρ s σ H Q R QV a hQ _ h
  obtain ⟨d, e, q⟩ := h
  obtain ⟨v, e2, jp⟩ := a.rs.get e
  exact ⟨v, e2, hQ d s q v H .refl a.st jp⟩
theorem se_c (h : ∀ G, Jp K G v d) : Se K W (tC v) (jC d) := fun F ρ s σ H Q R QV a hQ _ q => hQ d s q v H .refl a.st (h _)
theorem se_op {r : R2} {rj : J → J → Sto → QJ → Prop} (ho : So K r rj) (ha : Se K W ta pa) (hb : Se K W tb pb) : Se K W (tOp r ta tb) (jOp rj pa pb) := by
  intro F ρ s σ H Q R QV a hQ hR h
  refine ha F ρ s σ H _ R _ a (fun x s1 h1 v1 H1 l1 st1 j1 => ?_) hR h
  refine hb F ρ s1 σ H1 _ R _ (a.to l1 st1) (fun y s2 h2 v2 H2 l2 st2 j2 => ?_) (fun c fs s' hr => (hR c fs s' hr).up l1) h1
  exact ho F s2 H2 v1 v2 x y Q QV st2 (j1.up l2) j2 (fun d s' q => (hQ d s' q).up (l1.trans l2)) h2
theorem se_un {r : V → Hp → VK → Prop} {rj : J → Sto → QJ → Prop} (ho : So1 K r rj) (ha : Se K W ta pa) : Se K W (tUn r ta) (jUn rj pa) := by
  intro F ρ s σ H Q R QV a hQ hR h
  refine ha F ρ s σ H _ R _ a (fun x s1 h1 v1 H1 l1 st1 j1 => ?_) hR h
  exact ho F s1 H1 v1 x Q QV st1 j1 (fun d s' q => (hQ d s' q).up l1) h1
theorem se_if (ht : Sb K W tt pt) (ha : Se K W ta pa) (hb : Se K W tb pb) : Se K W (tIf tt ta tb) (jIf pt pa pb) := by
  intro F ρ s σ H Q R QV a hQ hR h
  refine ht F ρ s σ H _ R _ a (fun c s1 h1 H1 l1 st1 => ?_) hR h
  cases c with
  | true => exact ha F ρ s1 σ H1 Q R QV (a.to l1 st1) (fun d s' q => (hQ d s' q).up l1) (fun c fs s' hr => (hR c fs s' hr).up l1) h1
  | false => exact hb F ρ s1 σ H1 Q R QV (a.to l1 st1) (fun d s' q => (hQ d s' q).up l1) (fun c fs s' hr => (hR c fs s' hr).up l1) h1
theorem sb_test (ha : Se K W ta pa) : Sb K W (tTest ta) (jTest pa) := by
  intro F ρ s σ H Q R QV a hQ hR h
  refine ha F ρ s σ H _ R _ a (fun x s1 h1 v1 H1 l1 st1 j1 => ?_) hR h
  obtain ⟨b, rfl, q⟩ := h1
  cases j1
  exact ⟨b, rfl, hQ b s1 q H1 l1 st1⟩
theorem sb_B (ha : Se K W ta pa) : Sb K W (tB ta) (jTest pa) := by
  intro F ρ s σ H Q R QV a hQ hR h
  refine ha F ρ s σ H _ R _ a (fun x s1 h1 v1 H1 l1 st1 j1 => ?_) hR h
  obtain ⟨b, rfl, q⟩ := h1
  cases j1
  exact ⟨b, rfl, hQ b s1 q H1 l1 st1⟩
theorem sb_not (ht : Sb K W tt pt) : Sb K W (tNot tt) (jNot pt) := by
  intro F ρ s σ H Q R QV a hQ hR h
  exact ht F ρ s σ H _ R _ a (fun c s1 h1 => hQ (!c) s1 h1) hR h
theorem sb_and (ht : Sb K W tt pt) (hu : Sb K W tu pu) : Sb K W (tAnd tt tu) (jAnd pt pu) := by
  intro F ρ s σ H Q R QV a hQ hR h
  refine ht F ρ s σ H _ R _ a (fun c s1 h1 H1 l1 st1 => ?_) hR h
  cases c with
  | true => exact hu F ρ s1 σ H1 Q R QV (a.to l1 st1) (fun d s' q => (hQ d s' q).up l1) (fun c fs s' hr => (hR c fs s' hr).up l1) h1
  | false => exact hQ false s1 h1 H1 l1 st1
theorem sb_or (ht : Sb K W tt pt) (hu : Sb K W tu pu) : Sb K W (tOr tt tu) (jOr pt pu) := by
  intro F ρ s σ H Q R QV a hQ hR h
  refine ht F ρ s σ H _ R _ a (fun c s1 h1 H1 l1 st1 => ?_) hR h
  cases c with
  | false => exact hu F ρ s1 σ H1 Q R QV (a.to l1 st1) (fun d s' q => (hQ d s' q).up l1) (fun c fs s' hr => (hR c fs s' hr).up l1) h1
  | true => exact hQ true s1 h1 H1 l1 st1
theorem se_andV (ha : Se K W ta pa) (hb : Se K W tb pb) : Se K W (tAndV ta tb) (jAndV pa pb) := by
  intro F ρ s σ H Q R QV a hQ hR h
  refine ha F ρ s σ H _ R _ a (fun x s1 h1 v1 H1 l1 st1 j1 => ?_) hR h
  obtain ⟨c, rfl, h1⟩ := h1
  cases j1
  refine ⟨c, rfl, ?_⟩
  cases c with
  | true => exact hb F ρ s1 σ H1 Q R QV (a.to l1 st1) (fun d s' q => (hQ d s' q).up l1) (fun c fs s' hr => (hR c fs s' hr).up l1) h1
  | false => exact hQ (.bl false) s1 h1 _ H1 l1 st1 (.bl _)
theorem se_orV (ha : Se K W ta pa) (hb : Se K W tb pb) : Se K W (tOrV ta tb) (jOrV pa pb) := by
  intro F ρ s σ H Q R QV a hQ hR h
  refine ha F ρ s σ H _ R _ a (fun x s1 h1 v1 H1 l1 st1 j1 => ?_) hR h
  obtain ⟨c, rfl, h1⟩ := h1
  cases j1
  refine ⟨c, rfl, ?_⟩
  cases c with
  | false => exact hb F ρ s1 σ H1 Q R QV (a.to l1 st1) (fun d s' q => (hQ d s' q).up l1) (fun c fs s' hr => (hR c fs s' hr).up l1) h1
  | true => exact hQ (.bl true) s1 h1 _ H1 l1 st1 (.bl _)
theorem se_notV (ha : Se K W ta pa) : Se K W (tNotV ta) (jNotV pa) := by
  intro F ρ s σ H Q R QV a hQ hR h
  refine ha F ρ s σ H _ R _ a (fun x s1 h1 v1 H1 l1 st1 j1 => ?_) hR h
  obtain ⟨c, rfl, h1⟩ := h1
  cases j1
  exact ⟨c, rfl, hQ _ s1 h1 _ H1 l1 st1 (.bl _)⟩
theorem se_chain {r r' : R2} {rj rj' : J → J → Sto → QJ → Prop} (ho : So K r rj) (ho' : So K r' rj') (ha : Se K W ta pa) (hb : Se K W tb pb) (hc : Se K W tc pc) : Se K W (tChain r r' ta tb tc) (jChain rj rj' pa pb pc) := by
  intro F ρ s σ H Q R QV a hQ hR h
  refine ha F ρ s σ H _ R _ a (fun x s1 h1 v1 H1 l1 st1 j1 => ?_) hR h
  refine hb F ρ s1 σ H1 _ R _ (a.to l1 st1) (fun y s2 h2 v2 H2 l2 st2 j2 => ?_) (fun c fs s' hr => (hR c fs s' hr).up l1) h1
  refine ho F s2 H2 v1 v2 x y _ _ st2 (j1.up l2) j2 (fun z s3 h3 v3 H3 l3 st3 j3 => ?_) h2
  obtain ⟨k, rfl, h3⟩ := h3
  cases j3
  refine ⟨k, rfl, ?_⟩
  have L := (l1.trans l2).trans l3
  cases k with
  | true =>
    refine hc F ρ s3 σ H3 _ R _ (a.to L st3) (fun w s4 h4 v4 H4 l4 st4 j4 => ?_) (fun c fs s' hr => (hR c fs s' hr).up L) h3
    exact ho' F s4 H4 v2 v4 y w Q QV st4 ((j2.up l3).up l4) j4 (fun d s' q => (hQ d s' q).up (L.trans l4)) h4
  | false => exact hQ _ s3 h3 _ H3 L st3 (.bl _)
theorem isN_of {G : Hp} {v : V} {d : J} (h : Jp K G v d) : decide (v = .non) = d.isN := by
  cases h <;> rfl
theorem se_isN (ha : Se K W ta pa) : Se K W (tIsN ta) (jIsN pa) := by
  intro F ρ s σ H Q R QV a hQ hR h
  refine ha F ρ s σ H _ R _ a (fun x s1 h1 v1 H1 l1 st1 j1 => ?_) hR h
  rw [isN_of j1]
  exact hQ _ s1 h1 _ H1 l1 st1 (.bl _)
theorem se_notN (ha : Se K W ta pa) : Se K W (tNotN ta) (jNotN pa) := by
  intro F ρ s σ H Q R QV a hQ hR h
  refine ha F ρ s σ H _ R _ a (fun x s1 h1 v1 H1 l1 st1 j1 => ?_) hR h
  rw [isN_of j1]
  exact hQ _ s1 h1 _ H1 l1 st1 (.bl _)
theorem sa_nil : Sa K W tNil jNil := fun F ρ s σ H Q R QV a hQ _ q => hQ [] s q [] H .refl a.st .nil
theorem sa_cons (ha : Se K W ta pa) (hb : Sa K W xa qa) : Sa K W (tCons ta xa) (jCons pa qa) := by
  intro F ρ s σ H Q R QV a hQ hR h
  refine ha F ρ s σ H _ R _ a (fun x s1 h1 v1 H1 l1 st1 j1 => ?_) hR h
  refine hb F ρ s1 σ H1 _ R _ (a.to l1 st1) (fun y s2 h2 v2 H2 l2 st2 j2 => ?_) (fun c fs s' hr => (hR c fs s' hr).up l1) h1
  exact hQ _ s2 h2 _ H2 (l1.trans l2) st2 (.cons (j1.up l2) j2)
theorem se_tup (ha : Sa K W xa qa) : Se K W (tTup xa) (jTup qa) := by
  intro F ρ s σ H Q R QV a hQ hR h
  refine ha F ρ s σ H _ R _ a (fun xs s1 h1 v1 H1 l1 st1 j1 => ?_) hR h
  refine ⟨by rw [j1.length]; exact Nat.le_trans h1.1 (by decide), fun p hp => ?_⟩
  obtain ⟨f1, f2⟩ := st1.fresh hp
  exact hQ _ s1 h1.2 _ _ (l1.trans (.new hp)) (st1.new hp) (.tup (.inl (.inl (by rw [mask_none f2 f1]; exact upd_same))) (j1.up (.new hp)))
theorem se_lst (ha : Sa K W xa qa) : Se K W (tLst xa) (jLst qa) := by
  intro F ρ s σ H Q R QV a hQ hR h
  refine ha F ρ s σ H _ R _ a (fun xs s1 h1 v1 H1 l1 st1 j1 => ?_) hR h
  refine ⟨by rw [j1.length]; exact Nat.le_trans h1.1 (by decide), fun p hp => ?_⟩
  obtain ⟨f1, f2⟩ := st1.fresh hp
  exact hQ _ s1 h1.2 _ _ (l1.trans (.new hp)) (st1.new hp) (.lst (by rw [mask_none f2 f1]; exact upd_same) (j1.up (.new hp)))
theorem se_lstO (ha : Sa K W xa qa) : Se K W (tLst xa) (jLstO qa) := by
  intro F ρ s σ H Q R QV a hQ hR h
  refine ha F ρ s σ H _ R _ a (fun xs s1 h1 v1 H1 l1 st1 j1 => ?_) hR h
  refine ⟨by rw [j1.length]; exact Nat.le_trans h1.1 (by decide), fun p hp => ?_⟩
  exact hQ _ _ (h1.2 p (st1.fresh hp).1) _ _ (l1.trans (.newO hp)) (st1.newO (o := .lst xs) hp j1) (.own p)
theorem se_dct0 : Se K W tDNewK jDct0 := by
  intro F ρ s σ H Q R QV a hQ hR h p hp
  obtain ⟨f1, f2⟩ := a.st.fresh hp
  exact hQ _ s h _ _ (.new hp) (a.st.new hp) (.dct (by rw [mask_none f2 f1]; exact upd_same) rfl .nil)
theorem se_dct0O : Se K W tDNewK jDct0O := by
  intro F ρ s σ H Q R QV a hQ hR h p hp
  exact hQ _ _ (h p (a.st.fresh hp).1) _ _ (.newO hp) (a.st.newO (o := .dct []) hp (show Jpd K _ [] [] from .nil)) (.own p)
theorem se_cb {r : List V → Hp → VK → Prop} {rj : List J → Sto → QJ → Prop} (ho : Sf K r rj) (ha : Sa K W xa qa) : Se K W (tCB r xa) (jCB rj qa) := by
  intro F ρ s σ H Q R QV a hQ hR h
  refine ha F ρ s σ H _ R _ a (fun xs s1 h1 v1 H1 l1 st1 j1 => ?_) hR h
  exact ho F s1 H1 v1 xs Q QV st1 j1 (fun d s' q => (hQ d s' q).up l1) h1
theorem ss_seq (ha : Ss K W t q) (hb : Ss K W u r) : Ss K W (tSeq t u) (jSeq q r) := by
  intro F D DV ρ s σ H a e h
  exact ha F { D with nx := r D } _ ρ s σ H a ⟨fun ρ' s' σ' H' h' l' a' => hb F D DV ρ' s' σ' H' a' (e.up l') h', e.rt, e.bk, e.ct, e.xr⟩ h
theorem ss_next : Ss K W tNext jNext := fun F D DV ρ s σ H a e h => e.nx ρ s σ H h .refl a
theorem er_x {F G : Hp} {D : EJ} {DV : Ends} {ρ : Rho} {s : Sto} {σ : L2.St} {H : Hp} (a : At K F ρ s σ H) (e : Er K F W (mask F s H) D DV) : ∀ c fs s', D.xr ρ c fs s' → Xk K F (mask F s H) (fun cl d H' => W cl d σ H') c fs s' :=
  fun c fs s' hr d H' l st x => e.xr ρ c fs s' σ hr d H' l (a.to l st) x
theorem ss_ret (ha : Se K W ta pa) : Ss K W (tRet ta) (jRet pa) := fun F D DV ρ s σ H a e h => ha F ρ s σ H _ _ _ a e.rt (er_x (G := H) a e) h
theorem ss_drop (ha : Se K W ta pa) : Ss K W (tDrop ta) (jDrop pa) := fun F D DV ρ s σ H a e h =>
  ha F ρ s σ H _ _ _ a (fun d s1 h1 v H1 l1 st1 _ => e.nx ρ s1 σ H1 h1 l1 (a.to l1 st1)) (er_x (G := H) a e) h
theorem ss_if (ht : Sb K W tt pt) (ha : Ss K W t q) (hb : Ss K W u r) : Ss K W (tIfS tt t u) (jIfS pt q r) := by
  intro F D DV ρ s σ H a e h
  refine ht F ρ s σ H _ _ _ a (fun c s1 h1 H1 l1 st1 => ?_) (er_x (G := H) a e) h
  cases c with
  | true => exact ha F D DV ρ s1 σ H1 (a.to l1 st1) (e.up l1) h1
  | false => exact hb F D DV ρ s1 σ H1 (a.to l1 st1) (e.up l1) h1
theorem ss_asg (ha : Se K W ta pa) (hg : Sg K g gj) : Ss K W (tAsg ta g) (jAsg pa gj) := by
  intro F D DV ρ s σ H a e h
  refine ha F ρ s σ H _ _ _ a (fun x s1 h1 v1 H1 l1 st1 j1 => ?_) (er_x (G := H) a e) h
  exact hg F v1 x ρ s1 σ H1 _ _ (a.to l1 st1) j1 (fun ρ' s' h' σ' H' l' a' => e.nx ρ' s' σ' H' h' (l1.trans l') a') h1
theorem ss_par (ha : Sa K W xa qa) : Ss K W (tPar i j xa) (jPar i j qa) := by
  intro F D DV ρ s σ H a e h
  refine ha F ρ s σ H _ _ _ a (fun xs s1 h1 v1 H1 l1 st1 j1 => ?_) (er_x (G := H) a e) h
  obtain ⟨x, y, rfl, h1⟩ := h1
  cases j1 with | cons jx j1 =>
  cases j1 with | cons jy j1 =>
  cases j1
  exact ⟨_, _, rfl, e.nx _ s1 _ H1 h1 l1 ⟨((a.rs.up l1).set i jx).set j jy, st1⟩⟩
theorem ss_par3 {l : Nat} (ha : Sa K W xa qa) : Ss K W (tPar3 i j l xa) (jPar3 i j l qa) := by
  intro F D DV ρ s σ H a e h
  refine ha F ρ s σ H _ _ _ a (fun xs s1 h1 v1 H1 l1 st1 j1 => ?_) (er_x (G := H) a e) h
  obtain ⟨x, y, z, rfl, h1⟩ := h1
  cases j1 with | cons jx j1 =>
  cases j1 with | cons jy j1 =>
  cases j1 with | cons jz j1 =>
  cases j1
  exact ⟨_, _, _, rfl, e.nx _ s1 _ H1 h1 l1 ⟨(((a.rs.up l1).set i jx).set j jy).set l jz, st1⟩⟩
theorem ss_while (ht : Sb K W tt pt) (hb : Ss K W t q) : Ss K W (tWhile tt t) (jWhile pt q) := by
  intro F D DV ρ s σ H a e h
  obtain ⟨I, μ, h0, hs⟩ := h
  refine ⟨fun m σ' H' => ∃ ρ' s', m = μ ρ' s' ∧ I ρ' s' ∧ Le (mask F s H) (mask F s' H') ∧ At K F ρ' s' σ' H', ⟨_, ρ, s, rfl, h0, .refl, a⟩, ?_⟩
  rintro m σ1 H1 ⟨ρ1, s1, rfl, i1, l1, a1⟩
  refine ht F ρ1 s1 σ1 H1 _ _ _ a1 (fun c s2 h2 H2 l2 st2 => ?_) (er_x (G := H) a1 (e.up l1)) (hs ρ1 s1 i1)
  have L := l1.trans l2
  cases c with
  | true =>
    refine ⟨fun σ' H' => ∃ ρ' s', μ ρ' s' < μ ρ1 s1 ∧ I ρ' s' ∧ Le (mask F s H) (mask F s' H') ∧ At K F ρ' s' σ' H', ?_, ?_⟩
    · rintro σ' H' ⟨ρ', s', m', i', l', a'⟩
      exact ⟨_, m', ρ', s', rfl, i', l', a'⟩
    · refine hb F { D with nx := fun ρ' s' => I ρ' s' ∧ μ ρ' s' < μ ρ1 s1, ct := fun ρ' s' => I ρ' s' ∧ μ ρ' s' < μ ρ1 s1, bk := D.nx } _ ρ1 s2 σ1 H2 (a1.to l2 st2) ⟨?_, fun d s h => (e.rt d s h).up L, ?_, ?_, (e.up L).xr⟩ h2
      · rintro ρ' s' σ' H' ⟨i', m'⟩ l' a'
        exact ⟨ρ', s', m', i', L.trans l', a'⟩
      · intro ρ' s' σ' H' h' l' a'
        exact e.nx ρ' s' σ' H' h' (L.trans l') a'
      · rintro ρ' s' σ' H' ⟨i', m'⟩ l' a'
        exact ⟨ρ', s', m', i', L.trans l', a'⟩
  | false => exact e.nx ρ1 s2 σ1 H2 h2 L (a1.to l2 st2)
theorem sg_name : Sg K (gName i) (jgName i) := fun F v d ρ s σ H Q QV a j hQ q => hQ _ s q _ H .refl ⟨a.rs.set i j, a.st⟩
theorem sgs_nil : Sgs K gNil jgNil := by
  intro F v d ρ s σ H Q QV a j hQ q
  obtain ⟨rfl, q⟩ := q
  cases j
  exact ⟨rfl, hQ ρ s q σ H .refl a⟩
theorem sgs_cons (hg : Sg K g gj) (hr : Sgs K gs gsj) : Sgs K (gCons g gs) (jgCons gj gsj) := by
  intro F v d ρ s σ H Q QV a j hQ q
  obtain ⟨d1, ds, rfl, q⟩ := q
  cases j with | cons j1 j =>
  refine ⟨_, _, rfl, hg F _ d1 ρ s σ H _ _ a j1 (fun ρ' s' h' σ' H' l' a' => ?_) q⟩
  exact hr F _ ds ρ' s' σ' H' Q QV a' (j.up l') (fun ρ2 s2 h2 σ2 H2 l2 a2 => hQ ρ2 s2 h2 σ2 H2 (l'.trans l2) a2) h'
theorem sg_tup {k : Nat} (hr : Sgs K gs gsj) : Sg K (gTup K k gs) (jgTup k gsj) := by
  intro F v d ρ s σ H Q QV a j hQ q
  obtain ⟨l, rfl, e, q⟩ := q
  cases j with | tup t j =>
  refine ⟨_, _, rfl, ?_, by rw [j.length]; exact e, hr F _ l ρ s σ H Q QV a j hQ q⟩
  exact sqt_mask t
end
end M

namespace M
open PySem PySem.Spec PyProof.Rows L2
structure ItJ where
  items : List J
  st : Sto → Prop
abbrev IJ := Rho → Sto → (ItJ → Sto → Prop) → XJ → Prop
def ItRel (K : PySem.W.Frag) (G : Hp) (I : ItJ) (Jt : It) : Prop := ∀ (F : Hp) (i : Nat) (s : Sto) (H : Hp), Le G (mask F s H) → Stt K F s H → I.st s →
  (i < I.items.length → Jt.go i H ∧ ∀ x H', Jt.yld i H x H' → Le (mask F s H) (mask F s H') ∧ Stt K F s H' ∧ ∃ d, I.items[i]? = some d ∧ Jp K (mask F s H') x d) ∧ (i = I.items.length → Jt.stop i H)
def Si (K : PySem.W.Frag) (W : WX) (t : TI) (p : IJ) : Prop := ∀ (F : Hp) (ρ : Rho) (s : Sto) (σ : L2.St) (H : Hp) (Q : ItJ → Sto → Prop) (R : XJ) (QV : It → Hp → Prop), At K F ρ s σ H →
  (∀ I s', Q I s' → ∀ Jt H', Le (mask F s H) (mask F s' H') → Stt K F s' H' → ItRel K (mask F s' H') I Jt → QV Jt H') →
  (∀ c fs s', R c fs s' → Xk K F (mask F s H) (fun cl d H' => W cl d σ H') c fs s') → p ρ s Q R → t σ H QV
theorem ItRel.up {K : PySem.W.Frag} {G G' : Hp} {I : ItJ} {Jt : It} (h : ItRel K G I Jt) (l : Le G G') : ItRel K G' I Jt := fun F i s H l' t q => h F i s H (l.trans l') t q
def forJ (st : Sto → Prop) (g : GJ) (b : SJ) (D : EJ) : List J → Rho → Sto → Prop
  | [], ρ, s => st s ∧ D.nx ρ s
  | x :: l, ρ, s => st s ∧ g x ρ s fun ρ' s' => b { D with nx := forJ st g b D l, ct := forJ st g b D l, bk := D.nx } ρ' s'
def jFor (p : IJ) (g : GJ) (b : SJ) : SJ := fun D ρ s => p ρ s (fun I s1 => forJ I.st g b D I.items ρ s1) (D.xr ρ)
def wipeJ (ρ : Rho) : List Nat → Rho
  | [] => ρ
  | v :: vs => (wipeJ ρ vs).set v none
def lcJ (st : Sto → Prop) (g : GJ) (tt : BJ) (te : TJ) (ρ : Rho) (Q : List J → Sto → Prop) : List J → List J → Sto → Prop
  | [], acc, s => st s ∧ Q acc s
  | x :: l, acc, s => st s ∧ g x ρ s fun ρ2 s2 => tt ρ2 s2 (fun b s3 => if b = true then te ρ2 s3 (fun y s4 => acc.length < 100000 ∧ lcJ st g tt te ρ Q l (acc ++ [y]) s4) No else lcJ st g tt te ρ Q l acc s3) No
def jLc (p : IJ) (g : GJ) (tt : BJ) (te : TJ) (vs : List Nat) : TJ := fun ρ s Q R => p ρ s (fun I s1 => lcJ I.st g tt te (wipeJ ρ vs) (fun acc s2 => Q (.lst acc) s2) I.items [] s1) R
def Sgw (K : PySem.W.Frag) (vs : List Nat) (g : TG) (gj : GJ) : Prop := ∀ (F : Hp) (v : V) (d : J) (ρ : Rho) (s : Sto) (σ : L2.St) (H : Hp) (Q : Rho → Sto → Prop) (QV : L2.St → Hp → Prop), At K F ρ s σ H → Jp K (mask F s H) v d →
  (∀ ρ' s', Q ρ' s' → ∀ σ' H', Le (mask F s H) (mask F s' H') → At K F ρ' s' σ' H' → wipe σ' vs = wipe σ vs → QV σ' H') → gj d ρ s Q → g v σ H QV
def Sgsw (K : PySem.W.Frag) (vs : List Nat) (g : TGs) (gj : GsJ) : Prop := ∀ (F : Hp) (v : List V) (d : List J) (ρ : Rho) (s : Sto) (σ : L2.St) (H : Hp) (Q : Rho → Sto → Prop) (QV : L2.St → Hp → Prop), At K F ρ s σ H → Jps K (mask F s H) v d →
  (∀ ρ' s', Q ρ' s' → ∀ σ' H', Le (mask F s H) (mask F s' H') → At K F ρ' s' σ' H' → wipe σ' vs = wipe σ vs → QV σ' H') → gj d ρ s Q → g v σ H QV
theorem wipe_set0 {σ : L2.St} {i : Nat} {x : Option V} : ∀ vs : List Nat, (wipe (σ.set i x) vs).set i none = (wipe σ vs).set i none
  | [] => by
    show (σ.set i x).set i none = σ.set i none
    rw [List.set_set]
  | v :: vs => by
    show ((wipe (σ.set i x) vs).set v none).set i none = ((wipe σ vs).set v none).set i none
    by_cases e : v = i
    · rw [e, List.set_set, List.set_set, wipe_set0 vs]
    · rw [List.set_comm _ _ e, wipe_set0 vs, List.set_comm _ _ (Ne.symm e)]
theorem wipe_set {σ : L2.St} {i : Nat} {x : Option V} : ∀ {vs : List Nat}, i ∈ vs → wipe (σ.set i x) vs = wipe σ vs
  | v :: vs, h => by
    show (wipe (σ.set i x) vs).set v none = (wipe σ vs).set v none
    rcases List.mem_cons.mp h with e | h
    · subst e
      exact wipe_set0 vs
    · rw [wipe_set h]
theorem Rs.wipe {K : PySem.W.Frag} {G : Hp} {σ : L2.St} {ρ : Rho} (h : Rs K G σ ρ) : ∀ vs, Rs K G (L2.wipe σ vs) (wipeJ ρ vs)
  | [] => h
  | v :: vs => (Rs.wipe h vs).set0 v
section
variable {K : PySem.W.Frag} {W : WX} {ta te : TE} {pa pe : TJ} {tt : TT} {pt : BJ} {xa : TA} {qa : AJ} {t : TS} {q : SJ} {g : TG} {gj : GJ} {gs : TGs} {gsj : GsJ} {ti : TI} {pi : IJ} {i : Nat} {vs : List Nat}
theorem sgw_name (h : i ∈ vs) : Sgw K vs (gName i) (jgName i) := fun F v d ρ s σ H Q QV a j hQ q => hQ _ s q _ H .refl ⟨a.rs.set i j, a.st⟩ (wipe_set h)
theorem sgsw_nil : Sgsw K vs gNil jgNil := by
  intro F v d ρ s σ H Q QV a j hQ q
  obtain ⟨rfl, q⟩ := q
  cases j
  exact ⟨rfl, hQ ρ s q σ H .refl a rfl⟩
theorem sgsw_cons (hg : Sgw K vs g gj) (hr : Sgsw K vs gs gsj) : Sgsw K vs (gCons g gs) (jgCons gj gsj) := by
  intro F v d ρ s σ H Q QV a j hQ q
  obtain ⟨d1, ds, rfl, q⟩ := q
  cases j with | cons j1 j =>
  refine ⟨_, _, rfl, hg F _ d1 ρ s σ H _ _ a j1 (fun ρ' s' h' σ' H' l' a' w' => ?_) q⟩
  exact hr F _ ds ρ' s' σ' H' Q QV a' (j.up l') (fun ρ2 s2 h2 σ2 H2 l2 a2 w2 => hQ ρ2 s2 h2 σ2 H2 (l'.trans l2) a2 (w2.trans w')) h'
theorem sgw_tup {k : Nat} (hr : Sgsw K vs gs gsj) : Sgw K vs (gTup K k gs) (jgTup k gsj) := by
  intro F v d ρ s σ H Q QV a j hQ q
  obtain ⟨l, rfl, e, q⟩ := q
  cases j with | tup t j =>
  exact ⟨_, _, rfl, sqt_mask t, by rw [j.length]; exact e, hr F _ l ρ s σ H Q QV a j hQ q⟩
theorem forJ_st {st : Sto → Prop} {b : SJ} {D : EJ} {l : List J} {ρ : Rho} {s : Sto} (h : forJ st gj b D l ρ s) : st s := by
  cases l <;> exact h.1
theorem ss_for (hi : Si K W ti pi) (hg : Sg K g gj) (hb : Ss K W t q) : Ss K W (tFor ti g t) (jFor pi gj q) := by
  intro F D DV ρ s σ H a e h
  refine hi F ρ s σ H _ _ _ a (fun I s1 h1 Jt H1 l1 st1 it => ?_) (er_x (G := H) a e) h
  have e1 := e.up l1
  refine ⟨fun i m σ' H' => m = I.items.length - i ∧ i ≤ I.items.length ∧ ∃ ρ' s', Le (mask F s1 H1) (mask F s' H') ∧ At K F ρ' s' σ' H' ∧ forJ I.st gj q D (I.items.drop i) ρ' s', ⟨_, rfl, Nat.zero_le _, ρ, s1, .refl, a.to l1 st1, h1⟩, ?_⟩
  rintro i m σ2 H2 ⟨rfl, hi, ρ2, s2, l2, a2, h2⟩
  have z := it F i s2 H2 l2 a2.st (forJ_st h2)
  by_cases hlt : i < I.items.length
  · have dr : I.items.drop i = I.items[i] :: I.items.drop (i + 1) := (List.drop_eq_getElem_cons hlt)
    rw [dr] at h2
    obtain ⟨go, yl⟩ := z.1 hlt
    refine .inr ⟨go, fun σ' H' => i + 1 ≤ I.items.length ∧ ∃ ρ' s', Le (mask F s1 H1) (mask F s' H') ∧ At K F ρ' s' σ' H' ∧ forJ I.st gj q D (I.items.drop (i + 1)) ρ' s', fun σ' H' p => ⟨I.items.length - (i + 1), by omega, rfl, p.1, p.2⟩, fun x H3 y => ?_⟩
    obtain ⟨l3, st3, d, ed, jd⟩ := yl x H3 y
    rw [List.getElem?_eq_getElem hlt] at ed
    cases ed
    refine hg F x _ ρ2 s2 σ2 H3 _ _ (a2.to l3 st3) jd (fun ρ4 s4 h4 σ4 H4 l4 a4 => ?_) h2.2
    have L := (l2.trans l3).trans l4
    refine hb F { D with nx := forJ I.st gj q D (I.items.drop (i + 1)), ct := forJ I.st gj q D (I.items.drop (i + 1)), bk := D.nx } _ ρ4 s4 σ4 H4 a4 ⟨?_, fun d s h => (e1.rt d s h).up L, ?_, ?_, (e1.up L).xr⟩ h4
    · intro ρ' s' σ' H' h' l' a'
      exact ⟨hlt, ρ', s', L.trans l', a', h'⟩
    · intro ρ' s' σ' H' h' l' a'
      exact e1.nx ρ' s' σ' H' h' (L.trans l') a'
    · intro ρ' s' σ' H' h' l' a'
      exact ⟨hlt, ρ', s', L.trans l', a', h'⟩
  · have q : i = I.items.length := by omega
    subst q
    rw [List.drop_length] at h2
    exact .inl ⟨z.2 rfl, e1.nx ρ2 s2 σ2 H2 h2.2 l2 a2⟩
theorem upd_none {F : Hp} {D a : Addr} {o : HO} (h : upd F D o a = none) : a ≠ D ∧ F a = none := by
  by_cases e : a = D
  · subst e
    rw [upd_same] at h
    cases h
  · rw [upd_ne e] at h
    exact ⟨e, h⟩
theorem mask_hid {F : Hp} {s : Sto} {H : Hp} {D : Addr} {o u : HO} : mask (upd F D o) s (upd H D u) = mask (upd F D o) s H := by
  funext b
  unfold mask
  by_cases e : b = D
  · subst e
    rw [upd_same]
  · rw [upd_ne e, upd_ne e]
theorem mask_hid2 {F : Hp} {s : Sto} {H : Hp} {D : Addr} {o u : HO} : mask (upd F D o) s H = mask (upd F D u) s H := by
  funext b
  unfold mask
  by_cases e : b = D
  · subst e
    rw [upd_same, upd_same]
  · rw [upd_ne e, upd_ne e]
theorem Le.hid {F : Hp} {s : Sto} {H : Hp} {D : Addr} {o : HO} (e : H D = none) : Le (mask F s H) (mask (upd F D o) s (upd H D o)) := fun a u q => by
  obtain ⟨h1, h2, h3⟩ := of_mask q
  have n := ne_of_none h3 e
  exact ⟨u, by rw [mask_none (by rw [upd_ne n]; exact h1) h2, upd_ne n]; exact h3, .inl rfl⟩
theorem Stt.hid {F : Hp} {s : Sto} {H : Hp} {D : Addr} {o : HO} (t : Stt K F s H) (e : H D = none) : Stt K (upd F D o) s (upd H D o) := by
  refine ⟨fun a u q => ?_, fun a u q => ?_⟩
  · obtain ⟨h1, h, h3, h4⟩ := t.sk a u q
    have n := ne_of_none h3 e
    exact ⟨by rw [upd_ne n]; exact h1, h, by rw [upd_ne n]; exact h3, h4.up (Le.hid e)⟩
  · by_cases n : a = D
    · subst n
      rw [upd_same] at q ⊢
      exact q
    · rw [upd_ne n] at q ⊢
      exact t.fr a u q
theorem Stt.hidW {F : Hp} {s : Sto} {H : Hp} {D : Addr} {o u : HO} (t : Stt K (upd F D o) s H) : Stt K (upd F D u) s (upd H D u) := by
  refine ⟨fun a v q => ?_, fun a v q => ?_⟩
  · obtain ⟨h1, h, h3, h4⟩ := t.sk a v q
    obtain ⟨n, h1⟩ := upd_none h1
    refine ⟨by rw [upd_ne n]; exact h1, h, by rw [upd_ne n]; exact h3, ?_⟩
    rw [mask_hid, mask_hid2 (o := u) (u := o)]
    exact h4
  · by_cases n : a = D
    · subst n
      rw [upd_same] at q ⊢
      exact q
    · rw [upd_ne n] at q ⊢
      exact t.fr a v (by rw [upd_ne n]; exact q)
theorem Le.hidOut {F : Hp} {s : Sto} {H : Hp} {D : Addr} {o : HO} : Le (mask (upd F D o) s H) (mask F s H) := fun a u q => by
  obtain ⟨h1, h2, h3⟩ := of_mask q
  exact ⟨u, by rw [mask_none (upd_none h1).2 h2]; exact h3, .inl rfl⟩
theorem Stt.hidOut {F : Hp} {s : Sto} {H : Hp} {D : Addr} {o : HO} (t : Stt K (upd F D o) s H) (e : F D = none) : Stt K F s H ∧ s D = none ∧ H D = some o := by
  refine ⟨⟨fun a u q => ?_, fun a u q => ?_⟩, ?_, t.fr D o upd_same⟩
  · obtain ⟨h1, h, h3, h4⟩ := t.sk a u q
    exact ⟨(upd_none h1).2, h, h3, h4.up .hidOut⟩
  · have n : a ≠ D := fun z => by rw [z, e] at q; cases q
    exact t.fr a u (by rw [upd_ne n]; exact q)
  · cases z : s D with
    | none => rfl
    | some o =>
      have := (t.sk D o z).1
      rw [upd_same] at this
      cases this
theorem Le.hidOwn {F : Hp} {s : Sto} {H : Hp} {D : Addr} {o : HO} {u : O} : Le (mask (upd F D o) s H) (mask F (put s D u) H) := fun a v q => by
  obtain ⟨h1, h2, h3⟩ := of_mask q
  obtain ⟨n, h1⟩ := upd_none h1
  exact ⟨v, by rw [mask_none h1 (by rw [put_ne n]; exact h2)]; exact h3, .inl rfl⟩
theorem Stt.hidOwn {F : Hp} {s : Sto} {H : Hp} {D : Addr} {o : HO} {u : O} (t : Stt K (upd F D o) s H) (e : F D = none) (w : Oh K (mask (upd F D o) s H) o u) : Stt K F (put s D u) H := by
  refine ⟨fun a v q => ?_, (t.hidOut e).1.fr⟩
  by_cases n : a = D
  · subst n
    rw [put_same] at q
    cases q
    exact ⟨e, o, t.fr _ o upd_same, w.up .hidOwn⟩
  · rw [put_ne n] at q
    obtain ⟨h1, h, h3, h4⟩ := t.sk a v q
    exact ⟨(upd_none h1).2, h, h3, h4.up .hidOwn⟩
theorem lcJ_st {st : Sto → Prop} {ρ : Rho} {Q : List J → Sto → Prop} {l acc : List J} {s : Sto} (h : lcJ st gj pt pe ρ Q l acc s) : st s := by
  cases l <;> exact h.1
theorem lc_core {F : Hp} {ρ : Rho} {s : Sto} {σ : L2.St} {H : Hp} {Q : List J → Sto → Prop} {R : XJ} {QV : VK} (hi : Si K W ti pi) (hg : Sgw K vs g gj) (ht : Sb K W0 tt pt) (he : Se K W0 te pe) (a : At K F ρ s σ H)
    (hQ : ∀ acc s', Q acc s' → ∀ D xs H', F D = none → Le (mask F s H) (mask (upd F D (.lst xs)) s' H') → Stt K (upd F D (.lst xs)) s' H' → Jps K (mask (upd F D (.lst xs)) s' H') xs acc → QV (.ref D) H')
    (hR : ∀ c fs s', R c fs s' → Xk K F (mask F s H) (fun cl d H' => W cl d σ H') c fs s') (h : pi ρ s (fun I s1 => lcJ I.st gj pt pe (wipeJ ρ vs) Q I.items [] s1) R) : tLc ti g tt te vs σ H QV := by
  refine hi F ρ s σ H _ R _ a (fun I s1 h1 Jt H1 l1 st1 it D hD => ?_) hR h
  have fD := (st1.fresh hD).2
  refine ⟨fun i m H' => m = I.items.length - i ∧ i ≤ I.items.length ∧ ∃ acc s' xs, Le (mask F s1 H1) (mask (upd F D (.lst xs)) s' H') ∧ Stt K (upd F D (.lst xs)) s' H' ∧ Jps K (mask (upd F D (.lst xs)) s' H') xs acc ∧ lcJ I.st gj pt pe (wipeJ ρ vs) Q (I.items.drop i) acc s',
    ⟨_, rfl, Nat.zero_le _, [], s1, [], .hid hD, st1.hid hD, .nil, h1⟩, ?_⟩
  rintro i m H2 ⟨rfl, hi, acc, s2, xs, l2, st2, j2, h2⟩
  have z := it _ i s2 H2 l2 st2 (lcJ_st h2)
  by_cases hlt : i < I.items.length
  · have dr : I.items.drop i = I.items[i] :: I.items.drop (i + 1) := (List.drop_eq_getElem_cons hlt)
    rw [dr] at h2
    obtain ⟨go, yl⟩ := z.1 hlt
    refine .inr ⟨go, fun H' => i + 1 ≤ I.items.length ∧ ∃ acc s' xs, Le (mask F s1 H1) (mask (upd F D (.lst xs)) s' H') ∧ Stt K (upd F D (.lst xs)) s' H' ∧ Jps K (mask (upd F D (.lst xs)) s' H') xs acc ∧ lcJ I.st gj pt pe (wipeJ ρ vs) Q (I.items.drop (i + 1)) acc s',
      fun H' p => ⟨I.items.length - (i + 1), by omega, rfl, p.1, p.2⟩, fun x H3 y => ?_⟩
    obtain ⟨l3, st3, d, ed, jd⟩ := yl x H3 y
    rw [List.getElem?_eq_getElem hlt] at ed
    cases ed
    have a3 : At K (upd F D (.lst xs)) (wipeJ ρ vs) s2 (wipe σ vs) H3 := ⟨(a.rs.wipe vs).up ((l1.trans l2).trans l3), st3⟩
    refine hg _ x _ _ s2 _ H3 _ _ a3 jd (fun ρ4 s4 h4 σ4 H4 l4 a4 w4 => ?_) h2.2
    refine ⟨w4.trans (by
      have : ∀ ws : List Nat, (∀ i ∈ ws, i ∈ vs) → wipe (wipe σ ws) vs = wipe σ vs := fun ws hw => by
        induction ws with
        | nil => rfl
        | cons i ws ih =>
          show wipe ((wipe σ ws).set i none) vs = wipe σ vs
          rw [wipe_set (hw i List.mem_cons_self)]
          exact ih fun j hj => hw j (List.mem_cons_of_mem _ hj)
      exact this vs fun _ h => h), ?_⟩
    refine ht _ ρ4 s4 σ4 H4 _ No _ a4 (fun b s5 h5 H5 l5 st5 => ?_) (fun _ _ _ z => z.elim) h4
    have L5 := ((l2.trans l3).trans l4).trans l5
    cases b with
    | true =>
      refine he _ ρ4 s5 σ4 H5 _ No _ (a4.to l5 st5) (fun y s6 h6 v6 H6 l6 st6 j6 => ?_) (fun _ _ _ z => z.elim) h5
      have j7 := ((((j2.up l3).up l4).up l5).up l6).append (.cons j6 .nil)
      refine ⟨xs, st6.fr D _ upd_same, by rw [j2.length]; exact Nat.lt_of_lt_of_le h6.1 (by decide), hlt, _, s6, xs ++ [v6], ?_, st6.hidW, ?_, h6.2⟩
      · rw [mask_hid, mask_hid2 (u := .lst xs)]
        exact L5.trans l6
      · rw [mask_hid, mask_hid2 (u := .lst xs)]
        exact j7
    | false => exact ⟨hlt, acc, s5, xs, L5, st5, ((j2.up l3).up l4).up l5, h5⟩
  · have q : i = I.items.length := by omega
    subst q
    rw [List.drop_length] at h2
    exact .inl ⟨z.2 rfl, hQ acc s2 h2.2 D xs H2 fD (l1.trans l2) st2 j2⟩
theorem se_lc (hi : Si K W ti pi) (hg : Sgw K vs g gj) (ht : Sb K W0 tt pt) (he : Se K W0 te pe) : Se K W (tLc ti g tt te vs) (jLc pi gj pt pe vs) := by
  intro F ρ s σ H Q R QV a hQ hR h
  refine lc_core hi hg ht he a (fun acc s' q D xs H' fD l st j => ?_) hR h
  obtain ⟨st2, e1, e2⟩ := st.hidOut fD
  exact hQ _ s' q _ H' (l.trans .hidOut) st2 (.lst (by rw [mask_none fD e1]; exact e2) (j.up .hidOut))
def jYes : BJ := fun _ s Q _ => Q true s
theorem sb_yes : Sb K W tYes jYes := fun F ρ s σ H Q R QV a hQ _ q => hQ true s q H .refl a.st
/-- a list's items: seen or of the store -/
def lstOf (s : Sto) : J → Option (List J)
  | .lst l => some l
  | .own a => match s a with
    | some (.lst l) => some l
    | _ => none
  | .scr l => some (l.map J.int)
  | _ => none
theorem jp_list {F : Hp} {s : Sto} {H : Hp} {v : V} {d : J} {l : List J} (t : Stt K F s H) (j : Jp K (mask F s H) v d) (e : lstOf s d = some l) : ∃ a xs, v = .ref a ∧ SqL K H a xs ∧ Jps K (mask F s H) xs l := by
  cases j with
  | lst h r => cases e; exact ⟨_, _, rfl, .inl (.inl (of_mask h).2.2), r⟩
  | own a =>
    unfold lstOf at e
    dsimp only at e
    split at e
    · rename_i l' q
      cases e
      obtain ⟨xs, h, r⟩ := t.lst q
      exact ⟨_, _, rfl, .inl (.inl h), r⟩
    · cases e
  | scr h =>
    cases e
    refine ⟨_, _, rfl, sql_mask h, ?_⟩
    rename_i a l
    clear h
    induction l with
    | nil => exact .nil
    | cons i l ih => exact .cons (.int i) ih
  | _ => cases e
/-- as a list that may be read exactly -/
def lstX (s : Sto) : J → Option (List J)
  | .lst l => some l
  | .own a => match s a with
    | some (.lst l) => some l
    | _ => none
  | _ => none
theorem jp_lstX {F : Hp} {s : Sto} {H : Hp} {v : V} {d : J} {l : List J} (t : Stt K F s H) (j : Jp K (mask F s H) v d) (e : lstX s d = some l) : ∃ a xs, v = .ref a ∧ H a = some (.lst xs) ∧ Jps K (mask F s H) xs l := by
  cases j with
  | lst h r => cases e; exact ⟨_, _, rfl, (of_mask h).2.2, r⟩
  | own a =>
    unfold lstX at e
    dsimp only at e
    split at e
    · rename_i l' q
      cases e
      obtain ⟨xs, h, r⟩ := t.lst q
      exact ⟨_, _, rfl, h, r⟩
    · cases e
  | _ => cases e
def stOf (s : Sto) (d : J) : Sto → Prop := match d with
  | .own a => fun s' => s' a = s a
  | _ => fun _ => True
/-- the list as it is, at each turn -/
theorem list_it {F : Hp} {s : Sto} {H : Hp} {v : V} {d : J} {l : List J} (t : Stt K F s H) (j : Jp K (mask F s H) v d) (e : lstOf s d = some l) : ∃ a, v = .ref a ∧ (∃ xs, SqL K H a xs) ∧
    ∀ (F' : Hp) (s' : Sto) (H' : Hp), Le (mask F s H) (mask F' s' H') → Stt K F' s' H' → stOf s d s' → ∃ xs, SqL K H' a xs ∧ Jps K (mask F' s' H') xs l := by
  obtain ⟨a, xs, rfl, h, r⟩ := jp_list t j e
  refine ⟨a, rfl, ⟨xs, h⟩, fun F' s' H' le st hst => ?_⟩
  have e' : lstOf s' d = some l := by
    cases d with
    | own b =>
      unfold stOf at hst
      dsimp only at hst
      unfold lstOf at e ⊢
      dsimp only at e ⊢
      rw [hst]
      exact e
    | _ => exact e
  obtain ⟨b, ys, eb, h2, r2⟩ := jp_list st (j.up le) e'
  cases eb
  exact ⟨ys, h2, r2⟩
end
end M

namespace M
open PySem PySem.Spec PyProof.Rows L2
def iU (K : PySem.W.Frag) (tl : TE) : TI := fun σ H R => tl σ H fun x H1 => (∃ a, x = .ref a ∧ (∃ xs, SqL K H1 a xs) ∧ R (Itl K a) H1) ∨ ((∃ a, x = .ref a ∧ (∃ xs, SqT K H1 a xs) ∧ R (Itt K a) H1) ∨ ∃ z, x = .str z ∧ R (Its z) H1)
theorem pi_U {X : Cx} {tg l : Expr} {tl : TE} (hl : PE X l tl) : PI X tg l (iU X.K tl) := by
  refine ⟨fun pins s σ H R I h => ?_⟩
  refine thn (hl.run pins s σ H _ I h) fun v s1 ⟨x, H1, I1, r1, q1⟩ => ?_
  rcases q1 with ⟨a, e, ⟨xs, hq⟩, q⟩ | ⟨a, e, ⟨xs, hq⟩, q⟩ | ⟨z, e, q⟩
  · subst e
    cases r1
    obtain ⟨its, rv, p, hz⟩ := I1.list hq
    exact wpAny_pyIter_list p.isList (pi_one (tk := s1.toks) I1 _ (turn_list a _) ⟨_, Heap.get?_push_size _ rfl, rfl, rfl⟩ q)
  · subst e
    cases r1
    obtain ⟨its, rv, p, hz⟩ := I1.tuple hq
    exact wpAny_pyIter_tuple (show s1.heap.IsTuple a its.toArray from p) (pi_one (tk := s1.toks) I1 _ (turn_tuple a _) ⟨_, Heap.get?_push_size _ rfl, rfl, rfl⟩ q)
  · subst e
    obtain ⟨t, rfl⟩ := r1
    cases ha : z.cps.all (· < 128)
    · exact wpAny_pyIter_wide ha (pi_one (tk := s1.toks) I1 _ (turn_str _ z t "str_iterator" (.inr rfl)) ⟨_, Heap.get?_push_size _ rfl, rfl, rfl⟩ q)
    · exact wpAny_pyIter_ascii ha (pi_one (tk := s1.toks) I1 _ (turn_str _ z t "str_ascii_iterator" (.inl rfl)) ⟨_, Heap.get?_push_size _ rfl, rfl, rfl⟩ q)
/-- a text's sgns -/
def sgns (z : Str) : List J := z.cps.toList.map fun c => .str ⟨#[c]⟩
/-- the items of a thing that is walked -/
def itsOf (s : Sto) : J → Option (List J)
  | .tup l => some l
  | .str z => some (sgns z)
  | d => lstOf s d
def jIU (p : TJ) : IJ := fun ρ s Q R => p ρ s (fun d s1 => ∃ l, itsOf s1 d = some l ∧ Q ⟨l, stOf s1 d⟩ s1) R
def jRng1 (a : AJ) : IJ := fun ρ s Q R => a ρ s (fun xs s1 => ∃ j : Int, xs = [.int j] ∧ (j < 2 ^ 62 ∧ -(2 ^ 62) ≤ j) ∧ Q ⟨(List.range j.toNat).map fun (i : Nat) => J.int ((i : Nat) : Int), fun _ => True⟩ s1) R
def jEnum (a : AJ) : IJ := fun ρ s Q R => a ρ s (fun xs s1 => ∃ d l, xs = [d] ∧ lstOf s1 d = some l ∧ Q ⟨(List.range l.length).map fun (i : Nat) => J.tup [.int (i : Int), l.getD i .non], stOf s1 d⟩ s1) R
section
variable {K : PySem.W.Frag} {W : WX} {ta te : TE} {pa pe : TJ} {xa : TA} {qa : AJ}
theorem it_list {F : Hp} {s : Sto} {H : Hp} {v : V} {d : J} {l : List J} (t : Stt K F s H) (j : Jp K (mask F s H) v d) (e : lstOf s d = some l) : ∃ a, v = .ref a ∧ (∃ xs, SqL K H a xs) ∧ ItRel K (mask F s H) ⟨l, stOf s d⟩ (Itl K a) := by
  obtain ⟨a, rfl, hx, w⟩ := list_it t j e
  refine ⟨a, rfl, hx, fun F' i s' H' le st hst => ?_⟩
  obtain ⟨xs, h, r⟩ := w F' s' H' le st hst
  have hl := r.length
  refine ⟨fun hi => ?_, fun hi => ⟨xs, h, by rw [hl]; exact Nat.le_of_eq hi.symm⟩⟩
  have hi' : i < l.length := hi
  refine ⟨⟨xs, xs[i], h, by simp [show i < xs.length by omega]⟩, fun x H2 y => ?_⟩
  obtain ⟨rfl, y⟩ := y
  obtain ⟨d2, e2, j2⟩ := r.get' (y xs h)
  exact ⟨.refl, st, d2, e2, j2⟩
theorem it_tup {F : Hp} {s : Sto} {H : Hp} {v : V} {l : List J} (j : Jp K (mask F s H) v (.tup l)) : ∃ a, v = .ref a ∧ (∃ xs, SqT K H a xs) ∧ ItRel K (mask F s H) ⟨l, fun _ => True⟩ (Itt K a) := by
  cases j with | tup t r =>
  refine ⟨_, rfl, ⟨_, sqt_mask t⟩, fun F' i s' H' le st hst => ?_⟩
  have h := sqt_mask (le.sqt t)
  have hl := r.length
  refine ⟨fun hi => ?_, fun hi => ⟨_, h, by rw [hl]; exact Nat.le_of_eq hi.symm⟩⟩
  have hi' : i < l.length := hi
  rename_i a xs
  refine ⟨⟨xs, xs[i], h, by simp [show i < xs.length by omega]⟩, fun x H2 y => ?_⟩
  obtain ⟨rfl, y⟩ := y
  obtain ⟨d2, e2, j2⟩ := (r.up le).get' (y xs h)
  exact ⟨.refl, st, d2, e2, j2⟩
theorem it_str {G : Hp} {z : Str} : ItRel K G ⟨sgns z, fun _ => True⟩ (Its z) := by
  intro F i s H le st _
  have hl : (sgns z).length = z.cps.size := by unfold sgns; simp
  refine ⟨fun hi => ⟨by show i < z.cps.size; rw [← hl]; exact hi, fun x H' y => ?_⟩, fun hi => by show z.cps.size ≤ i; rw [← hl]; exact Nat.le_of_eq hi.symm⟩
  obtain ⟨rfl, c, hc, rfl⟩ := y
  exact ⟨.refl, st, _, by show (sgns z)[i]? = _; unfold sgns; rw [List.getElem?_map, Array.getElem?_toList, hc]; rfl, .str _⟩
theorem si_U (ha : Se K W ta pa) : Si K W (iU K ta) (jIU pa) := by
  intro F ρ s σ H Q R QV a hQ hR h
  refine ha F ρ s σ H _ R _ a (fun d s1 h1 v H1 l1 st1 j1 => ?_) hR h
  obtain ⟨l, e, q⟩ := h1
  have L : ∀ {e : lstOf s1 d = some l}, (∃ a, v = .ref a ∧ (∃ xs, SqL K H1 a xs) ∧ QV (Itl K a) H1) := fun {e} => by
    obtain ⟨a, rfl, hx, w⟩ := it_list st1 j1 e
    exact ⟨a, rfl, hx, hQ _ s1 q _ H1 l1 st1 w⟩
  cases d with
  | tup l' =>
    cases e
    obtain ⟨a, rfl, hx, w⟩ := it_tup j1
    exact .inr (.inl ⟨a, rfl, hx, hQ _ s1 q _ H1 l1 st1 w⟩)
  | str z =>
    cases e
    cases j1
    exact .inr (.inr ⟨z, rfl, hQ _ s1 q _ H1 l1 st1 it_str⟩)
  | _ => exact .inl (L (e := e))
theorem it_range {G : Hp} {lo : Int} {n : Nat} : ItRel K G ⟨(List.range n).map fun (i : Nat) => J.int (lo + (i : Int)), fun _ => True⟩ (Itr lo n) := by
  intro F i s H le st _
  have hl : ((List.range n).map fun (i : Nat) => J.int (lo + (i : Int))).length = n := by simp
  refine ⟨fun hi => ⟨by show i < n; rw [← hl]; exact hi, fun x H' y => ?_⟩, fun hi => by show n ≤ i; rw [← hl]; exact Nat.le_of_eq hi.symm⟩
  obtain ⟨rfl, rfl⟩ := y
  have hi' : i < n := by rw [← hl]; exact hi
  exact ⟨.refl, st, _, by show ((List.range n).map _)[i]? = _; rw [List.getElem?_map, List.getElem?_range hi']; rfl, .int _⟩
theorem si_rng1 (ha : Sa K W xa qa) : Si K W (iRng1 xa) (jRng1 qa) := by
  intro F ρ s σ H Q R QV a hQ hR h
  refine ha F ρ s σ H _ R _ a (fun d s1 h1 v H1 l1 st1 j1 => ?_) hR h
  obtain ⟨j, rfl, ⟨b1, b2⟩, q⟩ := h1
  cases j1 with | cons j1 jj =>
  cases jj
  cases j1
  refine ⟨j, rfl, b2, b1, hQ _ s1 q _ H1 l1 st1 ?_⟩
  have := it_range (K := K) (G := mask F s1 H1) (lo := 0) (n := j.toNat)
  simp only [Int.zero_add] at this
  exact this
theorem mask_new {F : Hp} {s : Sto} {H : Hp} {p : Addr} {o : HO} (t : Stt K F s H) (hp : H p = none) : mask F s (upd H p o) p = some o := by
  rw [mask_none (t.fresh hp).2 (t.fresh hp).1]
  exact upd_same
theorem si_enum (ha : Sa K W xa qa) : Si K W (iEnum K xa) (jEnum qa) := by
  intro F ρ s σ H Q R QV a hQ hR h
  refine ha F ρ s σ H _ R _ a (fun d s1 h1 v H1 l1 st1 j1 => ?_) hR h
  obtain ⟨d, l, rfl, e, q⟩ := h1
  cases j1 with | cons j1 jj =>
  cases jj
  obtain ⟨a, rfl, ⟨xs, hx⟩, w⟩ := list_it st1 j1 e
  refine ⟨a, xs, rfl, hx, hQ _ s1 q _ H1 l1 st1 fun F' i s' H' le st hst => ?_⟩
  obtain ⟨ys, h, r⟩ := w F' s' H' le st hst
  have hl := r.length
  have hn : ((List.range l.length).map fun (i : Nat) => J.tup [.int (i : Int), l.getD i .non]).length = l.length := by simp
  refine ⟨fun hi => ?_, fun hi => ⟨ys, h, by rw [hl, ← hn]; exact Nat.le_of_eq hi.symm⟩⟩
  have hi' : i < l.length := by rw [← hn]; exact hi
  refine ⟨⟨ys, ys[i], h, by simp [show i < ys.length by omega]⟩, fun x H2 y => ?_⟩
  obtain ⟨T, x2, rfl, hT, rfl, y⟩ := y
  obtain ⟨d2, e2, j2⟩ := r.get' (y ys h)
  refine ⟨.new hT, st.new hT, _, by show ((List.range l.length).map _)[i]? = _; rw [List.getElem?_map, List.getElem?_range hi']; rfl, .tup (.inl (.inl (mask_new st hT))) (.cons (.int _) (.cons ?_ .nil))⟩
  rw [show l.getD i .non = d2 by rw [List.getD_eq_getElem?_getD, e2]; rfl]
  exact j2.up (.new hT)
def addJ (x y : J) (s : Sto) (Q : QJ) : Prop := match x, y with
  | .int i, .int j => Q (.int (i + j)) s
  | .str a, .str b => a.length + b.length ≤ 100000 ∧ Q (.str (a ++ b)) s
  | .tup a, .tup b => a.length + b.length ≤ 100000 ∧ Q (.tup (a ++ b)) s
  | x, y => ∃ a b, lstX s x = some a ∧ lstX s y = some b ∧ a.length + b.length ≤ 100000 ∧ Q (.lst (a ++ b)) s
def uAdd (K : PySem.W.Frag) : R2 := fun x y H Q => rI0 (fun i j => .int (i + j)) x y H Q ∨ ((∃ i j, x = .str i ∧ y = .str j ∧ i.length + j.length ≤ sizeLine ∧ Q (.str (i ++ j)) H) ∨ (rCat x y H Q ∨ rCatA K x y H Q))
theorem op_addU {X : Cx} : OpR X (binaryOp .Add) (uAdd X.K) := OpR.or op_add (OpR.or op_add_str (OpR.or op_cat op_catA))
theorem cat_list {F : Hp} {s : Sto} {H : Hp} {v u : V} {x y : J} {a b : List J} {QV : VK} (t : Stt K F s H) (jx : Jp K (mask F s H) v x) (jy : Jp K (mask F s H) u y) (ex : lstX s x = some a) (ey : lstX s y = some b) (hz : a.length + b.length ≤ 100000)
    (q : ∀ p xs, H p = none → Jps K (mask F s H) xs (a ++ b) → QV (.ref p) (upd H p (.lst xs))) : uAdd K v u H QV := by
  obtain ⟨p1, xs, rfl, h1, r1⟩ := jp_lstX t jx ex
  obtain ⟨p2, ys, rfl, h2, r2⟩ := jp_lstX t jy ey
  refine .inr (.inr (.inl ⟨p1, p2, xs, ys, rfl, rfl, h1, h2, ?_, fun p hp => q p _ hp (r1.append r2)⟩))
  have e1 := r1.length
  have e2 := r2.length
  exact Nat.le_trans (by omega : xs.length + ys.length ≤ 100000) (by decide)
theorem so_add : So K (uAdd K) addJ := by
  intro F s H v u x y Q QV t jx jy hQ h
  have L : (∃ a b, lstX s x = some a ∧ lstX s y = some b ∧ a.length + b.length ≤ 100000 ∧ Q (.lst (a ++ b)) s) → uAdd K v u H QV := by
    rintro ⟨a, b, ex, ey, hz, q⟩
    exact cat_list t jx jy ex ey hz fun p xs hp r => hQ _ s q _ _ (.new hp) (t.new hp) (.lst (mask_new t hp) (r.up (.new hp)))
  unfold addJ at h
  split at h
  · cases jx; cases jy
    exact .inl ⟨_, _, rfl, rfl, hQ _ s h _ H .refl t (.int _)⟩
  · cases jx; cases jy
    exact .inr (.inl ⟨_, _, rfl, rfl, Nat.le_trans h.1 (by decide), hQ _ s h.2 _ H .refl t (.str _)⟩)
  · cases jx with | tup h1 r1 =>
    cases jy with | tup h2 r2 =>
    have e1 := r1.length
    have e2 := r2.length
    refine .inr (.inr (.inr ⟨_, _, _, _, rfl, rfl, sqt_mask h1, sqt_mask h2, Nat.le_trans (by omega) (show 100000 ≤ sizeLine by decide), fun e => ?_, fun n e => ?_, fun n1 n2 p hp => ?_⟩))
    · subst e
      cases r1
      exact hQ _ s h.2 _ H .refl t (.tup h2 r2)
    · subst e
      cases r2
      have q := h.2
      rw [List.append_nil] at q
      exact hQ _ s q _ H .refl t (.tup h1 r1)
    · exact hQ _ s h.2 _ _ (.new hp) (t.new hp) (.tup (.inl (.inl (mask_new t hp))) ((r1.append r2).up (.new hp)))
  · exact L h
/-- a bound far beyond the laws' numbers -/
def Big : Nat := 2 ^ 8900
theorem big_le : 10 ^ 200 ≤ Big := by unfold Big; decide +kernel
theorem cmulB {i j : Int} (h : i.natAbs < Big) (h' : j.natAbs < Big) : CMulW i j := wide_mul (a := 8900) (b := 8900) h h' (by decide) (by decide) (by decide)
theorem cdivB {i j : Int} (h : 0 < j) (h' : j.natAbs < Big) : CDivW i j := wide_div h (b := 8900) h' (by decide) (by decide)
def subJ (x y : J) (s : Sto) (Q : QJ) : Prop := ∃ i j, x = .int i ∧ y = .int j ∧ Q (.int (i - j)) s
def mulJ (x y : J) (s : Sto) (Q : QJ) : Prop := match x, y with
  | .int i, .int j => (i.natAbs < Big ∧ j.natAbs < Big) ∧ Q (.int (i * j)) s
  | x, .int j => ∃ a, lstX s x = some a ∧ (0 ≤ j ∧ a.length * j.toNat ≤ 100000 ∧ j < 2 ^ 62) ∧ Q (.lst (List.replicate j.toNat a).flatten) s
  | _, _ => False
def divJ (x y : J) (s : Sto) (Q : QJ) : Prop := ∃ i j, x = .int i ∧ y = .int j ∧ (0 < j ∧ j.natAbs < Big) ∧ Q (.int (i / j)) s
def modJ (x y : J) (s : Sto) (Q : QJ) : Prop := ∃ i j, x = .int i ∧ y = .int j ∧ 0 < j ∧ Q (.int (i % j)) s
def powJ (x y : J) (s : Sto) (Q : QJ) : Prop := ∃ i j, x = .int i ∧ y = .int j ∧ (0 ≤ j ∧ j ≤ 1000000 ∧ i.natAbs < 2 ^ 64) ∧ Q (.int (i ^ j.toNat)) s
def cmpJ (f : Int → Int → Bool) (x y : J) (s : Sto) (Q : QJ) : Prop := ∃ i j, x = .int i ∧ y = .int j ∧ Q (.bl (f i j)) s
def negJ (x : J) (s : Sto) (Q : QJ) : Prop := ∃ i, x = .int i ∧ Q (.int (-i)) s
abbrev mSub : R2 := rI0 fun i j => .int (i - j)
abbrev mDiv : R2 := rI CDivW fun i j => .int (i / j)
abbrev mMod : R2 := rI (fun _ j => 0 < j) fun i j => .int (i % j)
abbrev mPow : R2 := rI CPow fun i j => .int (i ^ j.toNat)
abbrev mNeg : V → Hp → VK → Prop := rU fun i => .int (-i)
abbrev ltJ := cmpJ fun i j => decide (i < j)
abbrev leJ := cmpJ fun i j => decide (i ≤ j)
abbrev gtJ := cmpJ fun i j => decide (j < i)
abbrev geJ := cmpJ fun i j => decide (j ≤ i)
theorem so_sub : So K mSub subJ := by
  intro F s H v u x y Q QV t jx jy hQ h
  obtain ⟨i, j, rfl, rfl, q⟩ := h
  cases jx; cases jy
  exact ⟨i, j, rfl, rfl, hQ _ s q _ H .refl t (.int _)⟩
theorem so_cmp {f : Int → Int → Bool} : So K (rI0 fun i j => .bl (f i j)) (cmpJ f) := by
  intro F s H v u x y Q QV t jx jy hQ h
  obtain ⟨i, j, rfl, rfl, q⟩ := h
  cases jx; cases jy
  exact ⟨i, j, rfl, rfl, hQ _ s q _ H .refl t (.bl _)⟩
theorem so_div : So K mDiv divJ := by
  intro F s H v u x y Q QV t jx jy hQ h
  obtain ⟨i, j, rfl, rfl, c, q⟩ := h
  cases jx; cases jy
  exact ⟨i, j, rfl, rfl, cdivB c.1 c.2, hQ _ s q _ H .refl t (.int _)⟩
theorem so_mod : So K mMod modJ := by
  intro F s H v u x y Q QV t jx jy hQ h
  obtain ⟨i, j, rfl, rfl, c, q⟩ := h
  cases jx; cases jy
  exact ⟨i, j, rfl, rfl, c, hQ _ s q _ H .refl t (.int _)⟩
theorem so_pow : So K mPow powJ := by
  intro F s H v u x y Q QV t jx jy hQ h
  obtain ⟨i, j, rfl, rfl, c, q⟩ := h
  cases jx; cases jy
  exact ⟨i, j, rfl, rfl, c, hQ _ s q _ H .refl t (.int _)⟩
theorem so1_neg : So1 K mNeg negJ := by
  intro F s H v x Q QV t jx hQ h
  obtain ⟨i, rfl, q⟩ := h
  cases jx
  exact ⟨i, rfl, hQ _ s q _ H .refl t (.int _)⟩
def uMul (K : PySem.W.Frag) : R2 := fun x y H Q => rI CMulW (fun i j => .int (i * j)) x y H Q ∨ rRep x y H Q
theorem so_mul : So K (uMul K) mulJ := by
  intro F s H v u x y Q QV t jx jy hQ h
  unfold mulJ at h
  split at h
  · cases jx; cases jy
    exact .inl ⟨_, _, rfl, rfl, cmulB h.1.1 h.1.2, hQ _ s h.2 _ H .refl t (.int _)⟩
  · obtain ⟨a, e, hz, q⟩ := h
    cases jy
    obtain ⟨p1, xs, rfl, h1, r1⟩ := jp_lstX t jx e
    rename_i j _
    have hl := r1.length
    refine .inr ⟨p1, j, xs, rfl, rfl, h1, by omega, ?_, by rw [hl]; exact Nat.le_trans hz.2.1 (by decide), fun p hp => ?_⟩
    · have := hz.2.2
      omega
    · have go : ∀ n : Nat, Jps K (mask F s H) (List.replicate n xs).flatten (List.replicate n a).flatten := fun n => by
        induction n with
        | zero => exact .nil
        | succ n ih =>
          rw [List.replicate_succ, List.replicate_succ, List.flatten_cons, List.flatten_cons]
          exact r1.append ih
      exact hQ _ s q _ _ (.new hp) (t.new hp) (.lst (mask_new t hp) ((go _).up (.new hp)))
  · exact h.elim
theorem op_mulU {X : Cx} : OpR X (binaryOp .Mult) (uMul X.K) := OpR.or op_mulW op_rep
end
end M

namespace M
open PySem PySem.Spec PyProof.Rows L2
mutual
def J.py : J → PyData
  | .bl b => .bool b
  | .int i => .int i
  | .str s => .str s
  | .lst l => .list (J.pys l)
  | .tup l => .tuple (J.pys l)
  | _ => .none
def J.pys : List J → List PyData
  | [] => []
  | d :: r => d.py :: J.pys r
end
mutual
/-- at most n deep, no dict, no object -/
def J.okd : Nat → J → Bool
  | _, .non => true
  | _, .bl _ => true
  | _, .int _ => true
  | _, .str s => decide (s.length ≤ 100000) && s.cps.all (· < 0x110000)
  | n + 1, .lst l => J.oks n l
  | n + 1, .tup l => J.oks n l
  | _, _ => false
def J.oks : Nat → List J → Bool
  | _, [] => true
  | n, d :: r => J.okd n d && J.oks n r
end
abbrev J.ok (d : J) : Bool := J.okd 60 d
mutual
theorem okd_py : ∀ {n : Nat} {d : J}, J.okd n d = true → d.py.canLay0 = true ∧ d.py.depth ≤ n
  | _, .non, _ => by simp [J.py, PyData.canLay0, PyData.depth]
  | _, .bl _, _ => by simp [J.py, PyData.canLay0, PyData.depth]
  | _, .int _, _ => by simp [J.py, PyData.canLay0, PyData.depth]
  | _, .str s, h => by
    refine ⟨?_, by simp [J.py, PyData.depth]⟩
    unfold J.okd at h
    rw [Bool.and_eq_true] at h
    unfold J.py PyData.canLay0
    exact h.2
  | n + 1, .lst l, h => by
    unfold J.okd at h
    obtain ⟨h1, h2⟩ := oks_py h
    unfold J.py PyData.canLay0 PyData.depth
    exact ⟨h1, Nat.succ_le_succ h2⟩
  | n + 1, .tup l, h => by
    unfold J.okd at h
    obtain ⟨h1, h2⟩ := oks_py h
    unfold J.py PyData.canLay0 PyData.depth
    exact ⟨h1, Nat.succ_le_succ h2⟩
  | 0, .lst l, h => by unfold J.okd at h; cases h
  | 0, .tup l, h => by unfold J.okd at h; cases h
  | _, .dct _, h => by unfold J.okd at h; cases h
  | _, .obj _ _, h => by unfold J.okd at h; cases h
  | _, .scr _, h => by unfold J.okd at h; cases h
  | _, .own _, h => by unfold J.okd at h; cases h
  | _, .ty _, h => by unfold J.okd at h; cases h
  | _, .cls _, h => by unfold J.okd at h; cases h
  | _, .exc _ _ _, h => by unfold J.okd at h; cases h
  | _, .tupN _, h => by unfold J.okd at h; cases h
theorem oks_py : ∀ {n : Nat} {l : List J}, J.oks n l = true → PyData.canLayAll0 (J.pys l) = true ∧ PyData.depthAll (J.pys l) ≤ n
  | _, [], _ => by simp [J.pys, PyData.canLayAll0, PyData.depthAll]
  | n, d :: r, h => by
    unfold J.oks at h
    rw [Bool.and_eq_true] at h
    obtain ⟨a1, a2⟩ := okd_py h.1
    obtain ⟨b1, b2⟩ := oks_py h.2
    unfold J.pys PyData.canLayAll0 PyData.depthAll
    exact ⟨by rw [a1, b1]; rfl, Nat.max_le.mpr ⟨a2, b2⟩⟩
end
theorem shaped_of {d : J} (h : d.ok = true) : PySem.SeqAt.shaped d.py = true := by
  obtain ⟨h1, h2⟩ := okd_py h
  unfold PySem.SeqAt.shaped
  rw [h1, Bool.true_and]
  exact decide_eq_true (Nat.le_trans h2 (by decide))
section
variable {K : PySem.W.Frag} {G : Hp}
mutual
theorem Jp.dp : ∀ {n : Nat} {v : V} {d : J}, Jp K G v d → J.okd n d = true → Dp K G v d.py
  | _, _, _, .non, _ => by unfold J.py; exact .non
  | _, _, _, .bl b, _ => by unfold J.py; exact .bl b
  | _, _, _, .int b, _ => by unfold J.py; exact .int b
  | _, _, _, .str b, _ => by unfold J.py; exact .str b
  | 0, _, _, .lst h r, n => by unfold J.okd at n; cases n
  | 0, _, _, .tup h r, n => by unfold J.okd at n; cases n
  | _ + 1, _, _, .lst h r, n => by unfold J.okd at n; unfold J.py; exact .lst (.inl (.inl h)) (Jps.dp r n)
  | _ + 1, _, _, .tup h r, n => by unfold J.okd at n; unfold J.py; exact .tup h (Jps.dp r n)
  | _, _, _, .dct h _ r, n => by unfold J.okd at n; cases n
  | _, _, _, .obj h r, n => by unfold J.okd at n; cases n
  | _, _, _, .scr _, n => by unfold J.okd at n; cases n
  | _, _, _, .own _, n => by unfold J.okd at n; cases n
  | _, _, _, .ty _, n => by unfold J.okd at n; cases n
  | _, _, _, .cls _, n => by unfold J.okd at n; cases n
  | _, _, _, .exc _ _, n => by unfold J.okd at n; cases n
  | _, _, _, .tupN _ _ _, n => by unfold J.okd at n; cases n
theorem Jps.dp : ∀ {n : Nat} {v : List V} {d : List J}, Jps K G v d → J.oks n d = true → DpAll K G v (J.pys d)
  | _, _, _, .nil, _ => by unfold J.pys; exact .nil
  | _, _, _, .cons h r, n => by
    unfold J.oks at n
    rw [Bool.and_eq_true] at n
    unfold J.pys
    exact .cons (Jp.dp h n.1) (Jps.dp r n.2)
end
end
def eqJ (d e : J) : Bool := PyData.eqv d.py e.py
/-- a thing of the store as it stands -/
def res (s : Sto) : J → J
  | .own a => match s a with
    | some (.lst l) => .lst l
    | some (.dct l) => .dct l
    | some (.ins c l) => .obj c l
    | _ => .own a
  | d => d
def dctEq (ks ls : List (Key × J)) : Bool := ks.length == ls.length && ks.all fun kv => match valJ ls kv.1 with
  | some y => eqJ kv.2 y
  | none => false
def okKv (ks : List (Key × J)) : Prop := ∀ kv ∈ ks, kv.2.ok = true
def eqR (s : Sto) (x y : J) (f : Bool → Bool) (Q : QJ) : Prop := match x, y with
  | .int i, .int j => Q (.bl (f (decide (i = j)))) s
  | .str i, .str j => Q (.bl (f (decide (i = j)))) s
  | .bl i, .bl j => Q (.bl (f (decide (i = j)))) s
  | .str _, .non => Q (.bl (f false)) s
  | .non, .str _ => Q (.bl (f false)) s
  | .int _, .str _ => Q (.bl (f false)) s
  | .str _, .int _ => Q (.bl (f false)) s
  | .bl _, .str _ => Q (.bl (f false)) s
  | .str _, .bl _ => Q (.bl (f false)) s
  | x, y => (((res s x).ok = true ∧ (res s y).ok = true) ∧ Q (.bl (f (eqJ (res s x) (res s y)))) s) ∨ ∃ ks ls, res s x = .dct ks ∧ res s y = .dct ls ∧ (okKv ks ∧ okKv ls) ∧ Q (.bl (f (dctEq ks ls))) s
def eqRJ (x y : J) (s : Sto) (Q : QJ) : Prop := eqR s x y id Q
def neRJ (x y : J) (s : Sto) (Q : QJ) : Prop := eqR s x y (!·) Q
inductive HitsV (K : PySem.W.Frag) (H : Hp) (ls : List (Key × V)) : List (Key × V) → Bool → Prop
  | nil : HitsV K H ls [] true
  | miss {k : Key} {v : V} {r : List (Key × V)} : valV ls k = none → HitsV K H ls ((k, v) :: r) false
  | hit {k : Key} {v u : V} {d e : PyData} {r : List (Key × V)} {b : Bool} : valV ls k = some u → Dp K H v d → Dp K H u e → SeqAt.shaped d = true → SeqAt.shaped e = true → HitsV K H ls r b → HitsV K H ls ((k, v) :: r) (PyData.eqv d e && b)
def rEqC (K : PySem.W.Frag) (f : Bool → Bool) : R2 := fun x y H Q => ∃ a b ks ls r, x = .ref a ∧ y = .ref b ∧ Rd H a (.dK ks) ∧ Rd H b (.dK ls) ∧ HitsV K H ls ks r ∧ Q (.bl (f (ks.length == ls.length && r))) H
theorem hits_of {X : Cx} {pins : List (Addr × Obj)} {σ : L2.St} {H : Hp} {s : Shared} (I : Inv X pins σ H s) (hu : X.A.units + 65 < cLine) {ls : List (Key × V)} {vb : List (Key × Value)} (rb : KV ls vb) {ks : List (Key × V)} {r : Bool} (h : HitsV X.K H ls ks r) :
    ∀ {va : List (Key × Value)}, KV ks va → PySem.W.KeqHits X.A.in1 s vb va r := by
  have hu1 : X.A.in1.units + 64 < cLine := by show X.A.units + 1 + 64 < cLine; omega
  induction h with
  | nil => intro va ra; cases ra; exact .nil
  | @miss k v r hn =>
    intro va ra
    cases ra with
    | @cons _ q _ qs h t =>
      obtain ⟨key, w⟩ := q
      have e : k = key := h.1
      subst e
      have z := rb.val k
      rw [hn] at z
      refine .miss ?_
      cases e2 : valueAt vb k with
      | none => rfl
      | some y => rw [e2] at z; exact z.elim
  | @hit k v u d e r b hu0 h1 h2 s1 s2 _ ih =>
    intro va ra
    cases ra with
    | @cons _ q _ qs h t =>
      obtain ⟨key, w⟩ := q
      have e : k = key := h.1
      subst e
      have z := rb.val k
      rw [hu0] at z
      obtain ⟨y, hy, ry⟩ := z.some_of
      obtain ⟨as, r1⟩ := Dp.reads I d v w h1 h.2
      obtain ⟨bs, r2⟩ := Dp.reads I _ u y h2 ry
      exact .hit hy (PySem.W.keq_at r1 r2 s1 s2 hu1) (ih t)
theorem op_eqC {X : Cx} (hu : X.A.units + 65 < cLine) : OpR X (compareOp .Eq) (rEqC X.K id) := by
  intro pins s σ H x y v u Q I rx ry h
  obtain ⟨a, b, ks, ls, r, rfl, rfl, ea, eb, hh, q⟩ := h
  obtain rfl : v = Value.ref a := rx
  obtain rfl : u = Value.ref b := ry
  obtain ⟨_, ya, va, ra, da⟩ := dk_rd I.hok ea
  obtain ⟨_, yb, vb, rb, db⟩ := dk_rd I.hok eb
  refine PySem.W.keq_eq (knd := mixKind X.prog X.w) ya yb da db (by omega) (fun _ => hits_of I hu rb hh ra) ⟨.bl _, H, I, rfl, ?_⟩
  rw [← ra.length, ← rb.length]
  exact q
theorem op_neC {X : Cx} (hu : X.A.units + 65 < cLine) : OpR X (compareOp .NotEq) (rEqC X.K (!·)) := by
  intro pins s σ H x y v u Q I rx ry h
  obtain ⟨a, b, ks, ls, r, rfl, rfl, ea, eb, hh, q⟩ := h
  obtain rfl : v = Value.ref a := rx
  obtain rfl : u = Value.ref b := ry
  obtain ⟨_, ya, va, ra, da⟩ := dk_rd I.hok ea
  obtain ⟨_, yb, vb, rb, db⟩ := dk_rd I.hok eb
  refine PySem.W.keq_ne (knd := mixKind X.prog X.w) ya yb da db (by omega) (fun _ => hits_of I hu rb hh ra) ⟨.bl _, H, I, rfl, ?_⟩
  rw [← ra.length, ← rb.length]
  exact q
def uEq (K : PySem.W.Frag) : R2 := fun x y H Q => rEq x y H Q ∨ (rEqD K x y H Q ∨ rEqC K id x y H Q)
def uNe (K : PySem.W.Frag) : R2 := fun x y H Q => rNe x y H Q ∨ (rNeD K x y H Q ∨ rEqC K (!·) x y H Q)
theorem op_eqU {X : Cx} (hu : X.A.units + 65 < cLine) : OpR X (compareOp .Eq) (uEq X.K) := OpR.or op_eq (OpR.or (op_eqD (by omega)) (op_eqC hu))
theorem op_neU {X : Cx} (hu : X.A.units + 65 < cLine) : OpR X (compareOp .NotEq) (uNe X.K) := OpR.or op_ne (OpR.or (op_neD (by omega)) (op_neC hu))
theorem dpL {K : PySem.W.Frag} {G H : Hp} (l : Le G H) : ∀ {v : V} {d : PyData}, Dp K G v d → Dp K H v d := by
  intro v d h
  refine Dp.rec (motive_1 := fun v d _ => Dp K H v d) (motive_2 := fun v d _ => DpAll K H v d) .non (fun b => .bl b) (fun i => .int i) (fun x => .str x) (fun h _ r => .lst (l.sql h) r) (fun h _ r => .tup (l.sqt h) r) .nil (fun _ _ a b => .cons a b) h
theorem res_dp {K : PySem.W.Frag} {F : Hp} {s : Sto} {H : Hp} {v : V} {d : J} (t : Stt K F s H) (j : Jp K (mask F s H) v d) (h : (res s d).ok = true) : Dp K H v (res s d).py := by
  cases d with
  | own a =>
    cases j
    unfold res at h ⊢
    dsimp only at h ⊢
    split at h
    · rename_i l e
      obtain ⟨xs, e2, r⟩ := t.lst e
      unfold J.py
      unfold J.ok J.okd at h
      exact .lst (.inl (.inl e2)) (by
        have := Jps.dp r h
        refine DpAll.rec (motive_1 := fun v d _ => Dp K H v d) (motive_2 := fun v d _ => DpAll K H v d) .non (fun b => .bl b) (fun i => .int i) (fun x => .str x) (fun h _ r => .lst (Le.unmask.sql h) r) (fun h _ r => .tup (Le.unmask.sqt h) r) .nil (fun _ _ a b => .cons a b) this)
    · cases h
    · cases h
    · cases h
  | _ => exact dpL .unmask (j.dp h)
/-- a dict as it stands -/
theorem jp_dct {K : PySem.W.Frag} {F : Hp} {s : Sto} {H : Hp} {v : V} {d : J} {l : List (Key × J)} (t : Stt K F s H) (j : Jp K (mask F s H) v d) (e : res s d = .dct l) : ∃ a h xs, v = .ref a ∧ H a = some h ∧ cor h = .dK xs ∧ Jpd K (mask F s H) xs l := by
  cases j with
  | dct h c r => cases e; exact ⟨_, _, _, rfl, (of_mask h).2.2, c, r⟩
  | own a =>
    unfold res at e
    dsimp only at e
    split at e
    · cases e
    · rename_i l' q
      cases e
      obtain ⟨xs, h, r⟩ := t.dct q
      exact ⟨_, _, xs, rfl, h, rfl, r⟩
    · cases e
    · cases e
  | _ => cases e
theorem rd_dct {H : Hp} {a : Addr} {h : HO} {xs : List (Key × V)} (e : H a = some h) (c : cor h = .dK xs) : Rd H a (.dK xs) := by
  rcases cor_dK c with rfl | ⟨o, rfl⟩
  · exact .inl e
  · exact .inr ⟨o, e⟩
theorem hits_J {K : PySem.W.Frag} {G H : Hp} (l : ∀ {v : V} {d : PyData}, Dp K G v d → Dp K H v d) {ys : List (Key × V)} {ls : List (Key × J)} (jy : Jpd K G ys ls) (oy : okKv ls) : ∀ {xs : List (Key × V)} {ks : List (Key × J)}, Jpd K G xs ks → okKv ks →
    HitsV K H ys xs (ks.all fun kv => match valJ ls kv.1 with | some y => eqJ kv.2 y | none => false)
  | _, _, .nil, _ => .nil
  | _, _, .cons (k := k) (v := v) (d := d) (vs := vs) (ds := ds) j t, ok => by
    have ih := hits_J l jy oy t fun kv h => ok kv (List.mem_cons_of_mem _ h)
    rw [List.all_cons]
    have ok1 := ok (k, d) List.mem_cons_self
    rcases jy.val (k := k) with ⟨h1, h2⟩ | ⟨u, x, h1, h2, h3⟩
    · rw [h2]
      exact .miss h1
    · rw [h2]
      have okx : x.ok = true := by
        unfold valJ at h2
        cases e : ls.find? (fun kv => decide (kv.1 = k)) with
        | none => rw [e] at h2; cases h2
        | some z =>
          rw [e] at h2
          have := oy z (List.mem_of_find?_eq_some e)
          rw [show z.2 = x from Option.some.inj h2] at this
          exact this
      exact .hit h1 (l (j.dp ok1)) (l (h3.dp okx)) (shaped_of ok1) (shaped_of okx) ih
theorem eqC_of {K : PySem.W.Frag} {F : Hp} {s : Sto} {H : Hp} {v u : V} {x y : J} {f : Bool → Bool} {Q : VK} {ks ls : List (Key × J)} (t : Stt K F s H) (jx : Jp K (mask F s H) v x) (jy : Jp K (mask F s H) u y) (ex : res s x = .dct ks) (ey : res s y = .dct ls) (o : okKv ks ∧ okKv ls) (q : Q (.bl (f (dctEq ks ls))) H) : rEqC K f v u H Q := by
  obtain ⟨a, h, xs, rfl, e1, c1, r1⟩ := jp_dct t jx ex
  obtain ⟨b, g, ys, rfl, e2, c2, r2⟩ := jp_dct t jy ey
  refine ⟨a, b, xs, ys, _, rfl, rfl, rd_dct e1 c1, rd_dct e2 c2, hits_J (fun h => dpL .unmask h) r2 o.2 r1 o.1, ?_⟩
  rw [r1.length, r2.length]
  exact q
section
variable {K : PySem.W.Frag}
theorem vint (i j : Int) : decide (V.int i = V.int j) = decide (i = j) := by by_cases h : i = j <;> simp [h]
theorem vstr (i j : Str) : decide (V.str i = V.str j) = decide (i = j) := by by_cases h : i = j <;> simp [h]
theorem vbl (i j : Bool) : decide (V.bl i = V.bl j) = decide (i = j) := by by_cases h : i = j <;> simp [h]
theorem so_eq : So K (uEq K) eqRJ := by
  intro F s H v u x y Q QV t jx jy hQ h
  unfold eqRJ eqR at h
  have fin : ∀ b, Q (.bl b) s → QV (.bl b) H := fun b q => hQ _ s q _ H .refl t (.bl _)
  split at h
  · cases jx; cases jy
    exact .inl ⟨rfl, by rw [vint]; exact fin _ h⟩
  · cases jx; cases jy
    exact .inl ⟨rfl, by rw [vstr]; exact fin _ h⟩
  · cases jx; cases jy
    exact .inl ⟨rfl, by rw [vbl]; exact fin _ h⟩
  · cases jx; cases jy
    exact .inl ⟨rfl, fin _ h⟩
  · cases jx; cases jy
    exact .inl ⟨rfl, fin _ h⟩
  · cases jx; cases jy
    exact .inl ⟨rfl, fin _ h⟩
  · cases jx; cases jy
    exact .inl ⟨rfl, fin _ h⟩
  · cases jx; cases jy
    exact .inl ⟨rfl, fin _ h⟩
  · cases jx; cases jy
    exact .inl ⟨rfl, fin _ h⟩
  · rcases h with h | ⟨ks, ls, ex, ey, o, h⟩
    · exact .inr (.inl ⟨_, _, res_dp t jx h.1.1, res_dp t jy h.1.2, shaped_of h.1.1, shaped_of h.1.2, fin _ h.2⟩)
    · exact .inr (.inr (eqC_of t jx jy ex ey o (fin _ h)))
theorem so_ne : So K (uNe K) neRJ := by
  intro F s H v u x y Q QV t jx jy hQ h
  unfold neRJ eqR at h
  have fin : ∀ b, Q (.bl b) s → QV (.bl b) H := fun b q => hQ _ s q _ H .refl t (.bl _)
  split at h
  · cases jx; cases jy
    exact .inl ⟨rfl, by rw [vint]; exact fin _ h⟩
  · cases jx; cases jy
    exact .inl ⟨rfl, by rw [vstr]; exact fin _ h⟩
  · cases jx; cases jy
    exact .inl ⟨rfl, by rw [vbl]; exact fin _ h⟩
  · cases jx; cases jy
    exact .inl ⟨rfl, fin _ h⟩
  · cases jx; cases jy
    exact .inl ⟨rfl, fin _ h⟩
  · cases jx; cases jy
    exact .inl ⟨rfl, fin _ h⟩
  · cases jx; cases jy
    exact .inl ⟨rfl, fin _ h⟩
  · cases jx; cases jy
    exact .inl ⟨rfl, fin _ h⟩
  · cases jx; cases jy
    exact .inl ⟨rfl, fin _ h⟩
  · rcases h with h | ⟨ks, ls, ex, ey, o, h⟩
    · exact .inr (.inl ⟨_, _, res_dp t jx h.1.1, res_dp t jy h.1.2, shaped_of h.1.1, shaped_of h.1.2, fin _ h.2⟩)
    · exact .inr (.inr (eqC_of t jx jy ex ey o (fin _ h)))
def isRJ (f : Bool → Bool) (x y : J) (s : Sto) (Q : QJ) : Prop := ∃ a b, x = .bl a ∧ y = .bl b ∧ Q (.bl (f (decide (a = b)))) s
theorem so_is : So K rIsB (isRJ id) := by
  intro F s H v u x y Q QV t jx jy hQ h
  obtain ⟨a, b, rfl, rfl, q⟩ := h
  cases jx; cases jy
  exact ⟨a, b, rfl, rfl, hQ _ s q _ H .refl t (.bl _)⟩
theorem so_isNot : So K rNotB (isRJ (!·)) := by
  intro F s H v u x y Q QV t jx jy hQ h
  obtain ⟨a, b, rfl, rfl, q⟩ := h
  cases jx; cases jy
  exact ⟨a, b, rfl, rfl, hQ _ s q _ H .refl t (.bl _)⟩
def rInT (K : PySem.W.Frag) (n : Bool) : R2 := fun x y H Q => ∃ d ds, Dp K H x d ∧ Dp K H y (.tuple ds) ∧ SeqAt.shaped d = true ∧ SeqAt.shaped (.tuple ds) = true ∧ Q (.bl (if n then !ds.any fun z => PyData.eqv z d else ds.any fun z => PyData.eqv z d)) H
def rInC (n : Bool) : R2 := fun x y H Q => ∃ (c : Nat) (z : Str), x = .str ⟨#[c]⟩ ∧ y = .str z ∧ Q (.bl (if n then !decide (c ∈ z.cps.toList) else decide (c ∈ z.cps.toList))) H
def rInK (n : Bool) : R2 := fun x y H Q => ∃ a o, y = .ref a ∧ DGet H a x o ∧ Q (.bl (if n then !o.isSome else o.isSome)) H
theorem op_inT {X : Cx} (hu : X.A.units + 65 < cLine) : OpR X (compareOp .In) (rInT X.K false) := fun pins s σ H x y v u Q I rx ry h => by
  obtain ⟨d, ds, hd, he, sd, se, q⟩ := h
  obtain ⟨as, r1⟩ := Dp.reads I d x v hd rx
  obtain ⟨bs, r2⟩ := Dp.reads I (.tuple ds) y u he ry
  exact SeqAt.in_tuple_reads r2 r1 (SeqAt.canLay_of_shaped se) (SeqAt.canLay_of_shaped sd) (room_in_shaped sd hu) ⟨.bl _, H, I, rfl, q⟩
theorem op_notInT {X : Cx} (hu : X.A.units + 65 < cLine) : OpR X (compareOp .NotIn) (rInT X.K true) := fun pins s σ H x y v u Q I rx ry h => by
  obtain ⟨d, ds, hd, he, sd, se, q⟩ := h
  obtain ⟨as, r1⟩ := Dp.reads I d x v hd rx
  obtain ⟨bs, r2⟩ := Dp.reads I (.tuple ds) y u he ry
  exact SeqAt.notIn_tuple_reads r2 r1 (SeqAt.canLay_of_shaped se) (SeqAt.canLay_of_shaped sd) (room_in_shaped sd hu) ⟨.bl _, H, I, rfl, q⟩
theorem op_inK {X : Cx} (hu : X.A.units + 65 < cLine) : OpR X (compareOp .In) (rInK false) := fun pins s σ H x y v u Q I rx ry h => by
  obtain ⟨a, o, rfl, g, q⟩ := h
  cases ry
  exact d_in (by omega) I g rx fun s' I' => ⟨.bl _, H, I', rfl, q⟩
theorem op_notInK {X : Cx} (hu : X.A.units + 65 < cLine) : OpR X (compareOp .NotIn) (rInK true) := fun pins s σ H x y v u Q I rx ry h => by
  obtain ⟨a, o, rfl, g, q⟩ := h
  cases ry
  exact d_notIn (by omega) I g rx fun s' I' => ⟨.bl _, H, I', rfl, q⟩
def uIn (K : PySem.W.Frag) : R2 := fun x y H Q => rInC false x y H Q ∨ (rInD K x y H Q ∨ (rInT K false x y H Q ∨ rInK false x y H Q))
def uNotIn (K : PySem.W.Frag) : R2 := fun x y H Q => rInC true x y H Q ∨ (rNotInD K x y H Q ∨ (rInT K true x y H Q ∨ rInK true x y H Q))
theorem op_inU {X : Cx} (hu : X.A.units + 65 < cLine) : OpR X (compareOp .In) (uIn X.K) := OpR.or op_in_sign (OpR.or (op_inD hu) (OpR.or (op_inT hu) (op_inK hu)))
theorem op_notInU {X : Cx} (hu : X.A.units + 65 < cLine) : OpR X (compareOp .NotIn) (uNotIn X.K) := OpR.or op_notIn_sign (OpR.or (op_notInD hu) (OpR.or (op_notInT hu) (op_notInK hu)))
theorem py_any (d : J) : ∀ l : List J, (J.pys l).any (fun z => PyData.eqv z d.py) = l.any fun z => eqJ z d
  | [] => by unfold J.pys; rfl
  | e :: r => by unfold J.pys; rw [List.any_cons, List.any_cons, py_any d r]; rfl
def keyOf : J → Option Key
  | .int i => some (.inl i)
  | .str z => some (.inr z)
  | _ => none
def inR (s : Sto) (x y : J) (f : Bool → Bool) (Q : QJ) : Prop := match x, res s y with
  | x, .dct l => ∃ k, keyOf x = some k ∧ Q (.bl (f (valJ l k).isSome)) s
  | .str c, .str z => ∃ n, c = ⟨#[n]⟩ ∧ Q (.bl (f (decide (n ∈ z.cps.toList)))) s
  | x, .lst l => ((res s x).ok = true ∧ (J.lst l).ok = true) ∧ Q (.bl (f (l.any fun z => eqJ z (res s x)))) s
  | x, .tup l => ((res s x).ok = true ∧ (J.tup l).ok = true) ∧ Q (.bl (f (l.any fun z => eqJ z (res s x)))) s
  | _, _ => False
def inRJ (x y : J) (s : Sto) (Q : QJ) : Prop := inR s x y id Q
def notInRJ (x y : J) (s : Sto) (Q : QJ) : Prop := inR s x y (!·) Q
theorem keyOf_v {G : Hp} {v : V} {d : J} {k : Key} (j : Jp K G v d) (e : keyOf d = some k) : v = kV k := by
  cases j <;> cases e <;> rfl
theorem dget_of {F : Hp} {s : Sto} {H : Hp} {v u : V} {d x : J} {l : List (Key × J)} {k : Key} (t : Stt K F s H) (j : Jp K (mask F s H) v d) (e : res s d = .dct l) (jx : Jp K (mask F s H) u x) (hk : keyOf x = some k) :
    ∃ a o, v = .ref a ∧ DGet H a u o ∧ ((o = none ∧ valJ l k = none) ∨ ∃ w y, o = some w ∧ valJ l k = some y ∧ Jp K (mask F s H) w y) := by
  obtain ⟨a, h, xs, rfl, e1, c, r⟩ := jp_dct t j e
  rw [keyOf_v jx hk]
  refine ⟨a, valV xs k, rfl, ?_, ?_⟩
  · rcases cor_dK c with rfl | ⟨o, rfl⟩
    · exact .inl ⟨xs, k, .inl e1, rfl, rfl⟩
    · exact .inl ⟨xs, k, .inr ⟨o, e1⟩, rfl, rfl⟩
  · rcases r.val (k := k) with ⟨h1, h2⟩ | ⟨w, y, h1, h2, h3⟩
    · exact .inl ⟨h1, h2⟩
    · exact .inr ⟨w, y, h1, h2, h3⟩
theorem res_lst {s : Sto} {y : J} {l : List J} (e : res s y = .lst l) : lstX s y = some l := by
  cases y with
  | own a =>
    unfold res at e
    unfold lstX
    dsimp only at e ⊢
    split at e
    · cases e; rename_i h; rw [h]
    · cases e
    · cases e
    · cases e
  | lst l' => cases e; rfl
  | _ => cases e
theorem res_tup {s : Sto} {y : J} {l : List J} (e : res s y = .tup l) : y = .tup l := by
  cases y with
  | own a =>
    unfold res at e
    dsimp only at e
    split at e <;> cases e
  | _ => exact e
theorem res_str {s : Sto} {y : J} {l : Str} (e : res s y = .str l) : y = .str l := by
  cases y with
  | own a =>
    unfold res at e
    dsimp only at e
    split at e <;> cases e
  | _ => exact e
theorem so_in_core {F : Hp} {s : Sto} {H : Hp} {v u : V} {x y : J} {Q : QJ} {QV : VK} {f : Bool → Bool} (t : Stt K F s H) (jx : Jp K (mask F s H) v x) (jy : Jp K (mask F s H) u y) (hQ : ∀ d s', Q d s' → Bk K F (mask F s H) QV d s') (h : inR s x y f Q) :
    (∃ (c : Nat) (z : Str), v = .str ⟨#[c]⟩ ∧ u = .str z ∧ QV (.bl (f (decide (c ∈ z.cps.toList)))) H) ∨ ((∃ d ds, Dp K H v d ∧ (Dp K H u (.list ds) ∨ Dp K H u (.tuple ds)) ∧ SeqAt.shaped d = true ∧ SeqAt.shaped (.list ds) = true ∧ SeqAt.shaped (.tuple ds) = true ∧ QV (.bl (f (ds.any fun z => PyData.eqv z d))) H) ∨
      ∃ a o, u = .ref a ∧ DGet H a v o ∧ QV (.bl (f o.isSome)) H) := by
  have fin : ∀ b, Q (.bl b) s → QV (.bl b) H := fun b q => hQ _ s q _ H .refl t (.bl _)
  unfold inR at h
  split at h
  · rename_i l e
    obtain ⟨k, hk, q⟩ := h
    obtain ⟨a, o, rfl, g, c⟩ := dget_of t jy e jx hk
    refine .inr (.inr ⟨a, o, rfl, g, ?_⟩)
    rcases c with ⟨rfl, c⟩ | ⟨w, y2, rfl, c, _⟩
    · rw [c] at q
      exact fin _ q
    · rw [c] at q
      exact fin _ q
  · rename_i c z e
    obtain ⟨n, rfl, q⟩ := h
    cases res_str e
    cases jx
    cases jy
    exact .inl ⟨n, z, rfl, rfl, fin _ q⟩
  · obtain ⟨⟨h1, h2⟩, q⟩ := h
    rename_i l _
    have e : res s y = .lst l := by assumption
    have d1 := res_dp t jx h1
    rw [← e] at h2
    have d2 := res_dp t jy h2
    rw [e] at d2 h2
    have d2' : Dp K H u (.list (J.pys l)) := by unfold J.py at d2; exact d2
    have sh := shaped_of h2
    rw [← py_any] at q
    refine .inr (.inl ⟨_, J.pys l, d1, .inl d2', shaped_of h1, ?_, ?_, fin _ q⟩)
    · unfold J.py at sh; exact sh
    · have : (J.tup l).ok = true := by unfold J.ok J.okd at h2 ⊢; exact h2
      have sh := shaped_of this
      unfold J.py at sh; exact sh
  · obtain ⟨⟨h1, h2⟩, q⟩ := h
    rename_i l _
    have e : res s y = .tup l := by assumption
    have d1 := res_dp t jx h1
    rw [← e] at h2
    have d2 := res_dp t jy h2
    rw [e] at d2 h2
    have d2' : Dp K H u (.tuple (J.pys l)) := by unfold J.py at d2; exact d2
    have sh := shaped_of h2
    rw [← py_any] at q
    refine .inr (.inl ⟨_, J.pys l, d1, .inr d2', shaped_of h1, ?_, ?_, fin _ q⟩)
    · have : (J.lst l).ok = true := by unfold J.ok J.okd at h2 ⊢; exact h2
      have sh := shaped_of this
      unfold J.py at sh; exact sh
    · unfold J.py at sh; exact sh
  · exact h.elim
theorem so_in : So K (uIn K) inRJ := by
  intro F s H v u x y Q QV t jx jy hQ h
  rcases so_in_core t jx jy hQ h with ⟨c, z, e1, e2, q⟩ | ⟨d, ds, d1, d2, s1, s2, s3, q⟩ | ⟨a, o, e, g, q⟩
  · exact .inl ⟨c, z, e1, e2, q⟩
  · rcases d2 with d2 | d2
    · exact .inr (.inl ⟨d, ds, d1, d2, s1, s2, q⟩)
    · exact .inr (.inr (.inl ⟨d, ds, d1, d2, s1, s3, q⟩))
  · exact .inr (.inr (.inr ⟨a, o, e, g, q⟩))
theorem so_notIn : So K (uNotIn K) notInRJ := by
  intro F s H v u x y Q QV t jx jy hQ h
  rcases so_in_core t jx jy hQ h with ⟨c, z, e1, e2, q⟩ | ⟨d, ds, d1, d2, s1, s2, s3, q⟩ | ⟨a, o, e, g, q⟩
  · exact .inl ⟨c, z, e1, e2, q⟩
  · rcases d2 with d2 | d2
    · exact .inr (.inl ⟨d, ds, d1, d2, s1, s2, q⟩)
    · exact .inr (.inr (.inl ⟨d, ds, d1, d2, s1, s3, q⟩))
  · exact .inr (.inr (.inr ⟨a, o, e, g, q⟩))
end
end M

namespace M
open PySem PySem.Spec PyProof.Rows L2
def rIxD : R2 := fun x y H Q => ∃ a v, x = .ref a ∧ DGet H a y (some v) ∧ Q v H
theorem ix_dict {X : Cx} (hu : X.A.units + 1 < cLine) : IxR X rIxD := by
  intro value slice pins s σ H x y v u Q I rx ry h hs
  obtain ⟨a, w, rfl, g, q⟩ := h
  obtain rfl : v = Value.ref a := rx
  have hT := dict_typeIs I g
  unfold subscriptTail
  refine wpAny_bind ?_
  rw [getitemInPython_of_ne hT.not_modules]
  refine wpAny_bind (wpAny_specialOf hT PySem.F.slot_dict_getitem.lookup ?_)
  have fin : wpAny (model X.prog X.w) X.A (subscripted slice false (.ref a) u) (fun r s₃ => wpAny (model X.prog X.w) X.A (letTemporaryGo value (.ref a) r >>= fun _ => pure r) (EP X pins σ Q) X.xe s₃) X.xe s := by
    rw [hs]
    exact wpAny_operating (wpAny_mono (d_getItem hu I g ry fun w' s3 I3 rw' => ⟨w, H, I3, rw', q⟩) (fun r s₃ h₃ => wpAny_bind (wpAny_letTemporaryGo (wpAny_pure h₃))) fun _ _ x => x)
  first
    | exact wpAny_pure (wpAny_bind fin)
    | exact wpAny_bind (wpAny_pure (wpAny_bind fin))
    | exact wpAny_bind fin
def uIx (K : PySem.W.Frag) : R2 := fun x y H Q => rIxL K x y H Q ∨ (rIxT K x y H Q ∨ (rIxS x y H Q ∨ rIxD x y H Q))
theorem ix_U {X : Cx} (hu : X.A.units + 1 < cLine) : IxR X (uIx X.K) := IxR.or ix_list (IxR.or ix_tup (IxR.or ix_str (ix_dict hu)))
def ixR (s : Sto) (x y : J) (Q : QJ) : Prop := match res s x, y with
  | .lst l, .int i => ∃ d, atI l i = some d ∧ Q d s
  | .tup l, .int i => ∃ d, atI l i = some d ∧ Q d s
  | .scr l, .int i => ∃ d, atI (l.map J.int) i = some d ∧ Q d s
  | .str z, .int i => z.length ≤ 100000 ∧ ∃ c, atI z.cps.toList i = some c ∧ Q (.str ⟨#[c]⟩) s
  | .dct l, y => ∃ k d, keyOf y = some k ∧ valJ l k = some d ∧ Q d s
  | _, _ => False
def ixJ (x y : J) (s : Sto) (Q : QJ) : Prop := ixR s x y Q
section
variable {K : PySem.W.Frag}
theorem Jps.atI {G : Hp} {xs : List V} {l : List J} {i : Int} {d : J} (h : Jps K G xs l) (e : L2.atI l i = some d) : ∃ u, L2.atI xs i = some u ∧ Jp K G u d := by
  unfold L2.atI at e ⊢
  rw [h.length]
  cases z : ixN l.length i with
  | none => rw [z] at e; cases e
  | some j =>
    rw [z] at e
    exact h.get e
theorem res_scr {s : Sto} {y : J} {l : List Int} (e : res s y = .scr l) : y = .scr l := by
  cases y with
  | own a =>
    unfold res at e
    dsimp only at e
    split at e <;> cases e
  | _ => exact e
theorem so_ix : So K (uIx K) ixJ := by
  intro F s H v u x y Q QV t jx jy hQ h
  unfold ixJ ixR at h
  have fin : ∀ d w, Q d s → Jp K (mask F s H) w d → QV w H := fun d w q j => hQ _ s q _ H .refl t j
  split at h
  · rename_i l i e
    obtain ⟨d, e1, q⟩ := h
    cases jy
    obtain ⟨a, xs, rfl, h1, r⟩ := jp_lstX t jx (res_lst e)
    obtain ⟨w, e2, j2⟩ := r.atI e1
    exact .inl ⟨a, xs, _, w, rfl, rfl, .inl (.inl h1), e2, fin d w q j2⟩
  · rename_i l i e
    obtain ⟨d, e1, q⟩ := h
    cases jy
    cases res_tup e
    cases jx with | tup h1 r =>
    obtain ⟨w, e2, j2⟩ := r.atI e1
    exact .inr (.inl ⟨_, _, _, w, rfl, rfl, sqt_mask h1, e2, fin d w q j2⟩)
  · rename_i l i e
    obtain ⟨d, e1, q⟩ := h
    cases jy
    obtain ⟨a, xs, rfl, h1, r⟩ := jp_list (l := l.map J.int) t jx (by rw [res_scr e]; rfl)
    obtain ⟨w, e2, j2⟩ := r.atI e1
    exact .inl ⟨a, xs, _, w, rfl, rfl, h1, e2, fin d w q j2⟩
  · rename_i z i e
    obtain ⟨hz, c, e1, q⟩ := h
    cases jy
    cases res_str e
    cases jx
    exact .inr (.inr (.inl ⟨z, _, c, rfl, rfl, Nat.le_trans hz (by decide), e1, fin _ _ q (.str _)⟩))
  · rename_i l _ e
    obtain ⟨k, d, hk, e1, q⟩ := h
    obtain ⟨a, o, rfl, g, c⟩ := dget_of t jx e jy hk
    rcases c with ⟨_, c⟩ | ⟨w, y2, rfl, c, j2⟩
    · rw [e1] at c; cases c
    · rw [e1] at c
      cases c
      exact .inr (.inr (.inr ⟨a, w, rfl, g, fin d w q j2⟩))
  · exact h.elim
end
abbrev PJo := Rho → Sto → (Option Int → Sto → Prop) → XJ → Prop
def jNoPart : PJo := fun _ s Q _ => Q none s
def jPart (p : TJ) : PJo := fun ρ s Q R => p ρ s (fun d s1 => ∃ i, d = .int i ∧ Q (some i) s1) R
def jSl (r : J → Option Int → Option Int → Sto → QJ → Prop) (p : TJ) (lo hi : PJo) : TJ := fun ρ s Q R => p ρ s (fun x s1 => lo ρ s1 (fun l s2 => hi ρ s2 (fun u s3 => r x l u s3 Q) R) R) R
def cutJ (xs : List J) (lo hi : Option Int) : List J := (xs.drop (HT.sIx xs.length 0 lo)).take (HT.sIx xs.length xs.length hi - HT.sIx xs.length 0 lo)
def slR (s : Sto) (x : J) (lo hi : Option Int) (fin : List J → Prop) (Q : QJ) : Prop := match x with
  | .tup l => Q (.tup (cutJ l lo hi)) s
  | .str z => z.length ≤ 100000 ∧ Q (.str (cutS z lo hi)) s
  | x => ∃ l, lstOf s x = some l ∧ fin (cutJ l lo hi)
def slJ (x : J) (lo hi : Option Int) (s : Sto) (Q : QJ) : Prop := slR s x lo hi (fun l => Q (.lst l) s) Q
section
variable {K : PySem.W.Frag} {W : WX} {ta te : TE} {pa pe : TJ} {xa : TA} {qa : AJ}
end
def uLen (K : PySem.W.Frag) : List V → Hp → VK → Prop := fun xs H Q => (∃ p ys, xs = [.ref p] ∧ (SqL K H p ys ∨ SqT K H p ys) ∧ Q (.int ys.length) H) ∨ ((∃ z, xs = [.str z] ∧ z.length ≤ sizeLine ∧ Q (.int z.length) H) ∨ (∃ a kvs, xs = [V.ref a] ∧ Rd H a (.dK kvs) ∧ Q (.int kvs.length) H))
theorem call_lenR {X : Cx} : CallR X (.builtin "len") (fun xs H Q => ∃ a kvs, xs = [V.ref a] ∧ Rd H a (.dK kvs) ∧ Q (.int kvs.length) H) := by
  intro pins s σ H xs us Q I r h
  obtain ⟨a, kvs, rfl, ha, q⟩ := h
  obtain ⟨u, rfl, ru⟩ := vals1 r
  cases ru
  exact d_len I ha fun t s' I' => ⟨.int kvs.length, H, I', ⟨t, rfl⟩, q⟩
theorem call_lenU {X : Cx} : CallR X (.builtin "len") (uLen X.K) := CallR.or call_len_seq (CallR.or call_len_str call_lenR)
/-- a dict that is to be read exactly: not locked -/
def lenJ (xs : List J) (s : Sto) (Q : QJ) : Prop := match xs with
  | [.str z] => z.length ≤ 100000 ∧ Q (.int z.length) s
  | [.tup l] => Q (.int l.length) s
  | [.own a] => match s a with
    | some (.lst l) => Q (.int l.length) s
    | some (.dct l) => Q (.int l.length) s
    | _ => False
  | [.lst l] => Q (.int l.length) s
  | [.dct l] => Q (.int l.length) s
  | [.scr l] => Q (.int l.length) s
  | _ => False
def jAbs (xs : List J) (s : Sto) (Q : QJ) : Prop := ∃ i, xs = [.int i] ∧ Q (.int (i.natAbs : Int)) s
def jInt (xs : List J) (s : Sto) (Q : QJ) : Prop := match xs with
  | [.int i] => Q (.int i) s
  | [.bl b] => Q (.int (if b then 1 else 0)) s
  | _ => False
def jMax2 (xs : List J) (s : Sto) (Q : QJ) : Prop := ∃ i j, xs = [.int i, .int j] ∧ Q (.int (max i j)) s
def jMin2 (xs : List J) (s : Sto) (Q : QJ) : Prop := ∃ i j, xs = [.int i, .int j] ∧ Q (.int (min i j)) s
def jStr (xs : List J) (s : Sto) (Q : QJ) : Prop := match xs with
  | [.int i] => i.natAbs < 10 ^ 300 ∧ Q (.str (toString i)) s
  | [.str z] => Q (.str z) s
  | _ => False
def jAll (xs : List J) (s : Sto) (Q : QJ) : Prop := ∃ (d : J) (bs : List Bool), xs = [d] ∧ lstOf s d = some (bs.map J.bl) ∧ Q (.bl (bs.all id)) s
/-- tuple(x); list(x): a new list, seen or of the store -/
def jTuple (xs : List J) (s : Sto) (Q : QJ) : Prop := match xs with
  | [.tup l] => Q (.tup l) s
  | [d] => ∃ l, lstOf s d = some l ∧ Q (.tup l) s
  | _ => False
def seqOf (s : Sto) : J → Option (List J)
  | .tup l => some l
  | d => lstOf s d
def jList (xs : List J) (s : Sto) (Q : QJ) : Prop := ∃ d l, xs = [d] ∧ seqOf s d = some l ∧ Q (.lst l) s
section
variable {K : PySem.W.Frag} {W : WX} {ta te : TE} {pa pe : TJ} {xa : TA} {qa : AJ}
theorem jps1 {G : Hp} {v : List V} {d : J} (h : Jps K G v [d]) : ∃ u, v = [u] ∧ Jp K G u d := by
  cases h with | cons j r =>
  cases r
  exact ⟨_, rfl, j⟩
theorem jps2 {G : Hp} {v : List V} {d e : J} (h : Jps K G v [d, e]) : ∃ u w, v = [u, w] ∧ Jp K G u d ∧ Jp K G w e := by
  cases h with | cons j r =>
  obtain ⟨w, rfl, j2⟩ := jps1 r
  exact ⟨_, _, rfl, j, j2⟩
theorem sf_len : Sf K (uLen K) lenJ := by
  intro F s H v x Q QV t js hQ h
  have fin : ∀ i, Q (.int i) s → QV (.int i) H := fun i q => hQ _ s q _ H .refl t (.int _)
  unfold lenJ at h
  split at h
  · obtain ⟨u, rfl, j⟩ := jps1 js
    cases j
    exact .inr (.inl ⟨_, rfl, Nat.le_trans h.1 (by decide), fin _ h.2⟩)
  · obtain ⟨u, rfl, j⟩ := jps1 js
    cases j with | tup h1 r =>
    exact .inl ⟨_, _, rfl, .inr (sqt_mask h1), by rw [r.length]; exact fin _ h⟩
  · obtain ⟨u, rfl, j⟩ := jps1 js
    cases j
    split at h
    · rename_i l e
      obtain ⟨xs, h1, r⟩ := t.lst e
      exact .inl ⟨_, _, rfl, .inl (.inl (.inl h1)), by rw [r.length]; exact fin _ h⟩
    · rename_i l e
      obtain ⟨xs, h1, r⟩ := t.dct e
      exact .inr (.inr ⟨_, _, rfl, .inl h1, by rw [r.length]; exact fin _ h⟩)
    · exact h.elim
  · obtain ⟨u, rfl, j⟩ := jps1 js
    cases j with | lst h1 r =>
    exact .inl ⟨_, _, rfl, .inl (.inl (.inl (of_mask h1).2.2)), by rw [r.length]; exact fin _ h⟩
  · obtain ⟨u, rfl, j⟩ := jps1 js
    cases j with | dct h1 c r =>
    rcases cor_dK c with rfl | ⟨o, rfl⟩
    · exact .inr (.inr ⟨_, _, rfl, .inl (of_mask h1).2.2, by rw [r.length]; exact fin _ h⟩)
    · exact .inr (.inr ⟨_, _, rfl, .inr ⟨o, (of_mask h1).2.2⟩, by rw [r.length]; exact fin _ h⟩)
  · obtain ⟨u, rfl, j⟩ := jps1 js
    cases j with | scr h1 =>
    rename_i l a
    refine .inl ⟨_, _, rfl, .inl (sql_mask h1), ?_⟩
    rw [List.length_map]
    exact fin _ h
  · exact h.elim
def mAbs : List V → Hp → VK → Prop := fun xs H Q => ∃ i, xs = [.int i] ∧ Q (.int (if i < 0 then -i else i)) H
def mInt : List V → Hp → VK → Prop := fun xs H Q => (∃ i, xs = [.int i] ∧ Q (.int i) H) ∨ ∃ k, xs = [.bl k] ∧ Q (.int (if k then 1 else 0)) H
def mMax2 : List V → Hp → VK → Prop := fun xs H Q => ∃ i j, xs = [.int i, .int j] ∧ Q (.int (if j > i then j else i)) H
def mMin2 : List V → Hp → VK → Prop := fun xs H Q => ∃ i j, xs = [.int i, .int j] ∧ Q (.int (if j < i then j else i)) H
theorem sf_abs : Sf K mAbs jAbs := by
  intro F s H v x Q QV t js hQ h
  obtain ⟨i, rfl, q⟩ := h
  obtain ⟨u, rfl, j⟩ := jps1 js
  cases j
  have e : (if i < 0 then -i else i) = (i.natAbs : Int) := by split <;> omega
  exact ⟨i, rfl, by rw [e]; exact hQ _ s q _ H .refl t (.int _)⟩
theorem sf_int : Sf K mInt jInt := by
  intro F s H v x Q QV t js hQ h
  unfold jInt at h
  split at h
  · obtain ⟨u, rfl, j⟩ := jps1 js
    cases j
    exact .inl ⟨_, rfl, hQ _ s h _ H .refl t (.int _)⟩
  · obtain ⟨u, rfl, j⟩ := jps1 js
    cases j
    exact .inr ⟨_, rfl, hQ _ s h _ H .refl t (.int _)⟩
  · exact h.elim
theorem sf_max2 : Sf K mMax2 jMax2 := by
  intro F s H v x Q QV t js hQ h
  obtain ⟨i, k, rfl, q⟩ := h
  obtain ⟨u, w, rfl, j1, j2⟩ := jps2 js
  cases j1; cases j2
  have e : (if k > i then k else i) = max i k := by rw [Int.max_def]; split <;> split <;> omega
  exact ⟨i, k, rfl, by rw [e]; exact hQ _ s q _ H .refl t (.int _)⟩
theorem sf_min2 : Sf K mMin2 jMin2 := by
  intro F s H v x Q QV t js hQ h
  obtain ⟨i, k, rfl, q⟩ := h
  obtain ⟨u, w, rfl, j1, j2⟩ := jps2 js
  cases j1; cases j2
  have e : (if k < i then k else i) = min i k := by rw [Int.min_def]; split <;> split <;> omega
  exact ⟨i, k, rfl, by rw [e]; exact hQ _ s q _ H .refl t (.int _)⟩
theorem sf_all : Sf K (rAll K) jAll := by
  intro F s H v x Q QV t js hQ h
  obtain ⟨d, bs, rfl, e, q⟩ := h
  obtain ⟨u, rfl, j⟩ := jps1 js
  obtain ⟨a, xs, rfl, h1, r⟩ := jp_list t j e
  exact ⟨a, bs, rfl, by rw [← r.bls]; exact h1, hQ _ s q _ H .refl t (.bl _)⟩
def uTuple (K : PySem.W.Frag) : List V → Hp → VK → Prop := fun xs H Q => ∃ p ys, xs = [.ref p] ∧ ((SqL K H p ys ∧ ∀ l, H l = none → Q (.ref l) (upd H l (.tup ys))) ∨ (SqT K H p ys ∧ Q (.ref p) H))
theorem call_tupleU {X : Cx} : CallR X (.type "tuple") (uTuple X.K) := call_tuple_of
theorem sf_tuple : Sf K (uTuple K) jTuple := by
  intro F s H v x Q QV t js hQ h
  unfold jTuple at h
  split at h
  · obtain ⟨u, rfl, j⟩ := jps1 js
    cases j with | tup h1 r =>
    exact ⟨_, _, rfl, .inr ⟨sqt_mask h1, hQ _ s h _ H .refl t (.tup h1 r)⟩⟩
  · obtain ⟨u, rfl, j⟩ := jps1 js
    obtain ⟨l, e, q⟩ := h
    obtain ⟨a, xs, rfl, h1, r⟩ := jp_list t j e
    exact ⟨a, xs, rfl, .inl ⟨h1, fun p hp => hQ _ s q _ _ (.new hp) (t.new hp) (.tup (.inl (.inl (mask_new t hp))) (r.up (.new hp)))⟩⟩
  · exact h.elim
theorem jp_seq {F : Hp} {s : Sto} {H : Hp} {v : V} {d : J} {l : List J} (t : Stt K F s H) (j : Jp K (mask F s H) v d) (e : seqOf s d = some l) : ∃ a xs, v = .ref a ∧ (SqL K H a xs ∨ SqT K H a xs) ∧ Jps K (mask F s H) xs l := by
  cases d with
  | tup l' =>
    cases e
    cases j with | tup h1 r =>
    exact ⟨_, _, rfl, .inr (sqt_mask h1), r⟩
  | _ =>
    obtain ⟨a, xs, rfl, h1, r⟩ := jp_list t j e
    exact ⟨a, xs, rfl, .inl h1, r⟩
def truJ (s : Sto) (d : J) (Q : Bool → Prop) : Prop := match res s d with
  | .non => Q false
  | .bl b => Q b
  | .int i => Q (i != 0)
  | .str z => z.length ≤ 100000 ∧ Q ((z.length : Int) != 0)
  | .lst l => Q (!l.isEmpty)
  | .tup l => Q (!l.isEmpty)
  | _ => False
def tTruth (K : PySem.W.Frag) (ta : TE) : TT := fun σ H Q => ta σ H fun x H' => ∃ k, TruV K x H' k ∧ Q k H'
theorem pt_tru {X : Cx} {a : Expr} {ta : TE} (ha : PE X a ta) (he : ∀ whole, isTrue a X.env whole = (do let v ← whole; standAt a.pos; holding [v] (truthy v)) := by intro _; rfl) : PT X a (tTruth X.K ta) := pt_truth ha he
def jTruth (p : TJ) : BJ := fun ρ s Q R => p ρ s (fun d s1 => truJ s1 d fun b => Q b s1) R
theorem isEmpty_jps {G : Hp} {xs : List V} {l : List J} (h : Jps K G xs l) : xs.isEmpty = l.isEmpty := by cases h <;> rfl
theorem sb_truth (ha : Se K W ta pa) : Sb K W (tTruth K ta) (jTruth pa) := by
  intro F ρ s σ H Q R QV a hQ hR h
  refine ha F ρ s σ H _ R _ a (fun x s1 h1 v1 H1 l1 st1 j1 => ?_) hR h
  unfold truJ at h1
  split at h1
  · rename_i e
    cases x with
    | non => cases j1; exact ⟨_, rfl, hQ _ s1 h1 H1 l1 st1⟩
    | own b =>
      unfold res at e
      dsimp only at e
      split at e <;> cases e
    | _ => cases e
  · rename_i b e
    cases x with
    | bl b => cases e; cases j1; exact ⟨_, rfl, hQ _ s1 h1 H1 l1 st1⟩
    | own b =>
      unfold res at e
      dsimp only at e
      split at e <;> cases e
    | _ => cases e
  · rename_i i e
    cases x with
    | int b => cases e; cases j1; exact ⟨_, rfl, hQ _ s1 h1 H1 l1 st1⟩
    | own b =>
      unfold res at e
      dsimp only at e
      split at e <;> cases e
    | _ => cases e
  · rename_i z e
    cases res_str e
    cases j1
    exact ⟨_, ⟨Nat.le_trans h1.1 (by decide), rfl⟩, hQ _ s1 h1.2 H1 l1 st1⟩
  · rename_i l e
    obtain ⟨b, xs, rfl, h2, r⟩ := jp_lstX st1 j1 (res_lst e)
    exact ⟨_, .inl ⟨xs, .inl (.inl h2), rfl⟩, by rw [isEmpty_jps r]; exact hQ _ s1 h1 H1 l1 st1⟩
  · rename_i l e
    cases res_tup e
    cases j1 with | tup h2 r =>
    exact ⟨_, .inr (.inl ⟨_, sqt_mask h2, rfl⟩), by rw [isEmpty_jps r]; exact hQ _ s1 h1 H1 l1 st1⟩
  · exact h1.elim
def tyJ (s : Sto) (d : J) : Option String := match res s d with
  | .non => some "NoneType"
  | .bl _ => some "bool"
  | .int _ => some "int"
  | .str _ => some "str"
  | .lst _ => some "list"
  | .tup _ => some "tuple"
  | .dct _ => some "dict"
  | _ => none
theorem tyx_of {F : Hp} {s : Sto} {H : Hp} {v : V} {d : J} {c : String} (t : Stt K F s H) (j : Jp K (mask F s H) v d) (e : tyJ s d = some c) : TyX K H v (.type c) := by
  cases j with
  | non => cases e; exact .base .non
  | bl b => cases e; exact .base (.bl b)
  | int b => cases e; exact .base (.int b)
  | str b => cases e; exact .base (.str b)
  | lst h r => cases e; exact .base (.lst (of_mask h).2.2)
  | tup h r =>
    cases e
    rcases sqt_mask h with (h | ⟨o, h⟩) | h
    · exact .base (.tup h)
    · exact .fTuple h
    · obtain ⟨o, its, n, h, c, _⟩ := h
      exact .kTuple h c
  | dct h c r =>
    cases e
    rcases cor_dK c with rfl | ⟨o, rfl⟩
    · exact .base (.dK (of_mask h).2.2)
    · exact .fDict (of_mask h).2.2
  | own a =>
    have e' : tyJ s (.own a) = (match s a with
      | some (.lst _) => some "list"
      | some (.dct _) => some "dict"
      | _ => none) := by
      unfold tyJ res
      dsimp only
      cases q : s a with
      | none => rfl
      | some o => cases o <;> rfl
    rw [e'] at e
    split at e
    · rename_i q
      cases e
      obtain ⟨xs, h, r⟩ := t.lst q
      exact .base (.lst h)
    · rename_i q
      cases e
      obtain ⟨xs, h, r⟩ := t.dct q
      exact .base (.dK h)
    · cases e
  | _ => cases e
def isT (t c : String) : Bool := t == c || (t == "bool" && c == "int")
def tys7 : List String := ["NoneType", "bool", "int", "str", "list", "tuple", "dict"]
def tys6 : List String := ["bool", "int", "str", "list", "tuple", "dict"]
theorem kit_isT {t c : String} (h1 : t ∈ tys7) (h2 : c ∈ tys6) : kitB t c = some (isT t c) := by
  unfold tys7 at h1
  unfold tys6 at h2
  simp only [List.mem_cons, List.not_mem_nil, or_false] at h1 h2
  rcases h1 with rfl | rfl | rfl | rfl | rfl | rfl | rfl <;> rcases h2 with rfl | rfl | rfl | rfl | rfl | rfl <;> decide +kernel
theorem tyJ_mem {s : Sto} {d : J} {t : String} (h : tyJ s d = some t) : t ∈ tys7 := by
  unfold tyJ at h
  split at h <;> cases h <;> simp [tys7]
def isiJ (xs : List J) (s : Sto) (Q : QJ) : Prop := match xs with
  | [x, .ty c] => ∃ t, tyJ s x = some t ∧ c ∈ tys6 ∧ Q (.bl (isT t c)) s
  | _ => False
theorem sf_isi : Sf K (rIsi K) isiJ := by
  intro F s H v x Q QV t js hQ h
  unfold isiJ at h
  split at h
  · rename_i x c
    obtain ⟨u, w, rfl, j1, j2⟩ := jps2 js
    obtain ⟨n, e, hc, q⟩ := h
    cases j2
    exact ⟨u, .ty c, .type n, .type c, _, rfl, .ty c, tyx_of t j1 e, kit_ty (kit_isT (tyJ_mem e) hc), hQ _ s q _ H .refl t (.bl _)⟩
  · exact h.elim
end
end M

namespace M
open PySem PySem.Spec PyProof.Rows L2
def tyM (s : Sto) (T : String) (d : J) : Prop := (T = "str" ∧ ∃ z, d = .str z) ∨ (T = "list" ∧ ∃ l, lstOf s d = some l)
def jBM (T : String) (r : J → List J → Sto → QJ → Prop) (p : TJ) (a : AJ) : TJ := fun ρ s Q R => p ρ s (fun x s1 => tyM s1 T x ∧ a ρ s1 (fun xs s2 => r x xs s2 Q) R) R
def jBM0 (T : String) (r : J → List J → Sto → QJ → Prop) (p : TJ) : TJ := fun ρ s Q R => p ρ s (fun x s1 => tyM s1 T x ∧ r x [] s1 Q) R
def startswithJ (x : J) (xs : List J) (s : Sto) (Q : QJ) : Prop := ∃ a b, x = .str a ∧ xs = [.str b] ∧ Q (.bl (Txt.startswith a b)) s
def joinJ (x : J) (xs : List J) (s : Sto) (Q : QJ) : Prop := ∃ a d, ∃ ys : List Str, x = .str a ∧ xs = [d] ∧ seqOf s d = some (ys.map J.str) ∧ (ys.map (·.length)).sum + ys.length * a.length ≤ 16777216 ∧ Q (.str (Txt.join a ys)) s
section
variable {K : PySem.W.Frag} {W : WX} {ta te : TE} {pa pe : TJ} {xa : TA} {qa : AJ}
theorem tyM_v {F : Hp} {s : Sto} {H : Hp} {v : V} {x : J} {T : String} (t : Stt K F s H) (j : Jp K (mask F s H) v x) (h : tyM s T x) : tyV K T v H := by
  rcases h with ⟨rfl, z, rfl⟩ | ⟨rfl, l, e⟩
  · cases j; exact rfl
  · obtain ⟨a, xs, rfl, h1, r⟩ := jp_list t j e
    exact .inl ⟨rfl, xs, h1⟩
theorem se_bm {T : String} {r : V → List V → Hp → VK → Prop} {rj : J → List J → Sto → QJ → Prop} (hm : Sm K r rj) (ha : Se K W ta pa) (hx : Sa K W xa qa) : Se K W (tBM K T r ta xa) (jBM T rj pa qa) := by
  intro F ρ s σ H Q R QV a hQ hR h
  refine ha F ρ s σ H _ R _ a (fun x s1 h1 v1 H1 l1 st1 j1 => ?_) hR h
  refine ⟨tyM_v st1 j1 h1.1, ?_⟩
  refine hx F ρ s1 σ H1 _ R _ (a.to l1 st1) (fun xs s2 h2 vs H2 l2 st2 j2 => ?_) (fun c fs s' hr => (hR c fs s' hr).up l1) h1.2
  exact hm F s2 H2 v1 vs x xs Q QV st2 (j1.up l2) j2 (fun d s' q => (hQ d s' q).up (l1.trans l2)) h2
theorem mask_w {F : Hp} {s : Sto} {H : Hp} {a : Addr} {o u : O} {h : HO} (e : s a = some u) : Le (mask F s H) (mask F (put s a o) (upd H a h)) := by
  rw [mask_write e]
  exact .refl
def rJoin (K : PySem.W.Frag) : V → List V → Hp → VK → Prop := fun x xs H Q => ∃ a p, ∃ ys : List Str, x = .str a ∧ xs = [.ref p] ∧ (SqL K H p (ys.map V.str) ∨ SqT K H p (ys.map V.str)) ∧
    (ys.map (·.length)).sum + ys.length * a.length ≤ 16777216 ∧ Q (.str (Txt.join a ys)) H
theorem mt_joinU {X : Cx} : MtR X "str.join" (rJoin X.K) := mt_join
theorem sm_join : Sm K (rJoin K) joinJ := by
  intro F s H v vs x xs Q QV t jx js hQ h
  obtain ⟨a, d, ys, rfl, rfl, e, hz, q⟩ := h
  cases jx
  obtain ⟨u, rfl, j1⟩ := jps1 js
  obtain ⟨b, zs, rfl, h1, r⟩ := jp_seq t j1 e
  exact ⟨a, b, ys, rfl, rfl, by rw [← r.strs]; exact h1, hz, hQ _ _ q _ _ .refl t (.str _)⟩
end
def keeps (d : J) (a : Addr) : Bool := match d with
  | .own b => a == b
  | _ => false
/-- what was made on the way and is not handed back is let go -/
def restr (s : Sto) (d : J) (s' : Sto) : Sto := fun a => match s a with
  | some _ => s' a
  | none => if keeps d a then s' a else none
theorem restr_sub {s s' : Sto} {d : J} : ∀ a o, restr s d s' a = some o → s' a = some o := fun a o h => by
  unfold restr at h
  split at h
  · exact h
  · split at h
    · exact h
    · cases h
theorem restr_id {s : Sto} {d : J} : restr s d s = s := by
  funext a
  unfold restr
  split
  · rfl
  · rename_i e
    rw [e]
    split <;> rfl
theorem restr_new {s s' : Sto} {d : J} {p : Addr} {o : O} (h : s p = none) (k : keeps d p = false) : restr s d (put s' p o) = restr s d s' := by
  funext a
  unfold restr
  by_cases e : a = p
  · subst e
    rw [h]
    dsimp only
    rw [k]
    rfl
  · rw [put_ne e]
theorem restr_put {s s' : Sto} {d : J} {b : Addr} {o u : O} (h : s b = some u) : restr s d (put s' b o) = put (restr s d s') b o := by
  funext a
  by_cases e : a = b
  · subst e
    unfold restr
    rw [h]
    show put s' a o a = put _ a o a
    rw [put_same, put_same]
  · rw [put_ne e]
    unfold restr
    rw [put_ne e]
theorem restr_own {s s' : Sto} {p : Addr} {o : O} (h : s p = none) : restr s (.own p) (put s' p o) = put (restr s .non s') p o := by
  funext a
  by_cases e : a = p
  · subst e
    unfold restr
    rw [h, put_same]
    dsimp only
    rw [put_same]
    simp [keeps]
  · rw [put_ne e]
    unfold restr
    rw [put_ne e]
    cases s a with
    | some o => rfl
    | none => simp [keeps, e]
def endJ (s : Sto) (Q : QJ) (R : XJ) : EJ := { nx := fun _ s' => Q .non (restr s .non s'), rt := fun d s' => Q d (restr s d s'), bk := fun _ _ => False, ct := fun _ _ => False, xr := fun _ c fs s' => R c fs (restr s .non s') }
/-- an end that lets nothing go -/
def endK (Q : QJ) (R : XJ) : EJ := { nx := fun _ s' => Q .non s', rt := Q, bk := fun _ _ => False, ct := fun _ _ => False, xr := fun _ => R }
def wOf (n m : Nat) (q : SJ) : WJ := fun ds s Q R => ds.length = n ∧ q (endJ s Q R) (ds.map some ++ List.replicate (m - ds.length) none) s
def wOfK (n m : Nat) (q : SJ) : WJ := fun ds s Q R => ds.length = n ∧ q (endK Q R) (ds.map some ++ List.replicate (m - ds.length) none) s
def spJ (K : PySem.W.Frag) (w : WJ) : Sp := fun vs H Q E => ∃ (F : Hp) (s : Sto) (ds : List J) (QJ' : QJ) (R : XJ), Jps K (mask F s H) vs ds ∧ Stt K F s H ∧ (∀ d s', QJ' d s' → Bk K F (mask F s H) Q d s') ∧ (∀ c fs s', R c fs s' → Xk K F (mask F s H) E c fs s') ∧ w ds s QJ' R
theorem Xk.sub {K : PySem.W.Frag} {F G : Hp} {E : XK} {c : Str} {fs : List (Str × J)} {s s' : Sto} (h : Xk K F G E c fs s') (d : ∀ a o, s' a = some o → s a = some o) : Xk K F G E c fs s := fun dd H' l t x => h dd H' (l.trans (.sub d)) (t.sub d) (by
  unfold XD at x ⊢
  cases dd with
  | none => exact x
  | some a =>
    obtain ⟨vs, e, r⟩ := x
    exact ⟨vs, (Le.sub d).xd e, r.up (.sub d)⟩)
theorem Bk.sub {K : PySem.W.Frag} {F G : Hp} {QV : VK} {d : J} {s s' : Sto} (h : Bk K F G QV d s') (e : ∀ a o, s' a = some o → s a = some o) : Bk K F G QV d s := fun v H' l t j => h v H' (l.trans (.sub e)) (t.sub e) (j.up (.sub e))
section
variable {K : PySem.W.Frag} {t : TS} {q : SJ} {N : List Str} {n : Nat} {vs : List V} {H : Hp} {Q : VK} {E : XK}
theorem rd_J (h : Ss K (WE' E) t q) (w : spJ K (wOf n N.length q) vs H Q E) : t (Ends.mk (fun _ H' => Q .non H') Q (fun _ _ => False) (fun _ _ => False)) (L2.start N vs) H := by
  obtain ⟨F, s, ds, Q', R, j, st, hQ, hR, hl, w⟩ := w
  refine h F _ _ _ s _ H ⟨Rs.beg N j, st⟩ ⟨?_, ?_, ?_, ?_, ?_⟩ w
  · intro ρ s' σ H' h' l a
    exact (hQ .non _ h').sub restr_sub _ H' l a.st .non
  · intro d s' h'
    exact (hQ d _ h').sub restr_sub
  · intro ρ s' σ H' h' l a
    exact h'.elim
  · intro ρ s' σ H' h' l a
    exact h'.elim
  · intro ρ c fs s' σ h' d H' l a x
    exact (hR c fs _ h').sub restr_sub d H' l a.st x
theorem rd_K (h : Ss K (WE' E) t q) (w : spJ K (wOfK n N.length q) vs H Q E) : t (Ends.mk (fun _ H' => Q .non H') Q (fun _ _ => False) (fun _ _ => False)) (L2.start N vs) H := by
  obtain ⟨F, s, ds, Q', R, j, st, hQ, hR, hl, w⟩ := w
  refine h F _ _ _ s _ H ⟨Rs.beg N j, st⟩ ⟨?_, ?_, ?_, ?_, ?_⟩ w
  · intro ρ s' σ H' h' l a
    exact hQ .non _ h' _ H' l a.st .non
  · intro d s' h'
    exact hQ d _ h'
  · intro ρ s' σ H' h' l a
    exact h'.elim
  · intro ρ s' σ H' h' l a
    exact h'.elim
  · intro ρ c fs s' σ h' d H' l a x
    exact hR c fs _ h' d H' l a.st x
theorem len_J {w : WJ} (hw : ∀ ds s Q R, w ds s Q R → ds.length = n) : ∀ vs H Q E, spJ K w vs H Q E → vs.length = n := by
  rintro vs H Q E ⟨F, s, ds, Q', R, j, st, hQ, hR, w'⟩
  rw [j.length]
  exact hw _ _ _ _ w'
end
section
variable {K : PySem.W.Frag} {W : WX} {E : XK} {ta te : TE} {pa pe : TJ} {xa : TA} {qa : AJ} {w : WJ} {dvs : List V} {dj : List J}
def objOf (s : Sto) : J → Option (Str × List (Str × J))
  | .obj c fs => some (c, fs)
  | .own a => match s a with
    | some (.ins c fs) => some (c, fs)
    | _ => none
  | _ => none
theorem jp_obj {F : Hp} {s : Sto} {H : Hp} {v : V} {d : J} {c : Str} {fs : List (Str × J)} (t : Stt K F s H) (j : Jp K (mask F s H) v d) (e : objOf s d = some (c, fs)) : ∃ a dx xs, v = .ref a ∧ H a = some (.ins (He.ga K c) dx xs) ∧ Jpf K (mask F s H) xs fs := by
  cases j with
  | obj h r => cases e; exact ⟨_, _, _, rfl, (of_mask h).2.2, r⟩
  | own a =>
    unfold objOf at e
    dsimp only at e
    split at e
    · rename_i c' l q
      cases e
      obtain ⟨dx, xs, h, r⟩ := t.ins q
      exact ⟨_, dx, xs, rfl, h, r⟩
    · cases e
  | _ => cases e
def jMeth (c m : Str) (w : WJ) (dj : List J) (p : TJ) (a : AJ) : TJ := fun ρ s Q R => p ρ s (fun x s1 => (∃ fs, objOf s1 x = some (c, fs) ∧ fs.lookup m = none) ∧ a ρ s1 (fun ds s2 => w (x :: (ds ++ dj)) s2 Q R) R) R
def jFld (L : List Str) (p : TJ) (f : Str) : TJ := fun ρ s Q R => p ρ s (fun x s1 => ∃ c fs d, objOf s1 x = some (c, fs) ∧ c ∈ L ∧ fs.lookup f = some d ∧ Q d s1) R
theorem se_fld {L : List Str} {f : Str} (hL : ∀ c ∈ L, Cls K (He.ga K c) ∧ NoAttr K (He.ga K c) f) (ha : Se K W ta pa) : Se K W (tFld K ta f) (jFld L pa f) := by
  intro F ρ s σ H Q R QV a hQ hR h
  refine ha F ρ s σ H _ R _ a (fun x s1 h1 v1 H1 l1 st1 j1 => ?_) hR h
  obtain ⟨c, fs, d, e, hc, el, q⟩ := h1
  obtain ⟨b, dx, xs, rfl, eb, r⟩ := jp_obj st1 j1 e
  obtain ⟨u, eu, ju⟩ := r.look el
  exact ⟨b, _, dx, xs, u, rfl, eb, (hL c hc).1, (hL c hc).2, eu, hQ _ s1 q _ H1 l1 st1 ju⟩
/-- a constant of the class -/
def jCon (L : List Str) (p : TJ) (f : Str) (d : J) : TJ := fun ρ s Q R => p ρ s (fun x s1 => (∃ c fs, objOf s1 x = some (c, fs) ∧ c ∈ L ∧ fs.lookup f = none) ∧ Q d s1) R
theorem se_con {L : List Str} {f : Str} {d : J} (hL : ∀ c ∈ L, Cls K (He.ga K c) ∧ ∃ v u, Con K (He.ga K c) f v u ∧ ∀ G, Jp K G v d) (ha : Se K W ta pa) : Se K W (tCon K ta f) (jCon L pa f d) := by
  intro F ρ s σ H Q R QV a hQ hR h
  refine ha F ρ s σ H _ R _ a (fun x s1 h1 v1 H1 l1 st1 j1 => ?_) hR h
  obtain ⟨⟨c, fs, e, hc, el⟩, q⟩ := h1
  obtain ⟨b, dx, xs, rfl, eb, r⟩ := jp_obj st1 j1 e
  obtain ⟨cl, v, u, co, jv⟩ := hL c hc
  exact ⟨b, _, dx, xs, v, u, rfl, eb, cl, co, r.look_none el, hQ _ s1 q _ H1 l1 st1 (jv _)⟩
def putJ (f : Str) (d : J) : List (Str × J) → List (Str × J)
  | [] => [(f, d)]
  | (g, e) :: r => if g = f then (g, d) :: r else (g, e) :: putJ f d r
/-- self.f = e, self in the store -/
def jSetF (L : List Str) (p v : TJ) (f : Str) : SJ := fun D ρ s => v ρ s (fun y s1 => p ρ s1 (fun x s2 => ∃ a c fs, x = .own a ∧ s2 a = some (.ins c fs) ∧ c ∈ L ∧ fs.length < 1000 ∧ D.nx ρ (put s2 a (.ins c (putJ f y fs)))) (D.xr ρ)) (D.xr ρ)
end
end M

namespace M
open PySem PySem.Spec PyProof.Rows L2
section
variable {K : PySem.W.Frag} {W : WX} {E : XK} {ta te tv : TE} {pa pe pv : TJ} {xa : TA} {qa : AJ} {w : WJ} {dvs : List V} {dj : List J}
theorem Jpf.put {G : Hp} {f : Str} {v : V} {d : J} (j : Jp K G v d) : ∀ {xs : List (Str × V)} {fs : List (Str × J)}, Jpf K G xs fs → Jpf K G (putF f v xs) (putJ f d fs)
  | _, _, .nil => .cons j .nil
  | _, _, .cons (k := k) h t => by
    unfold putF putJ
    by_cases e : k = f
    · rw [if_pos e, if_pos e]
      exact .cons j t
    · rw [if_neg e, if_neg e]
      exact .cons h (Jpf.put j t)
theorem ss_setF {L : List Str} {f : Str} (hL : ∀ c ∈ L, Cls K (He.ga K c) ∧ NoAttr K (He.ga K c) f) (ha : Se K W ta pa) (hv : Se K W tv pv) : Ss K W (sFld K ta tv f) (jSetF L pa pv f) := by
  intro F D DV ρ s σ H a e h
  refine hv F ρ s σ H _ _ _ a (fun y s1 h1 v1 H1 l1 st1 j1 => ?_) (er_x (G := H) a e) h
  refine ha F ρ s1 σ H1 _ _ _ (a.to l1 st1) (fun x s2 h2 v2 H2 l2 st2 j2 => ?_) (er_x (G := H1) (a.to l1 st1) (e.up l1)) h1
  obtain ⟨b, c, fs, rfl, eb, hc, hl, q⟩ := h2
  cases j2
  obtain ⟨dx, xs, h3, r⟩ := st2.ins eb
  refine ⟨b, _, dx, xs, rfl, h3, (hL c hc).1, (hL c hc).2, by rw [r.length]; exact hl, ?_⟩
  have w : Oh K (mask F s2 H2) (.ins (He.ga K c) dx (putF f v1 xs)) (.ins c (putJ f y fs)) := ⟨rfl, r.put (j1.up l2)⟩
  have L3 := (l1.trans l2).trans (mask_w (h := .ins (He.ga K c) dx (putF f v1 xs)) (o := .ins c (putJ f y fs)) eb)
  exact e.nx ρ _ σ _ q L3 (a.to L3 (st2.write eb w))
/-- what the fields hold of the store's new things is handed over -/
def frz (s s' : Sto) (d : J) : J := match d with
  | .own q => match s q, s' q with
    | none, some (.lst l) => .lst l
    | none, some (.dct l) => .dct l
    | _, _ => .own q
  | d => d
def frzFs (s s' : Sto) (fs : List (Str × J)) : List (Str × J) := fs.map fun f => (f.1, frz s s' f.2)
/-- C(..), seen from then on -/
def jMake (c : Str) (w : WJ) (dj : List J) (a : AJ) : TJ := fun ρ s Q R => a ρ s (fun ds s1 => ∀ p, s1 p = none → w (.own p :: (ds ++ dj)) (put s1 p (.ins c [])) (fun v s2 => v = .non ∧ ∃ fs, s2 p = some (.ins c fs) ∧ Q (.obj c (frzFs s1 s2 fs)) (restr s1 .non s2)) (fun c' fs s2 => R c' fs (restr s1 .non s2))) R
theorem frz_jp {F : Hp} {s s' : Sto} {H : Hp} {v : V} {d : J} {e : J} (t : Stt K F s' H) (j : Jp K (mask F s' H) v d) : Jp K (mask F (restr s e s') H) v (frz s s' d) ∨ ∃ q, d = .own q ∧ e = .own q := by
  have L : Le (mask F s' H) (mask F (restr s e s') H) := Le.sub restr_sub
  cases d with
  | own q =>
    by_cases k : e = .own q
    · exact .inr ⟨q, rfl, k⟩
    left
    have nk : keeps e q = false := by
      unfold keeps
      split
      · rename_i b
        simp only [beq_eq_false_iff_ne]
        intro z
        exact k (by rw [z])
      · rfl
    unfold frz
    dsimp only
    cases j
    split
    · rename_i l e1 e2
      obtain ⟨xs, h, r⟩ := t.lst e2
      refine .lst ?_ (r.up L)
      rw [mask_none (t.sk _ _ e2).1]
      · exact h
      · unfold restr
        rw [e1]
        dsimp only
        rw [nk]
        rfl
    · rename_i l e1 e2
      obtain ⟨xs, h, r⟩ := t.dct e2
      refine .dct (h := .dK xs) ?_ rfl (r.up L)
      rw [mask_none (t.sk _ _ e2).1]
      · exact h
      · unfold restr
        rw [e1]
        dsimp only
        rw [nk]
        rfl
    · exact .own q
  | _ => exact .inl (j.up L)
theorem frz_jpf {F : Hp} {s s' : Sto} {H : Hp} (t : Stt K F s' H) : ∀ {xs : List (Str × V)} {fs : List (Str × J)}, Jpf K (mask F s' H) xs fs → Jpf K (mask F (restr s .non s') H) xs (frzFs s s' fs)
  | _, _, .nil => .nil
  | _, _, .cons h r => .cons (by
      rcases frz_jp (s := s) (e := .non) t h with z | ⟨q, _, z⟩
      · exact z
      · cases z) (frz_jpf t r)
end
end M

namespace M
open PySem PySem.Spec PyProof.Rows L2
def oexB (K : PySem.W.Frag) (C : Addr) : Bool :=
  (match K.lookup C with
    | some ⟨.type "type", _, .cls cd, sl⟩ =>
      (match cd.mro, sl.toList with
        | .ref C' :: bm, [_, _, _, _, some (.builtin n), _] =>
          decide (C' = C) && (decide (n = "ValueError.__new__") && (!cd.hasDel && (cd.hasDict && PySem.HandSPX.refsVE bm)))
        | _, _ => false)
    | _ => false) &&
  (He.eqO (PySem.W.findIn K (.ref C) "__setattr__") (some (some (.builtin "object.__setattr__"))) &&
  (decide (PySem.W.subIn K (.ref C) (.type "BaseException") = some true) &&
  (decide (PySem.W.typeIn K (.ref C) = some (.type "type")) && PySem.W.keepIn K (.ref C))))
theorem oexB_ok {K : PySem.W.Frag} {C : Addr} (h : oexB K C = true) : OexC K C := by
  unfold oexB at h
  rw [Bool.and_eq_true, Bool.and_eq_true, Bool.and_eq_true, Bool.and_eq_true] at h
  obtain ⟨h1, h2, h3, h4, h5⟩ := h
  refine ⟨?_, He.eqO_ok h2, of_decide_eq_true h3, of_decide_eq_true h4, h5⟩
  split at h1
  · rename_i dd cd sl ho
    split at h1
    · rename_i C' bm k0 k1 k2 k3 nn k5 hm hs
      rw [Bool.and_eq_true, Bool.and_eq_true, Bool.and_eq_true, Bool.and_eq_true] at h1
      obtain ⟨c1, c2, c3, c4, c5⟩ := h1
      have e1 := of_decide_eq_true c1
      have e2 := of_decide_eq_true c2
      subst e1 e2
      obtain ⟨nm, bs, mro, ns, qn, hd, sn, sub, ab, col, del⟩ := cd
      dsimp only at hm c3 c4
      subst hm
      cases hd with
      | false => cases c4
      | true =>
        cases del with
        | true => cases c3
        | false =>
          have hsl : sl = #[k0, k1, k2, k3, some (.builtin "ValueError.__new__"), k5] := by
            obtain ⟨l⟩ := sl
            simp only at hs
            rw [hs]
          subst hsl
          exact ⟨nm, qn, ns, bs, bm, sn, sub, ab, col, dd, k0, k1, k2, k3, k5, ho, c5⟩
    · cases h1
  · cases h1
/-- what isinstance asks of an error's class -/
def kxB (K : PySem.W.Frag) (C : Addr) : Bool :=
  (PySem.W.clsIn K C).isSome &&
  (He.eqO (PySem.W.findIn K (.ref C) "__class__") (some (some (.builtin "object.__class__"))) &&
  (He.eqO (PySem.W.specialIn K (.builtin "object.__class__") "__get__") (some (some (.builtin "getset_descriptor.__get__"))) &&
  (decide (PySem.W.takesIn K (.builtin "object.__class__") = some true) && decide (PySem.W.mroIn K C (.type "object") = some true))))
/-- an error class x whose __init__(self, f) says self.f = f -/
structure Err (K : PySem.W.Frag) (C : Addr) (f : Str) : Prop where
  T : OexC K C
  iC : PySem.W.findIn K (.ref C) "__init__" = some (some (.ref (He.ma K C "__init__")))
  tI : PySem.W.typeIn K (.ref (He.ma K C "__init__")) = some (.type "function")
  nf : PySem.W.findIn K (.ref C) f = some none
  xf : XfC K C
  kx : kxB K C = true
  te : PySem.W.exmOne K (.ref C) (.ref C) = some true
def errB (K : PySem.W.Frag) (C : Addr) (f : Str) : Bool :=
  oexB K C && (He.eqO (PySem.W.findIn K (.ref C) "__init__") (some (some (.ref (He.ma K C "__init__")))) &&
  (decide (PySem.W.typeIn K (.ref (He.ma K C "__init__")) = some (.type "function")) && (He.eqO (PySem.W.findIn K (.ref C) f) (some none) &&
  (xfB K C && (kxB K C && decide (PySem.W.exmOne K (.ref C) (.ref C) = some true))))))
theorem errB_ok {K : PySem.W.Frag} {C : Addr} {f : Str} (h : errB K C f = true) : Err K C f := by
  unfold errB at h
  rw [Bool.and_eq_true, Bool.and_eq_true, Bool.and_eq_true, Bool.and_eq_true, Bool.and_eq_true, Bool.and_eq_true] at h
  obtain ⟨h1, h2, h3, h4, h5, h6, h7⟩ := h
  exact ⟨oexB_ok h1, He.eqO_ok h2, of_decide_eq_true h3, He.eqO_ok h4, xfB_ok h5, h6, of_decide_eq_true h7⟩
/-- isinstance(e, c), e held by the suite -/
def rIsX (K : PySem.W.Frag) (a : Addr) (cls : Value) (d : Option Addr) : List V → Hp → VK → Prop := fun xs H Q =>
  ∃ (C : Addr) (c : V) (cv : Value) (b : Bool), xs = [.ref a, c] ∧ cls = .ref C ∧ (d = none ∨ ∃ dd fs, d = some dd ∧ H dd = some (.xd fs)) ∧ kxB K C = true ∧ XfC K C ∧ ClsV c cv ∧ PySem.W.kitOne K (.ref C) cv = some b ∧ Q (.bl b) H
theorem call_isX {X : Cx} {a : Addr} {cls : Value} {d : Option Addr} {oe : Obj} {pn : List (Addr × Obj)} (hz : L2N.Zn cls d oe) (hf : ∃ vs, oe.data = .fields vs) :
    CallR (X.suite a ((a, oe) :: pn)) (.builtin "isinstance") (rIsX X.K a cls d) := by
  intro pins s σ H xs us Q I r h
  obtain ⟨C, c, cv, b, rfl, rfl, hd, kx, xf, cl, e, q⟩ := h
  obtain ⟨u1, u2, rfl, r1, r2⟩ := vals2 r
  obtain rfl : u1 = Value.ref a := r1
  have e2 := cl.eq r2
  subst e2
  unfold kxB at kx
  rw [Bool.and_eq_true, Bool.and_eq_true, Bool.and_eq_true, Bool.and_eq_true] at kx
  obtain ⟨k1, k2, k3, k4, k5⟩ := kx
  have hp := I.pin (a, oe) (List.mem_append_left _ List.mem_cons_self)
  have hget : s.heap.get? a = some oe := hp.1
  obtain ⟨vs, hv⟩ := hf
  have hno : PySem.W.notCls oe = true := by unfold PySem.W.notCls; rw [hv] <;> rfl
  have key : ∃ od, PySem.W.InstAt s.heap a oe C od := by
    rcases hd with rfl | ⟨dd, fs, rfl, hdd⟩
    · refine ⟨none, hget, hz.1, hno, ?_⟩
      have z : oe.dict = none := hz.2.1
      rw [z]
      exact True.intro
    · have hx : ObjOk X.prog X.w H s.heap dd (.xd fs) := I.hok dd _ hdd
      obtain ⟨mA, ⟨o, es, ep, ho, _⟩, _⟩ := hx
      refine ⟨some o, hget, hz.1, hno, ?_⟩
      have z : oe.dict = some dd := hz.2.1
      rw [z]
      exact ho
  obtain ⟨od, J⟩ := key
  have Z := PySem.W.kitx_exc (K := X.K) (C := C) (x := a) (ox := oe) (od := od) k1 xf.ga xf.gg xf.exC (He.eqO_ok k2) (He.eqO_ok k3) (of_decide_eq_true k4) (of_decide_eq_true k5)
  exact PySem.W.kia_one Z I.kIn J e (fun z => nomatch z) fun tk => ⟨.bl b, H, I.tok tk, rfl, q⟩
/-- raise C(e, ..) where nothing is handled: the exception's context is None -/
theorem pmkN_oex {X : Cx} {CX : CXT} {x : Str} {e : Expr} {es : List Expr} {ta : TA} {p pos : Pos} {C fI : Addr} {k : Nat} {fd : FuncData} {ps : List Str} {sp : Sp} {ds : List Value} {dvs : List V}
    (T : OexC X.K C) (iC : PySem.W.findIn X.K (.ref C) "__init__" = some (some (.ref fI)))
    (tI : PySem.W.typeIn X.K (.ref fI) = some (.type "function"))
    (F1 : FnOk X.prog X.w X.K X.mg X.base CX k fI fd ps sp)
    (hr : Room (k + 1) X.A) (hb : Binds X.K fd ps ds) (hd : Vals dvs ds)
    (hx : Passes CX X (fun _ _ _ => False)) (hg : Gl X x)
    (hm : X.mg x = some (.ref C)) (ha : PA X (e :: es) ta)
    (hdb : (x == ("__debug__" : Str)) = false := by decide)
    (he : starEach (e :: es) X.env = (false, eval e X.env) :: starEach es X.env := by rfl)
    (hpl : (backTo pos (starEach es X.env)).any (·.1) = false := by rfl) :
    L2N.PMk X (.Call (.Name x p) (e :: es) [] pos) (tMkO C sp dvs ta) := by
  intro pins st0 σ H Q I0 hq0
  obtain ⟨nm, qn, NN, bs, bm, sn, sub, ab, col, ddd, m0, m1, m2, m3, m5, hC, hbm⟩ := T.cls
  refine wpAny_Call_Name_kw (ld_glob I0 hg hm ?_ hdb)
  refine PySem.W.callWith_K (h₀ := X.base) I0.ok.mod.kin T.kC
    (thn (ha.run pos pins st0 σ H _ I0 hq0) fun us s1 ⟨vs, H1, I1, r1, hz, q1⟩ => ⟨I1.kIn, ?_⟩) he hpl
  show wpAny _ _ (call (.ref C) us) _ _ _
  obtain ⟨hp, gg, dr, tk, oss⟩ := s1
  have hsz : hp.objs.size ≤ hp.objs.size + 1 := Nat.le_succ _
  have hfree : H1 (hp.objs.size + 1) = none := I1.hok.fresh hsz
  have hq := q1 (hp.objs.size + 1) hfree
  generalize hh2 : (hp.push (PySem.W.kdv_tup us)).push (PySem.HandSPX.excO C hp.objs.size) = hp2
  have kk : ∀ b o, hp.get? b = some o → hp2.get? b = some o := fun b o q => by
    rw [← hh2]
    exact Heap.get?_push_of_some _ (Heap.get?_push_of_some _ q)
  have hget : hp2.get? (hp.objs.size + 1) = some (PySem.HandSPX.excO C hp.objs.size) := by
    rw [← hh2]
    heap_get
  have I2 : Inv X pins σ (upd H1 (hp.objs.size + 1) (exo (hp.objs.size + 1) C none)) ⟨hp2, gg, dr, tk, oss⟩ :=
    I1.laid (t' := tk) (a := hp.objs.size + 1) (h' := hp2) kk hsz (exo_ok hget)
  have r2 : Vals (V.ref (hp.objs.size + 1) :: (vs ++ dvs)) (Value.ref (hp.objs.size + 1) :: (us ++ ds)) :=
    .cons rfl (r1.append hd)
  have hl : (Value.ref (hp.objs.size + 1) :: us ++ ds).length = ps.length := by
    have e1 := r2.length
    rw [F1.len _ _ _ _ hq] at e1
    exact e1.symm
  have hus : us.length ≤ sizeLine := by
    rw [← Paired.length r1, sizeLine_eq]
    omega
  refine wpAny_call (PySem.HandSPX.call_own F.excBase_ValueError
    (fun Y => PySem.HandSPX.refsVE_contains Y bm hbm) (I1.kIn _ _ hC) (PySem.W.looks_findIn I1.kIn iC)
    (fun self => PySem.W.bind_fn I1.kIn self tI) hus ?_)
  rw [hh2]
  refine codeAny_mono (F1.run _ X.stack _ _ ⟨Value.ref (hp.objs.size + 1) :: us, []⟩
    (Value.ref (hp.objs.size + 1) :: (us ++ ds)) _ _ (fun _ _ _ => False) (hr.make C us [])
    (I2.env0.make C us []) (hb _ (Value.ref (hp.objs.size + 1) :: us) I2.kIn hl) r2 hq) fun rr s' hq' => ?_
  cases rr with
  | error er => exact hx pins σ _ _ er s' I2 hq'
  | ok fl =>
    cases fl with
    | ret u =>
      obtain ⟨v, H2, os2, bare2, un2, hok2, rv, ev, d, fs, ea, ed, hd1, q2⟩ := hq'
      subst ev
      obtain ⟨h2, g2, d2, t2, os'⟩ := s'
      obtain ⟨t0, G, J, kG, ge, hoe, na⟩ := mk_end0 (d2 := d2) (t2 := t2) I1 hsz kk un2 hok2 os2 bare2 ea ed hd1
      refine ⟨rv, _, _, _, ⟨G, g2, d2, t2, os'⟩, _, .ref C, some d, rfl, J, kG, ge, hoe, ⟨rfl, rfl, ?_⟩, rfl, rfl, na, rfl, bare2, raises_own T.exC T.tyC, q2⟩
      intro vs e
      cases e
      rfl
    | next => exact False.elim hq'
    | brk => exact False.elim hq'
    | cont => exact False.elim hq'
end M
namespace M
open PySem PySem.Spec PyProof.Rows L2
/-- the def at f keeps sp, called with the first of its parameters; the others are dvs -/
def Ok (P : Program) (w : World) (K : PySem.W.Frag) (mg : Str → Option Value) (base : Heap) (k : Nat) (f : Addr) (ps : List Str) (dvs : List V) (sp : Sp) : Prop :=
  ∃ fd ds, FnOk P w K mg base (L2N.CX P w) k f fd ps sp ∧ PySem.W.keepIn K (.ref f) = true ∧ Vals dvs ds ∧ Binds K fd ps ds
theorem passN0 {X : Cx} : Passes (L2N.CX X.prog X.w) X E0 := fun _ _ _ _ _ _ _ h => by
  obtain ⟨_, _, _, _, _, _, _, _, _, _, _, _, z⟩ := h
  exact z.elim
theorem takesN0 {X : Cx} : L2N.Takes X (fun _ _ _ _ => False) := fun _ _ x => by
  obtain ⟨_, _, _, _, _, _, _, _, _, _, _, _, _, _, _, _, z⟩ := x
  exact z.elim
section
variable {X : Cx} {k j : Nat} {f C : Addr} {ps : List Str} {sp : Sp} {dvs : List V} {x m : Str} {p pos apos : Pos} {e o : Expr} {es : List Expr} {t : TA} {ta : TE} {E : XK} {W : WX}
theorem hu65 (hr : Room j X.A) : X.A.units + 65 < cLine := by have := hr.un; omega
theorem pe_gstr {z : Str} (h : ∃ t, X.mg x = some (.str z t)) (hg : Gl X x := by rfl) (hd : (x == ("__debug__" : Str)) = false := by decide) : PE X (.Name x pos) (tC (.str z)) := by
  obtain ⟨t, h⟩ := h
  exact pe_glob hg h ⟨t, rfl⟩ hd
theorem pe_gref {a : Addr} (h : X.mg x = some (.ref a)) (hg : Gl X x := by rfl) (hd : (x == ("__debug__" : Str)) = false := by decide) : PE X (.Name x pos) (tC (.ref a)) := pe_glob hg h rfl hd
theorem pe_ty {n : String} (h : X.mg x = none) (hv : bootBuiltins x = some (.type n)) (hg : Gl X x := by rfl) (hn : x ≠ "__name__" := by decide) (hd : (x == ("__debug__" : Str)) = false := by decide) : PE X (.Name x pos) (tC (.ty n)) := pe_bltn hg h hv rfl hn hd
end
/-- C(e) of an error class with the one field f: its dict d holds it -/
def spErr (K : PySem.W.Frag) (C : Addr) (f : Str) : Sp := fun vs H Q _ => ∃ (a : Addr) (y : V), vs = [.ref a, y] ∧ H a = some (exo a C none) ∧ OexC K C ∧ PySem.W.findIn K (.ref C) f = some none ∧
  ∀ dx, H dx = none → dx ≠ a → Q .non (upd (upd H dx (exd dx [(f, y)])) a (exo a C (some dx)))
theorem pmk_err {X : Cx} {x f pf : Str} {e : Expr} {ta : TA} {p pos : Pos} {C : Addr} {k j : Nat} (T : Err X.K C f) (O : Ok X.prog X.w X.K X.mg X.base k (He.ma X.K C "__init__") ["self", pf] [] (spErr X.K C f))
    (hr : Room j X.A) (hj : k + 1 ≤ j) (hm : X.mg x = some (.ref C)) (ha : PA X [e] ta) (hg : Gl X x := by rfl) (hdb : (x == ("__debug__" : Str)) = false := by decide) (he : starEach [e] X.env = (false, eval e X.env) :: starEach [] X.env := by rfl)
    (hpl : (backTo pos (starEach [] X.env)).any (·.1) = false := by rfl) : L2N.PMk X (.Call (.Name x p) [e] [] pos) (tMkO C (spErr X.K C f) [] ta) := by
  obtain ⟨fd, ds, F, kp, v, b⟩ := O
  cases v
  exact pmkN_oex (dvs := []) (ds := []) T.T T.iC T.tI F (hr.mono hj) b .nil passN0 hg hm ha hdb he hpl
theorem x_mk {σ : L2.St} {H : Hp} {C : Addr} {sp : Sp} {ta : TA} {Q : XK} (h : ta σ H fun vs H1 => vs.length ≤ 1000 ∧ ∀ a, H1 a = none → sp (.ref a :: (vs ++ [])) (upd H1 a (exo a C none))
  (fun v H2 => v = .non ∧ ∃ (d : Addr) (fs : List (Str × V)), H2 a = some (exo a C (some d)) ∧ H2 d = some (exd d fs) ∧ H1 d = none ∧ Q (.ref C) (some d) (upd (del H2 a) d (.xd fs))) (fun _ _ _ => False)) : tMkO C sp [] ta σ H Q := h
theorem x_err {K : PySem.W.Frag} {H : Hp} {C : Addr} {f : Str} {y : V} {Q : XK} (T : Err K C f) (h : ∀ d H2, H d = none → Same H H2 → H2 d = some (.xd [(f, y)]) → Q (.ref C) (some d) H2) :
    [y].length ≤ 1000 ∧ ∀ a, H a = none → spErr K C f (.ref a :: ([y] ++ [])) (upd H a (exo a C none))
      (fun v H2 => v = .non ∧ ∃ (d : Addr) (fs : List (Str × V)), H2 a = some (exo a C (some d)) ∧ H2 d = some (exd d fs) ∧ H d = none ∧ Q (.ref C) (some d) (upd (del H2 a) d (.xd fs))) (fun _ _ _ => False) := by
  refine ⟨Nat.le_trans (Nat.le_refl 1) (by decide), fun a ha => ⟨a, y, rfl, upd_same, T.T, T.nf, fun dx hdx hne => ⟨rfl, dx, [(f, y)], upd_same, ?_, ?_, ?_⟩⟩⟩
  · rw [upd_ne hne]
    exact upd_same
  · rw [upd_ne hne] at hdx
    exact hdx
  · have hd : H dx = none := by
      rw [upd_ne hne] at hdx
      exact hdx
    refine h dx _ hd (fun b o q => ?_) upd_same
    have nb : b ≠ dx := ne_of_none q hd
    have na : b ≠ a := ne_of_none q ha
    rw [upd_ne nb, del_ne na, upd_ne na, upd_ne nb, upd_ne na]
    exact q
end M
namespace M
open PySem PySem.Spec PyProof.Rows L2
def tRaise (W : WX) (t : L2.St → Hp → XK → Prop) : TS := fun _ σ H => t σ H fun cls d H' => W cls d σ H'
section
variable {X : Cx} {k j : Nat} {f : Addr} {ps : List Str} {sp : Sp} {x : Str} {p pos : Pos} {e : Expr} {es : List Expr} {t : TA}
end
end M
namespace M
open PySem PySem.Spec PyProof.Rows L2
section
variable {X : Cx} {k j n : Nat} {f : Addr} {ps ks : List Str} {sp : Sp} {E : XK} {x : Str} {p pos : Pos} {e : Expr} {es : List Expr} {kws : List Keyword} {t tk : TA} {gV : List V → List V → List V}
end
section
variable {K : PySem.W.Frag} {x qual : Str} {params : Arguments} {body : List Stmt} {scope : Scope} {dvs : List V} {kws : List (Str × V)} {f : Addr} {fd : FuncData} {ps : List Str}
end
section
variable {P : Program} {w : World} {K : PySem.W.Frag} {mg : Str → Option Value} {base : Heap} {x qual : Str} {params : Arguments} {body : List Stmt} {scope : Scope} {dvs : List V} {kws : List (Str × V)} {f : Addr} {N ps : List Str} {k : Nat} {sp : Sp}
theorem fnF {fd : FuncData} (F : FunD K x qual params body scope dvs kws f fd) (S : FnScope N ps scope) (len : ∀ vs H Q E, sp vs H Q E → vs.length = ps.length) {t : XK → TS}
    (der : ∀ (f : Addr) (cdv : Value) (A : Around) (outer : List Env) (s : Shared) (H : Hp) (E : XK), Room k (A.deeper (envOfC qual scope s.heap.objs.size f cdv)) → PSs (cxOf (L2N.CX P w) P w K mg base N qual scope f cdv A outer s H E) body (t E))
    (rd : ∀ vs H Q E, sp vs H Q E → t E (Ends.mk (fun _ H' => Q .non H') Q (fun _ _ => False) (fun _ _ => False)) (start N vs) H) : FnOk P w K mg base (L2N.CX P w) (k + 1) f fd ps sp :=
  F.ok S len fun cdv A outer s H vs Q E hr h => ⟨t E, der f cdv A outer s H E hr, rd vs H Q E h⟩
theorem okF (F : ∃ fd, FunD K x qual params body scope [] kws f fd) (S : FnScope N ps scope) (len : ∀ vs H Q E, sp vs H Q E → vs.length = ps.length) {t : XK → TS}
    (b : ∀ (kV doc pm : Value) (an : Option Addr) (cdv ct : Value) (us : List Value), us.length = ps.length → bindArgs (PySem.W.fnOf x qual params body scope .none kV doc pm an cdv ct) ⟨us, []⟩ = pure (ps.zip us))
    (der : ∀ (f : Addr) (cdv : Value) (A : Around) (outer : List Env) (s : Shared) (H : Hp) (E : XK), Room k (A.deeper (envOfC qual scope s.heap.objs.size f cdv)) → PSs (cxOf (L2N.CX P w) P w K mg base N qual scope f cdv A outer s H E) body (t E))
    (rd : ∀ vs H Q E, sp vs H Q E → t E (Ends.mk (fun _ H' => Q .non H') Q (fun _ _ => False) (fun _ _ => False)) (start N vs) H) : Ok P w K mg base (k + 1) f ps [] sp := by
  obtain ⟨fd, F⟩ := F
  exact ⟨fd, [], fnF F S len der rd, F.kp, .nil, F.bindsN b⟩
end
end M
namespace M
open PySem PySem.Spec PyProof.Rows L2
def relsB : List V → List Value → Bool
  | [], [] => true
  | v :: vs, u :: us => He.relB v u && relsB vs us
  | _, _ => false
theorem relsB_ok : ∀ {vs : List V} {us : List Value}, relsB vs us = true → Vals vs us
  | [], [], _ => .nil
  | v :: vs, u :: us, h => by
    have h2 : (He.relB v u && relsB vs us) = true := h
    rw [Bool.and_eq_true] at h2
    exact .cons (He.relB_ok h2.1) (relsB_ok h2.2)
  | [], _ :: _, h => by cases h
  | _ :: _, [], h => by cases h
def ktupB (K : PySem.W.Frag) (a : Addr) (xs : List V) : Bool := match K.lookup a with
  | some ⟨.type c, _, .seq its _, _⟩ => decide (c = "tuple") && (decide (its.size ≤ 1000) && relsB xs its.toList)
  | _ => false
theorem ktupB_ok {K : PySem.W.Frag} {a : Addr} {xs : List V} (h : ktupB K a xs = true) : ∀ H, SqT K H a xs := by
  intro H
  unfold ktupB at h
  split at h
  · rename_i c d its n sl e
    rw [Bool.and_eq_true, Bool.and_eq_true] at h
    have h1 : c = "tuple" := of_decide_eq_true h.1
    have h2 : its.size ≤ 1000 := of_decide_eq_true h.2.1
    subst h1
    exact .inr ⟨_, its, n, e, rfl, rfl, Nat.le_trans h2 (by decide), relsB_ok h.2.2⟩
  · cases h
end M
namespace M
open PySem PySem.Spec PyProof.Rows L2
end M

namespace M
open PySem PySem.Spec PyProof.Rows L2
def jRaise1 (c f : Str) (a : AJ) : SJ := fun D ρ s => a ρ s (fun ds s1 => ∃ d, ds = [d] ∧ D.xr ρ c [(f, d)] s1) (D.xr ρ)
def jTry (tab : List (Str × Bool)) (i : Nat) (b : SJ) (u : Str → Addr → Addr → SJ) : SJ := fun D ρ s =>
  b { D with xr := fun ρ' c fs s' => ∃ k, tab.lookup c = some k ∧ if k = true then fs ≠ [] ∧ ∀ a dd, s' a = none → u c a dd { D with nx := fun ρ2 s2 => D.nx (ρ2.set i none) s2, bk := fun ρ2 s2 => D.bk (ρ2.set i none) s2, ct := fun ρ2 s2 => D.ct (ρ2.set i none) s2, xr := fun _ => No } (ρ'.set i (some (.exc a dd fs))) s' else D.xr ρ' c fs s' } ρ s
/-- e.f of what was caught -/
def jXf (a dd : Addr) (c x f : Str) (p : TJ) : TJ := fun ρ s Q R => p ρ s (fun y s1 => c = x ∧ ∃ fs v, y = .exc a dd fs ∧ fs.lookup f = some v ∧ Q v s1) R
def isXJ (tab : List (Str × Bool)) (x c : Str) (a dd : Addr) (xs : List J) (s : Sto) (Q : QJ) : Prop := ∃ fs b, xs = [.exc a dd fs, .cls x] ∧ tab.lookup c = some b ∧ Q (.bl b) s
section
variable {K : PySem.W.Frag} {W : WX} {E : XK} {ta te tv : TE} {pa pe pv : TJ} {xa : TA} {qa : AJ}
theorem Stt.same {F : Hp} {s : Sto} {H H' : Hp} (t : Stt K F s H) (e : Same H H') (n : ∀ a, H a = none → s a = none := by intros; assumption) : Stt K F s H' ∧ Le (mask F s H) (mask F s H') := by
  have l : Le (mask F s H) (mask F s H') := fun a o q => by
    obtain ⟨h1, h2, h3⟩ := of_mask q
    exact ⟨o, by rw [mask_none h1 h2]; exact e a o h3, .inl rfl⟩
  exact ⟨⟨fun a o q => let ⟨h1, h, h3, h4⟩ := t.sk a o q; ⟨h1, h, e a h h3, h4.up l⟩, fun a o q => e a o (t.fr a o q)⟩, l⟩
theorem ss_raise1 {c f : Str} (T : Err K (He.ga K c) f) (hx : Sa K W xa qa) : Ss K W (tRaise W (tMkO (He.ga K c) (spErr K (He.ga K c) f) [] xa)) (jRaise1 c f qa) := by
  intro F D DV ρ s σ H a e h
  show tMkO (He.ga K c) (spErr K (He.ga K c) f) [] xa σ H fun cls d H' => W cls d σ H'
  refine x_mk ?_
  refine hx F ρ s σ H _ _ _ a (fun ds s1 h1 vs H1 l1 st1 j1 => ?_) (er_x (G := H) a e) h
  obtain ⟨d, rfl, q⟩ := h1
  obtain ⟨v, rfl, j⟩ := jps1 j1
  refine x_err (Q := fun cls d H' => W cls d σ H') T fun dd H2 hd sm e2 => ?_
  obtain ⟨f1, f2⟩ := st1.fresh hd
  obtain ⟨st2, l2⟩ := st1.same sm (fun a ha => (st1.fresh ha).1)
  exact e.xr ρ c _ s1 σ q (some dd) H2 (l1.trans l2) (a.to (l1.trans l2) st2) ⟨_, by rw [mask_none f2 f1]; exact e2, .cons (j.up l2) .nil⟩
theorem er_no {F G : Hp} {D : EJ} {DV : Ends} (e : Er K F W G D DV) : Er K F W0 G { D with xr := fun _ => No } DV := ⟨e.nx, e.rt, e.bk, e.ct, fun _ _ _ _ _ h => h.elim⟩
theorem look_mem {α : Type} {c : Str} {k : α} : ∀ {tab : List (Str × α)}, tab.lookup c = some k → (c, k) ∈ tab
  | (d, j) :: r, h => by
    rw [List.lookup_cons] at h
    cases e : c == d with
    | true =>
      rw [e] at h
      cases h
      have := eq_of_beq e
      subst this
      exact List.mem_cons_self
    | false =>
      rw [e] at h
      exact List.mem_cons_of_mem _ (look_mem h)
theorem se_xf {a dd : Addr} {c x f : Str} (ha : Se K W ta pa) : Se K W (tXf a (.ref (He.ga K c)) (some dd) (He.ga K x) f ta) (jXf a dd c x f pa) := by
  intro F ρ s σ H Q R QV at' hQ hR h
  refine ha F ρ s σ H _ R _ at' (fun y s1 h1 v1 H1 l1 st1 j1 => ?_) hR h
  obtain ⟨rfl, fs, v, rfl, e, q⟩ := h1
  cases j1 with | exc e2 r =>
  obtain ⟨u, e3, ju⟩ := r.look e
  exact ⟨rfl, rfl, dd, _, u, rfl, (of_mask e2).2.2, e3, hQ _ s1 q _ H1 l1 st1 ju⟩
theorem sf_isX {tab : List (Str × Bool)} {x c : Str} {a dd : Addr} (hk : ∀ p ∈ tab, kxB K (He.ga K p.1) = true ∧ XfC K (He.ga K p.1) ∧ PySem.W.kitOne K (.ref (He.ga K p.1)) (.ref (He.ga K x)) = some p.2) :
    Sf K (rIsX K a (.ref (He.ga K c)) (some dd)) (isXJ tab x c a dd) := by
  intro F s H v xs Q QV t js hQ h
  obtain ⟨fs, b, rfl, e, q⟩ := h
  obtain ⟨u, w, rfl, j1, j2⟩ := jps2 js
  cases j1 with | exc e2 r =>
  cases j2
  obtain ⟨k1, k2, k3⟩ := hk _ (look_mem e)
  exact ⟨_, _, _, b, rfl, rfl, .inr ⟨dd, _, rfl, (of_mask e2).2.2⟩, k1, k2, .own _, k3, hQ _ s q _ H .refl t (.bl _)⟩
def rPutD : TSet := fun o i v H Q => ∃ a H', o = .ref a ∧ DPut H a i v H' ∧ Q H'
theorem set_dict {X : Cx} (hu : X.A.units + 1 < cLine) : PSet X rPutD := by
  intro pins s σ H o i v ov iv u Q I ro ri rv h
  obtain ⟨a, H', rfl, g, q⟩ := h
  obtain rfl : ov = Value.ref a := ro
  exact d_setItem hu I g ri rv fun s4 I4 => ⟨H', I4, q⟩
def uSet : TSet := fun o i v H Q => rSetL o i v H Q ∨ rPutD o i v H Q
theorem set_U {X : Cx} (hu : X.A.units + 1 < cLine) : PSet X uSet := by
  intro pins s σ H o i v ov iv u Q I ro ri rv h
  rcases h with h | h
  · exact set_list pins s σ H o i v ov iv u Q I ro ri rv h
  · exact set_dict hu pins s σ H o i v ov iv u Q I ro ri rv h
def putK' (kvs : List (Key × J)) (k : Key) (v : J) : List (Key × J) := if (kvs.any fun kv => decide (kv.1 = k)) = true then kvs.map fun kv => if kv.1 = k then (kv.1, v) else kv else kvs ++ [(k, v)]
def setR (s : Sto) (o i y : J) (Q : Sto → Prop) : Prop := ∃ a, o = .own a ∧ match s a with
  | some (.lst l) => ∃ k : Nat, i = .int (k : Int) ∧ k < l.length ∧ Q (put s a (.lst (l.set k y)))
  | some (.dct l) => ∃ k, keyOf i = some k ∧ l.length < 100000 ∧ Q (put s a (.dct (putK' l k y)))
  | _ => False
/-- o[i] = .. -/
def jgSub (po pi : TJ) : GJ := fun y ρ s Q => po ρ s (fun o s1 => pi ρ s1 (fun i s2 => setR s2 o i y fun s3 => Q ρ s3) No) No
theorem Jpd.put {G : Hp} {k : Key} {v : V} {d : J} {xs : List (Key × V)} {l : List (Key × J)} (j : Jp K G v d) (h : Jpd K G xs l) : Jpd K G (putK xs k v) (putK' l k d) := by
  unfold putK putK'
  have e : (xs.any fun kv => decide (kv.1 = k)) = (l.any fun kv => decide (kv.1 = k)) := by
    clear j
    induction l generalizing xs with
    | nil => cases h; rfl
    | cons p l ih =>
      cases h with | cons j r =>
      rw [List.any_cons, List.any_cons, ih r]
  rw [e]
  split
  · clear e
    rename_i z
    clear z
    induction l generalizing xs with
    | nil => cases h; exact .nil
    | cons p l ih =>
      cases h with | cons j' r =>
      rename_i kk _ _ _
      rw [List.map_cons, List.map_cons]
      by_cases c : kk = k
      · rw [if_pos c, if_pos c]
        exact .cons j (ih r)
      · rw [if_neg c, if_neg c]
        exact .cons j' (ih r)
  · clear e
    rename_i z
    clear z
    induction l generalizing xs with
    | nil => cases h; exact .cons j .nil
    | cons p l ih =>
      cases h with | cons j' r =>
      exact .cons j' (ih r)
theorem sg_sub {to ti : TE} {po pi : TJ} (ho : Se K W0 to po) (hi : Se K W0 ti pi) : Sg K (gSub to ti uSet) (jgSub po pi) := by
  intro F v d ρ s σ H Q QV a j hQ h
  refine ho F ρ s σ H _ No _ a (fun o s1 h1 v1 H1 l1 st1 j1 => ?_) (fun _ _ _ z => z.elim) h
  refine hi F ρ s1 σ H1 _ No _ (a.to l1 st1) (fun i s2 h2 v2 H2 l2 st2 j2 => ?_) (fun _ _ _ z => z.elim) h1
  obtain ⟨b, rfl, h2⟩ := h2
  cases j1
  have L := l1.trans l2
  have jd := j.up L
  split at h2
  · rename_i l e
    obtain ⟨k, rfl, hk, q⟩ := h2
    cases j2
    obtain ⟨xs, e1, r⟩ := st2.lst e
    refine .inl ⟨b, xs, _, k, rfl, rfl, e1, ?_, hQ ρ _ q σ _ (L.trans (mask_w e)) (a.to (L.trans (mask_w e)) (st2.write (o := .lst (l.set k d)) e (r.set k jd)))⟩
    unfold ixN
    rw [if_pos (by omega), if_pos (by rw [r.length]; omega)]
    rfl
  · rename_i l e
    obtain ⟨k, hk, hl, q⟩ := h2
    obtain ⟨xs, e1, r⟩ := st2.dct e
    rw [keyOf_v j2 hk]
    exact .inr ⟨b, _, rfl, DPut.k e1 (by rw [r.length]; exact Nat.lt_of_lt_of_le hl (by decide)), hQ ρ _ q σ _ (L.trans (mask_w e)) (a.to (L.trans (mask_w e)) (st2.write (o := .dct (putK' l k d)) e (r.put jd)))⟩
  · exact h2.elim
end
end M

namespace M
open PySem PySem.Spec PyProof.Rows L2
def tMethU (C : Addr) (m : Str) (sp : Sp) (dvs : List V) (E : L2.St → XK) (ta : TE) (t : TA) : TE := fun σ H Q => ta σ H fun x H1 => ∃ a dx fs, x = .ref a ∧ H1 a = some (.ins C dx fs) ∧ fs.lookup m = none ∧
  t σ H1 fun vs H2 => sp (x :: (vs ++ dvs)) H2 Q (E σ)
def tMakeU (C : Addr) (sp : Sp) (dvs : List V) (E : L2.St → XK) (t : TA) : TE := fun σ H Q => t σ H fun vs H1 => ∀ x dx, H1 x = none → H1 dx = none → dx ≠ x →
  sp (.ref x :: (vs ++ dvs)) (upd (upd H1 dx (.own x)) x (.ins C dx [])) (fun v H2 => v = .non ∧ Q (.ref x) H2) (E σ)
section
variable {X : Cx} {k j : Nat} {f C : Addr} {ps : List Str} {sp : Sp} {dvs : List V} {x m : Str} {p pos apos : Pos} {e o : Expr} {es : List Expr} {t : TA} {ta : TE} {W : WX} {fd : FuncData} {ds : List Value}
theorem pe_cU (h : Ok X.prog X.w X.K X.mg X.base k f ps dvs sp) (hr : Room j X.A) (hj : k ≤ j) (hm : X.mg x = some (.ref f)) (tk : L2N.Takes X W) (ha : PA X (e :: es) t)
    (hg : Gl X x := by rfl) (hdb : (x == ("__debug__" : Str)) = false := by decide) (he : starEach (e :: es) X.env = (false, eval e X.env) :: starEach es X.env := by rfl) (hpl : (backTo pos (starEach es X.env)).any (·.1) = false := by rfl) :
    PE X (.Call (.Name x p) (e :: es) [] pos) (tCallSD sp dvs (WE W) t) := by
  obtain ⟨fd, ds, F, kp, v, b⟩ := h
  exact pe_callSD F (hr.mono hj) hg hm kp b v (fun σ => L2N.passAt tk σ) ha hdb he hpl
theorem pe_mU {pl : Sem Bool} (h : Ok X.prog X.w X.K X.mg X.base k f ps dvs sp) (hr : Room j X.A) (hj : k ≤ j) (c : Cls X.K C) (hm : Meth X.K C m f) (tk : L2N.Takes X W) (ho : PE X o ta) (ha : PA X (e :: es) t)
    (hst : starEach (e :: es) X.env = (false, eval e X.env) :: starEach es X.env := by rfl) (hpl : (backTo pos (starEach es X.env)).any (·.1) = false := by rfl)
    (ht : eval (.Call (.Attribute o m apos) (e :: es) [] pos) X.env = (do
      let ov ← eval o X.env
      standAt apos.atName
      let (f, first) ← holding [ov] (getMethod ov m pl)
      callWith pos f first (backTo pos (starEach (e :: es) X.env)) (backToKw pos (keywordEach [] X.env))) := by rfl) :
    PE X (.Call (.Attribute o m apos) (e :: es) [] pos) (tMethU C m sp dvs (WE W) ta t) := by
  obtain ⟨fd, ds, F, kp, v, b⟩ := h
  refine ⟨fun pins s σ H Q I h => ?_⟩
  refine PySem.W.methodCall_KW (pl := pl) (thn (ho.run pins s σ H _ I h) fun u s1 ⟨x, H1, I1, rx, a, dx, fs, ex, ea, l, q⟩ => ?_) ht
  subst ex
  obtain rfl : u = Value.ref a := rx
  refine getmeth_ok I1 ea c hm l ?_
  refine PySem.W.callWith_K (first := [.ref a]) (h₀ := X.base) I.ok.mod.kin hm.kp (thn (ha.run pos pins s1 σ H1 _ I1 q) fun us s2 ⟨vs, H2, I2, r, q2⟩ => ⟨I2.kIn, ?_⟩) hst hpl
  exact run_fnSD (us := .ref a :: us) (vs := .ref a :: vs) F (hr.mono hj) b v (L2N.passAt tk σ) I2 (.cons rfl r) q2
theorem run_makeU {pins : List (Addr × Obj)} {σ : L2.St} {H : Hp} {s : Shared} {Q : VK} {us : List Value} {vs : List V} (M : Mk X.K C f) (F : FnOk X.prog X.w X.K X.mg X.base (L2N.CX X.prog X.w) k f fd ps sp) (hr : Room (k + 1) X.A) (hb : Binds X.K fd ps ds) (hd : Vals dvs ds)
    (tk : L2N.Takes X W) (I : Inv X pins σ H s) (r : Vals vs us)
    (h : ∀ x dx, H x = none → H dx = none → dx ≠ x → sp (.ref x :: (vs ++ dvs)) (upd (upd H dx (.own x)) x (.ins C dx [])) (fun v H2 => v = .non ∧ Q (.ref x) H2) (WE W σ)) :
    wpAny (model X.prog X.w) X.A (call (.ref C) us) (EP X pins σ Q) X.xe s := by
  have hq := h (s.heap.objs.size + 1) s.heap.objs.size (I.hok.fresh (Nat.le_succ _)) (I.hok.fresh (Nat.le_refl _)) (Nat.ne_of_lt (Nat.lt_succ_self _))
  have I2 := Inv.made (C := C) I
  have r2 : Vals (V.ref (s.heap.objs.size + 1) :: (vs ++ dvs)) (Value.ref (s.heap.objs.size + 1) :: (us ++ ds)) := .cons rfl (r.append hd)
  have hl : (Value.ref (s.heap.objs.size + 1) :: us ++ ds).length = ps.length := by
    have e := r2.length
    rw [F.len _ _ _ _ hq] at e
    exact e.symm
  refine wpAny_call (make_map (f := f) I.kIn M.makes M.init (beq_iff_eq.mp M.fn) (codeAny_mono (F.run _ X.stack _ _ ⟨Value.ref (s.heap.objs.size + 1) :: us, []⟩ (Value.ref (s.heap.objs.size + 1) :: (us ++ ds)) _ _ (WE W σ) (hr.make C us [])
    (I2.env0.make C us []) (hb _ (Value.ref (s.heap.objs.size + 1) :: us) I2.kIn hl) r2 hq) fun r s' hq' => ?_))
  cases r with
  | error e => exact L2N.passAt tk σ pins _ _ e s' I2 hq'
  | ok fl =>
    cases fl with
    | ret u =>
      obtain ⟨v, H', I3, rv, ev, q3⟩ := I2.after hq'
      subst ev
      exact ⟨rv, ⟨V.ref (s.heap.objs.size + 1), H', I3, rfl, q3⟩⟩
    | next => exact False.elim hq'
    | brk => exact False.elim hq'
    | cont => exact False.elim hq'
theorem pe_kU (mk : Mk X.K C f) (h : Ok X.prog X.w X.K X.mg X.base k f ps dvs sp) (hr : Room j X.A) (hj : k + 1 ≤ j) (hm : X.mg x = some (.ref C)) (tk : L2N.Takes X W) (ha : PA X (e :: es) t)
    (hg : Gl X x := by rfl) (hdb : (x == ("__debug__" : Str)) = false := by decide) (he : starEach (e :: es) X.env = (false, eval e X.env) :: starEach es X.env := by rfl) (hpl : (backTo pos (starEach es X.env)).any (·.1) = false := by rfl) :
    PE X (.Call (.Name x p) (e :: es) [] pos) (tMakeU C sp dvs (WE W) t) := by
  obtain ⟨fd, ds, F, kp, v, b⟩ := h
  refine ⟨fun pins s σ H Q I h => ?_⟩
  refine wpAny_Call_Name_kw (ld_glob I hg hm ?_ hdb)
  refine PySem.W.callWith_K (h₀ := X.base) I.ok.mod.kin mk.kp (thn (ha.run pos pins s σ H _ I h) fun us s1 ⟨vs, H1, I1, r, q⟩ => ⟨I1.kIn, ?_⟩) he hpl
  exact run_makeU mk F (hr.mono hj) b v tk I1 r q
end
section
variable {K : PySem.W.Frag} {W : WX} {ta te : TE} {pa pe : TJ} {xa : TA} {qa : AJ} {w : WJ} {dvs : List V} {dj : List J}
theorem se_callU (hd : ∀ G, Jps K G dvs dj) (hx : Sa K W xa qa) : Se K W (tCallSD (spJ K w) dvs (WE W) xa) (jCall w dj qa) := by
  intro F ρ s σ H Q R QV a hQ hR h
  refine hx F ρ s σ H _ R _ a (fun ds s1 h1 vs H1 l1 st1 j1 => ?_) hR h
  exact ⟨F, s1, ds ++ dj, Q, R, j1.append (hd _), st1, fun d s' q => (hQ d s' q).up l1, fun c fs s' hr => (hR c fs s' hr).up l1, h1⟩
theorem se_methU {c m : Str} (hd : ∀ G, Jps K G dvs dj) (ha : Se K W ta pa) (hx : Sa K W xa qa) : Se K W (tMethU (He.ga K c) m (spJ K w) dvs (WE W) ta xa) (jMeth c m w dj pa qa) := by
  intro F ρ s σ H Q R QV a hQ hR h
  refine ha F ρ s σ H _ R _ a (fun x s1 h1 v1 H1 l1 st1 j1 => ?_) hR h
  obtain ⟨⟨fs, e, el⟩, h1⟩ := h1
  obtain ⟨b, dx, xs, rfl, eb, r⟩ := jp_obj st1 j1 e
  refine ⟨b, dx, xs, rfl, eb, r.look_none el, ?_⟩
  refine hx F ρ s1 σ H1 _ R _ (a.to l1 st1) (fun ds s2 h2 vs H2 l2 st2 j2 => ?_) (fun c fs s' hr => (hR c fs s' hr).up l1) h1
  exact ⟨F, s2, x :: (ds ++ dj), Q, R, .cons (j1.up l2) (j2.append (hd _)), st2, fun d s' q => (hQ d s' q).up (l1.trans l2), fun c fs s' hr => (hR c fs s' hr).up (l1.trans l2), h2⟩
theorem se_makeU {c : Str} (hd : ∀ G, Jps K G dvs dj) (hx : Sa K W xa qa) : Se K W (tMakeU (He.ga K c) (spJ K w) dvs (WE W) xa) (jMake c w dj qa) := by
  intro F ρ s σ H Q R QV a hQ hR h
  refine hx F ρ s σ H _ R _ a (fun ds s1 h1 vs H1 l1 st1 j1 => ?_) hR h
  intro x dx hxn hdn hne
  have n1 : (upd H1 dx (.own x)) x = none := by rw [upd_ne (Ne.symm hne)]; exact hxn
  have st2 := st1.new (h := .own x) hdn
  have st3 := st2.newO (p := x) (h := .ins (He.ga K c) dx []) (o := .ins c []) n1 (show Oh K _ _ _ from ⟨rfl, .nil⟩)
  have l2 : Le (mask F s1 H1) (mask F (put s1 x (.ins c [])) (upd (upd H1 dx (.own x)) x (.ins (He.ga K c) dx []))) := (Le.new hdn).trans (.newO n1)
  refine ⟨F, _, .own x :: (ds ++ dj), _, _, .cons (.own x) ((j1.up l2).append (hd _)), st3, ?_, ?_, h1 x (st1.fresh hxn).1⟩
  · rintro d s' ⟨rfl, fs, e, q⟩ v H' l3 t3 j3
    cases j3
    refine ⟨rfl, ?_⟩
    obtain ⟨dx', xs, h3, r⟩ := t3.ins e
    refine hQ _ _ q _ H' (((l1.trans l2).trans l3).trans (.sub restr_sub)) (t3.sub restr_sub) (.obj (dx := dx') ?_ (frz_jpf t3 r))
    rw [mask_none (t3.sk _ _ e).1]
    · exact h3
    · unfold restr
      rw [(st1.fresh hxn).1]
      simp [keeps]
  · intro c' fs s' q
    exact ((hR c' fs _ q).sub restr_sub).up (l1.trans l2)
end
theorem an {α : Type} {P : α → Prop} : ∀ x ∈ ([] : List α), P x := fun _ h => nomatch h
theorem ac {α : Type} {P : α → Prop} {a : α} {l : List α} (h : P a) (r : ∀ x ∈ l, P x) : ∀ x ∈ a :: l, P x := fun x m => by
  rcases List.mem_cons.mp m with e | m
  · rw [e]; exact h
  · exact r x m
theorem tabB {P : Str × Bool → Prop} {b : Str × Bool → Bool} {tab : List (Str × Bool)} (h : tab.all b = true) (f : ∀ p, b p = true → P p) : ∀ p ∈ tab, P p := fun p m => f p (List.all_eq_true.mp h p m)
/-- a constant of a class -/
def conB (K : PySem.W.Frag) (C : Addr) (f : Str) (v : V) : Bool := match PySem.W.findIn K (.ref C) f with
  | some (some u) => He.relB v u && (He.eqO (PySem.W.specialIn K u "__get__") (some none) && !(PySem.W.copiedNames.contains f))
  | _ => false
theorem conB_ok {K : PySem.W.Frag} {C : Addr} {f : Str} {v : V} (h : conB K C f v = true) : ∃ u, Con K C f v u := by
  unfold conB at h
  split at h
  · rename_i u e
    rw [Bool.and_eq_true, Bool.and_eq_true] at h
    obtain ⟨h1, h2, h3⟩ := h
    exact ⟨u, e, He.relB_ok h1, He.eqO_ok h2, by cases z : PySem.W.copiedNames.contains f with | false => rfl | true => rw [z] at h3; cases h3⟩
  · cases h
theorem con_of {K : PySem.W.Frag} {c f : Str} {v : V} {d : J} (cl : Cls K (He.ga K c)) (h : ∃ u, Con K (He.ga K c) f v u) (j : ∀ G, Jp K G v d) : Cls K (He.ga K c) ∧ ∃ v u, Con K (He.ga K c) f v u ∧ ∀ G, Jp K G v d :=
  let ⟨u, h⟩ := h; ⟨cl, v, u, h, j⟩
end M

namespace M
open PySem PySem.Spec PyProof.Rows L2
section
variable {K : PySem.W.Frag} {W : WX} {ta te : TE} {pa pe : TJ}
def jAug (i : Nat) (p : TJ) (f : Int → Int → Int) : SJ := fun D ρ s => ∃ x : Int, ρ[i]? = some (some (.int x)) ∧ p ρ s (fun y s1 => ∃ j, y = .int j ∧ D.nx (ρ.set i (some (.int (f x j)))) s1) (D.xr ρ)
end
theorem ex_of {X : Cx} {b : List Stmt} {K : PySem.W.Frag} {W : WX} {t : TS} {q : SJ} (h1 : PSs X b t) (h2 : Ss K W t q) : ∃ t, PSs X b t ∧ Ss K W t q := ⟨t, h1, h2⟩
theorem law_endJ {K : PySem.W.Frag} {w : WJ} {H : Hp} {a : Addr} {ns : List Int} {Q : VK} (hw : ∀ (s : Sto), w [.scr ns] s (fun d _ => d = .bl true) No) (h : SqL K H a (ns.map V.int)) (hQ : ∀ H', Q (.bl true) H') {E : XK} : spJ K w [.ref a] H Q E :=
  ⟨fun _ => none, fun _ => none, [.scr ns], _, No, .cons (.scr (Le.sql (G := H) (fun b o e => ⟨o, by rw [mask_none rfl rfl]; exact e, .inl rfl⟩) h)) .nil, ⟨fun _ _ e => (nomatch e), fun _ _ e => (nomatch e)⟩,
    fun d s' e v H' _ _ j => by
      have e : d = .bl true := e
      subst e
      cases j
      exact hQ H', fun _ _ _ e => e.elim, hw _⟩
def J.tname : J → String
  | .non => "NoneType"
  | .bl _ => "bool"
  | .int _ => "int"
  | .str _ => "str"
  | .lst _ => "list"
  | .tup _ => "tuple"
  | .dct _ => "dict"
  | _ => "object"
theorem res_ok {s : Sto} {d : J} {n : Nat} (h : J.okd n d = true) : res s d = d := by
  cases d with
  | own a => unfold J.okd at h; cases h
  | _ => rfl
theorem str_ok {z : Str} {n : Nat} (h : J.okd n (.str z) = true) : z.length ≤ 100000 := by
  unfold J.okd at h
  rw [Bool.and_eq_true] at h
  exact of_decide_eq_true h.1
theorem okd_str {z : Str} {n : Nat} (h1 : z.length ≤ 100000) (h2 : ∀ c ∈ z.cps.toList, c < 0x110000) : J.okd n (.str z) = true := by
  unfold J.okd
  rw [Bool.and_eq_true]
  refine ⟨decide_eq_true h1, ?_⟩
  rw [Array.all_eq_true']
  intro x hx
  exact decide_eq_true (h2 x (by simpa using hx))
theorem put_none {s : Sto} {a b : Addr} {o : O} (h : put s a o b = none) : b ≠ a ∧ s b = none := by
  by_cases e : b = a
  · subst e
    rw [put_same] at h
    cases h
  · rw [put_ne e] at h
    exact ⟨e, h⟩
theorem put_comm {s : Sto} {a b : Addr} {o u : O} (h : a ≠ b) : put (put s a o) b u = put (put s b u) a o := by
  funext c
  unfold put
  by_cases e : c = b
  · subst e
    rw [if_pos rfl, if_neg (Ne.symm h), if_pos rfl]
  · rw [if_neg e]
    by_cases e2 : c = a
    · rw [if_pos e2, if_pos e2]
    · rw [if_neg e2, if_neg e2, if_neg e]
theorem put_sh {s : Sto} {a b : Addr} {o u v : O} (h : a ≠ b) : put (put (put s a o) b u) a v = put (put s b u) a v := by
  rw [put_comm h, put_put]
theorem put_in {s : Sto} {a b : Addr} {o u v : O} (h : a ≠ b) : put (put (put s a o) b u) a v = put (put s a v) b u := by
  rw [put_comm h, put_put, put_comm (Ne.symm h)]
theorem ty_str {s : Sto} {d : J} (h : tyJ s d = some "str") : ∃ z, d = .str z := by
  unfold tyJ at h
  split at h
  · simp at h
  · simp at h
  · simp at h
  · rename_i z e
    exact ⟨z, res_str e⟩
  · simp at h
  · simp at h
  · simp at h
  · cases h
theorem isT_str {s : Sto} {d : J} {t : String} (h : tyJ s d = some t) (n : ∀ z, d ≠ .str z) : isT t "str" = false := by
  have hm := tyJ_mem h
  have : t ≠ "str" := by
    rintro rfl
    obtain ⟨z, e⟩ := ty_str h
    exact n z e
  unfold tys7 at hm
  simp only [List.mem_cons, List.not_mem_nil, or_false] at hm
  rcases hm with rfl | rfl | rfl | rfl | rfl | rfl | rfl <;> first | rfl | exact absurd rfl this
section
variable {ρ : Rho} {s : Sto} {Q : QJ} {R : XJ} {d x y : J} {pa pb pc pe : TJ} {pt pu : BJ} {qa : AJ} {i j : Nat} {r r' : J → J → Sto → QJ → Prop}
theorem y_var (q : Q d s) (e : ρ[i]? = some (some d) := by with_unfolding_all rfl) : jVar i ρ s Q R := ⟨d, e, q⟩
theorem y_c (q : Q d s) : jC d ρ s Q R := q
theorem y_op (h : pa ρ s (fun x s1 => pb ρ s1 (fun y s2 => r x y s2 Q) R) R) : jOp r pa pb ρ s Q R := h
theorem y_un {r : J → Sto → QJ → Prop} (h : pa ρ s (fun x s1 => r x s1 Q) R) : jUn r pa ρ s Q R := h
theorem y_if (h : pt ρ s (fun c s1 => if c = true then pa ρ s1 Q R else pb ρ s1 Q R) R) : jIf pt pa pb ρ s Q R := h
theorem y_test {Q : Bool → Sto → Prop} (h : pa ρ s (fun x s1 => ∃ b, x = .bl b ∧ Q b s1) R) : jTest pa ρ s Q R := h
theorem y_bl {b : Bool} {P : Bool → Prop} (h : P b) : ∃ c, J.bl b = .bl c ∧ P c := ⟨b, rfl, h⟩
theorem y_not {Q : Bool → Sto → Prop} (h : pt ρ s (fun b s1 => Q (!b) s1) R) : jNot pt ρ s Q R := h
theorem y_and {Q : Bool → Sto → Prop} (h : pt ρ s (fun c s1 => if c = true then pu ρ s1 Q R else Q false s1) R) : jAnd pt pu ρ s Q R := h
theorem y_or {Q : Bool → Sto → Prop} (h : pt ρ s (fun c s1 => if c = true then Q true s1 else pu ρ s1 Q R) R) : jOr pt pu ρ s Q R := h
theorem y_yes {Q : Bool → Sto → Prop} (h : Q true s) : jYes ρ s Q R := h
theorem y_andV (h : pa ρ s (fun x s1 => ∃ c, x = .bl c ∧ if c = true then pb ρ s1 Q R else Q (.bl false) s1) R) : jAndV pa pb ρ s Q R := h
theorem y_orV (h : pa ρ s (fun x s1 => ∃ c, x = .bl c ∧ if c = true then Q (.bl true) s1 else pb ρ s1 Q R) R) : jOrV pa pb ρ s Q R := h
theorem y_notV (h : pa ρ s (fun x s1 => ∃ c, x = .bl c ∧ Q (.bl (!c)) s1) R) : jNotV pa ρ s Q R := h
theorem y_chain (h : pa ρ s (fun x s1 => pb ρ s1 (fun y s2 => r x y s2 fun z s3 => ∃ k, z = .bl k ∧ if k = true then pc ρ s3 (fun w s4 => r' y w s4 Q) R else Q (.bl false) s3) R) R) : jChain r r' pa pb pc ρ s Q R := h
theorem y_isN (h : pa ρ s (fun x s1 => Q (.bl x.isN) s1) R) : jIsN pa ρ s Q R := h
theorem y_notN (h : pa ρ s (fun x s1 => Q (.bl (!x.isN)) s1) R) : jNotN pa ρ s Q R := h
theorem y_nil {Q : List J → Sto → Prop} (h : Q [] s) : jNil ρ s Q R := h
theorem y_cons {Q : List J → Sto → Prop} (h : pa ρ s (fun x s1 => qa ρ s1 (fun xs s2 => Q (x :: xs) s2) R) R) : jCons pa qa ρ s Q R := h
def NewJ (n : Nat) (P : Prop) : Prop := n ≤ 100000 ∧ P
theorem y_tup (h : qa ρ s (fun xs s1 => NewJ xs.length (Q (.tup xs) s1)) R) : jTup qa ρ s Q R := h
theorem y_lst (h : qa ρ s (fun xs s1 => NewJ xs.length (Q (.lst xs) s1)) R) : jLst qa ρ s Q R := h
theorem y_newJ {n : Nat} {P : Prop} (h : P) (hz : n ≤ 100000 := by first | decide | (simp only [List.length_cons, List.length_nil]; decide)) : NewJ n P := ⟨hz, h⟩
def Own (s : Sto) (o : O) (Q : J → Sto → Prop) : Prop := ∀ p, s p = none → Q (.own p) (put s p o)
theorem y_lstO (h : qa ρ s (fun xs s1 => NewJ xs.length (Own s1 (.lst xs) Q)) R) : jLstO qa ρ s Q R := h
theorem y_dct0 (h : Q (.dct []) s) : jDct0 ρ s Q R := h
theorem y_dct0O (h : Own s (.dct []) Q) : jDct0O ρ s Q R := h
theorem y_own {o : O} (h : ∀ p, s p = none → Q (.own p) (put s p o)) : Own s o Q := h
theorem y_call0 {w : WJ} (h : qa ρ s (fun ds s1 => w ds s1 Q R) R) : jCall w [] qa ρ s Q R := by
  unfold jCall
  have e : (fun (ds : List J) (s1 : Sto) => w (ds ++ []) s1 Q R) = fun ds s1 => w ds s1 Q R := by funext ds s1; rw [List.append_nil]
  rw [e]
  exact h
theorem y_cb {r : List J → Sto → QJ → Prop} (h : qa ρ s (fun xs s1 => r xs s1 Q) R) : jCB r qa ρ s Q R := h
theorem y_bm {T : String} {r : J → List J → Sto → QJ → Prop} (h : pa ρ s (fun x s1 => tyM s1 T x ∧ qa ρ s1 (fun xs s2 => r x xs s2 Q) R) R) : jBM T r pa qa ρ s Q R := h
theorem y_bm0 {T : String} {r : J → List J → Sto → QJ → Prop} (h : pa ρ s (fun x s1 => tyM s1 T x ∧ r x [] s1 Q) R) : jBM0 T r pa ρ s Q R := h
theorem y_tyS {z : Str} {P : Prop} (h : P) : tyM s "str" (.str z) ∧ P := ⟨.inl ⟨rfl, z, rfl⟩, h⟩
theorem y_tyL {a : Addr} {l : List J} {P : Prop} (e : s a = some (.lst l)) (h : P) : tyM s "list" (.own a) ∧ P := ⟨.inr ⟨rfl, l, by unfold lstOf; dsimp only; rw [e]⟩, h⟩
theorem y_sl {r : J → Option Int → Option Int → Sto → QJ → Prop} {lo hi : PJo} (h : pa ρ s (fun x s1 => lo ρ s1 (fun l s2 => hi ρ s2 (fun u s3 => r x l u s3 Q) R) R) R) : jSl r pa lo hi ρ s Q R := h
theorem y_noPart {Q : Option Int → Sto → Prop} (h : Q none s) : jNoPart ρ s Q R := h
theorem y_part {Q : Option Int → Sto → Prop} (h : pa ρ s (fun d s1 => ∃ i, d = .int i ∧ Q (some i) s1) R) : jPart pa ρ s Q R := h
theorem y_int {i : Int} {P : Int → Prop} (h : P i) : ∃ k, J.int i = .int k ∧ P k := ⟨i, rfl, h⟩
def ObjX (s : Sto) (x : J) (c m : Str) (P : Prop) : Prop := (∃ fs, objOf s x = some (c, fs) ∧ fs.lookup m = none) ∧ P
theorem y_meth0 {c m : Str} {w : WJ} (h : pa ρ s (fun x s1 => ObjX s1 x c m (qa ρ s1 (fun ds s2 => w (x :: ds) s2 Q R) R)) R) : jMeth c m w [] pa qa ρ s Q R := by
  unfold jMeth
  have e : ∀ x : J, (fun (ds : List J) (s1 : Sto) => w (x :: (ds ++ [])) s1 Q R) = fun ds s1 => w (x :: ds) s1 Q R := fun x => by funext ds s1; rw [List.append_nil]
  simp only [e]
  exact h
theorem y_objX {c m : Str} {fs : List (Str × J)} {P : Prop} (h : P) (e : fs.lookup m = none := by with_unfolding_all rfl) : ObjX s (.obj c fs) c m P := ⟨⟨fs, rfl, e⟩, h⟩
theorem y_objO {a : Addr} {c m : Str} {fs : List (Str × J)} {P : Prop} (e1 : s a = some (.ins c fs)) (h : P) (e : fs.lookup m = none := by with_unfolding_all rfl) : ObjX s (.own a) c m P := ⟨⟨fs, by unfold objOf; dsimp only; rw [e1], e⟩, h⟩
def FldX (s : Sto) (L : List Str) (x : J) (f : Str) (P : J → Prop) : Prop := ∃ c fs d, objOf s x = some (c, fs) ∧ c ∈ L ∧ fs.lookup f = some d ∧ P d
theorem y_fld {L : List Str} {f : Str} (h : pa ρ s (fun x s1 => FldX s1 L x f fun d => Q d s1) R) : jFld L pa f ρ s Q R := h
theorem y_fldX {L : List Str} {c f : Str} {fs : List (Str × J)} {P : J → Prop} (h : P d) (e : fs.lookup f = some d := by with_unfolding_all rfl) (hc : c ∈ L := by first | exact List.mem_cons_self | decide) : FldX s L (.obj c fs) f P := ⟨c, fs, d, rfl, hc, e, h⟩
theorem y_fldO {a : Addr} {L : List Str} {c f : Str} {fs : List (Str × J)} {P : J → Prop} (e1 : s a = some (.ins c fs)) (h : P d) (e : fs.lookup f = some d := by with_unfolding_all rfl) (hc : c ∈ L := by first | exact List.mem_cons_self | decide) : FldX s L (.own a) f P :=
  ⟨c, fs, d, by unfold objOf; dsimp only; rw [e1], hc, e, h⟩
def ConX (s : Sto) (L : List Str) (x : J) (f : Str) (P : Prop) : Prop := (∃ c fs, objOf s x = some (c, fs) ∧ c ∈ L ∧ fs.lookup f = none) ∧ P
theorem y_con {L : List Str} {f : Str} (h : pa ρ s (fun x s1 => ConX s1 L x f (Q d s1)) R) : jCon L pa f d ρ s Q R := h
theorem y_conX {L : List Str} {c f : Str} {fs : List (Str × J)} {P : Prop} (h : P) (e : fs.lookup f = none := by with_unfolding_all rfl) (hc : c ∈ L := by first | exact List.mem_cons_self | decide) : ConX s L (.obj c fs) f P := ⟨⟨c, fs, rfl, hc, e⟩, h⟩
theorem y_conO {a : Addr} {L : List Str} {c f : Str} {fs : List (Str × J)} {P : Prop} (e1 : s a = some (.ins c fs)) (h : P) (e : fs.lookup f = none := by with_unfolding_all rfl) (hc : c ∈ L := by first | exact List.mem_cons_self | decide) : ConX s L (.own a) f P :=
  ⟨⟨c, fs, by unfold objOf; dsimp only; rw [e1], hc, e⟩, h⟩
theorem y_add_i {i j : Int} (q : Q (.int (i + j)) s) : addJ (.int i) (.int j) s Q := q
theorem y_add_l {i j : List J} (h : i.length + j.length ≤ 100000) (q : Q (.lst (i ++ j)) s) : addJ (.lst i) (.lst j) s Q := ⟨i, j, rfl, rfl, h, q⟩
theorem y_sub {i j : Int} (q : Q (.int (i - j)) s) : subJ (.int i) (.int j) s Q := ⟨i, j, rfl, rfl, q⟩
theorem y_mul {i j : Int} (q : Q (.int (i * j)) s) (h1 : i.natAbs < Big) (h2 : j.natAbs < Big) : mulJ (.int i) (.int j) s Q := ⟨⟨h1, h2⟩, q⟩
theorem y_div {i j : Int} (q : Q (.int (i / j)) s) (h1 : 0 < j) (h2 : j.natAbs < Big) : divJ (.int i) (.int j) s Q := ⟨i, j, rfl, rfl, ⟨h1, h2⟩, q⟩
theorem y_mod {i j : Int} (q : Q (.int (i % j)) s) (h1 : 0 < j) : modJ (.int i) (.int j) s Q := ⟨i, j, rfl, rfl, h1, q⟩
theorem y_pow {i : Int} {k : Nat} (h : i.natAbs < 2 ^ 64) (q : Q (.int (i ^ k)) s) (hk : k ≤ 1000000 := by decide) : powJ (.int i) (.int (OfNat.ofNat k)) s Q := by
  refine ⟨i, (k : Int), rfl, rfl, ⟨by omega, by omega, h⟩, ?_⟩
  rw [Int.toNat_natCast]
  exact q
theorem y_cmp {f : Int → Int → Bool} {i j : Int} (q : Q (.bl (f i j)) s) : cmpJ f (.int i) (.int j) s Q := ⟨i, j, rfl, rfl, q⟩
theorem y_neg {i : Int} (q : Q (.int (-i)) s) : negJ (.int i) s Q := ⟨i, rfl, q⟩
theorem y_eq_i {i j : Int} (q : Q (.bl (decide (i = j))) s) : eqRJ (.int i) (.int j) s Q := q
theorem y_eq_s {i j : Str} (q : Q (.bl (decide (i = j))) s) : eqRJ (.str i) (.str j) s Q := q
theorem y_eq_b {i j : Bool} (q : Q (.bl (decide (i = j))) s) : eqRJ (.bl i) (.bl j) s Q := q
theorem y_ne_i {i j : Int} (q : Q (.bl (!decide (i = j))) s) : neRJ (.int i) (.int j) s Q := q
theorem y_ne_s {i j : Str} (q : Q (.bl (!decide (i = j))) s) : neRJ (.str i) (.str j) s Q := q
theorem y_ne_b {i j : Bool} (q : Q (.bl (!decide (i = j))) s) : neRJ (.bl i) (.bl j) s Q := q
theorem y_ne_t {l m : List J} (h1 : (J.tup l).ok = true) (h2 : (J.tup m).ok = true) (q : Q (.bl (!eqJ (.tup l) (.tup m))) s) : neRJ (.tup l) (.tup m) s Q := .inl ⟨⟨h1, h2⟩, q⟩
theorem y_eq_l {l m : List J} (h1 : (J.lst l).ok = true) (h2 : (J.lst m).ok = true) (q : Q (.bl (eqJ (.lst l) (.lst m))) s) : eqRJ (.lst l) (.lst m) s Q := .inl ⟨⟨h1, h2⟩, q⟩
theorem y_ne_l {l m : List J} (h1 : (J.lst l).ok = true) (h2 : (J.lst m).ok = true) (q : Q (.bl (!eqJ (.lst l) (.lst m))) s) : neRJ (.lst l) (.lst m) s Q := .inl ⟨⟨h1, h2⟩, q⟩
theorem y_is {a b : Bool} {f : Bool → Bool} (q : Q (.bl (f (decide (a = b)))) s) : isRJ f (.bl a) (.bl b) s Q := ⟨a, b, rfl, rfl, q⟩
theorem y_in_c {n : Nat} {z : Str} (q : Q (.bl (decide (n ∈ z.cps.toList))) s) : inRJ (.str ⟨#[n]⟩) (.str z) s Q := ⟨n, rfl, q⟩
theorem y_in_t {l : List J} (h1 : (res s x).ok = true) (h2 : (J.tup l).ok = true) (q : Q (.bl (l.any fun z => eqJ z (res s x))) s) : inRJ x (.tup l) s Q := by
  cases x <;> exact ⟨⟨h1, h2⟩, q⟩
theorem y_nin_t {l : List J} (h1 : (res s x).ok = true) (h2 : (J.tup l).ok = true) (q : Q (.bl (!l.any fun z => eqJ z (res s x))) s) : notInRJ x (.tup l) s Q := by
  cases x <;> exact ⟨⟨h1, h2⟩, q⟩
theorem y_in_d {l : List (Key × J)} {k : Key} (h : keyOf x = some k) (q : Q (.bl (valJ l k).isSome) s) : inRJ x (.dct l) s Q := by
  cases x <;> exact ⟨k, h, q⟩
theorem y_in_do {a : Addr} {l : List (Key × J)} {k : Key} (e : s a = some (.dct l)) (h : keyOf x = some k) (q : Q (.bl (valJ l k).isSome) s) : inRJ x (.own a) s Q := by
  have r : res s (.own a) = .dct l := by unfold res; dsimp only; rw [e]
  unfold inRJ inR
  rw [r]
  cases x <;> exact ⟨k, h, q⟩
theorem y_ix_l {l : List J} {i : Int} (e : atI l i = some d) (q : Q d s) : ixJ (.lst l) (.int i) s Q := ⟨d, e, q⟩
theorem y_ix_t {l : List J} {i : Int} (e : atI l i = some d) (q : Q d s) : ixJ (.tup l) (.int i) s Q := ⟨d, e, q⟩
theorem y_ix_c {l : List Int} {i : Int} (e : atI (l.map J.int) i = some d) (q : Q d s) : ixJ (.scr l) (.int i) s Q := ⟨d, e, q⟩
theorem y_ix_o {a : Addr} {l : List J} {i : Int} (e1 : s a = some (.lst l)) (e : atI l i = some d) (q : Q d s) : ixJ (.own a) (.int i) s Q := by
  have r : res s (.own a) = .lst l := by unfold res; dsimp only; rw [e1]
  unfold ixJ ixR
  rw [r]
  exact ⟨d, e, q⟩
theorem y_ix_s {z : Str} {i : Int} {c : Nat} (hz : z.length ≤ 100000) (e : atI z.cps.toList i = some c) (q : Q (.str ⟨#[c]⟩) s) : ixJ (.str z) (.int i) s Q := ⟨hz, c, e, q⟩
theorem y_ix_d {l : List (Key × J)} {k : Key} (h : keyOf y = some k) (e : valJ l k = some d) (q : Q d s) : ixJ (.dct l) y s Q := by
  cases y <;> exact ⟨k, d, h, e, q⟩
theorem y_sl_t {l : List J} {lo hi : Option Int} (q : Q (.tup (cutJ l lo hi)) s) : slJ (.tup l) lo hi s Q := q
theorem y_sl_l {l : List J} {lo hi : Option Int} (q : Q (.lst (cutJ l lo hi)) s) : slJ (.lst l) lo hi s Q := ⟨l, rfl, q⟩
theorem y_len_s {z : Str} (hz : z.length ≤ 100000) (q : Q (.int z.length) s) : lenJ [.str z] s Q := ⟨hz, q⟩
theorem y_len_t {l : List J} (q : Q (.int l.length) s) : lenJ [.tup l] s Q := q
theorem y_len_l {l : List J} (q : Q (.int l.length) s) : lenJ [.lst l] s Q := q
theorem y_len_d {l : List (Key × J)} (q : Q (.int l.length) s) : lenJ [.dct l] s Q := q
theorem y_len_c {l : List Int} (q : Q (.int l.length) s) : lenJ [.scr l] s Q := q
theorem y_len_o {a : Addr} {l : List J} (e : s a = some (.lst l)) (q : Q (.int l.length) s) : lenJ [.own a] s Q := by
  unfold lenJ
  dsimp only
  rw [e]
  exact q
theorem y_len_od {a : Addr} {l : List (Key × J)} (e : s a = some (.dct l)) (q : Q (.int l.length) s) : lenJ [.own a] s Q := by
  unfold lenJ
  dsimp only
  rw [e]
  exact q
theorem y_abs {i : Int} (q : Q (.int (i.natAbs : Int)) s) : jAbs [.int i] s Q := ⟨i, rfl, q⟩
theorem y_int1 {i : Int} (q : Q (.int i) s) : jInt [.int i] s Q := q
theorem y_int1b {b : Bool} (q : Q (.int (if b then 1 else 0)) s) : jInt [.bl b] s Q := q
theorem y_max2 {i j : Int} (q : Q (.int (max i j)) s) : jMax2 [.int i, .int j] s Q := ⟨i, j, rfl, q⟩
theorem y_min2 {i j : Int} (q : Q (.int (min i j)) s) : jMin2 [.int i, .int j] s Q := ⟨i, j, rfl, q⟩
theorem y_str_s {z : Str} (q : Q (.str z) s) : jStr [.str z] s Q := q
theorem y_all {bs : List Bool} (q : Q (.bl (bs.all id)) s) : jAll [.lst (bs.map J.bl)] s Q := ⟨_, bs, rfl, rfl, q⟩
theorem y_tuple_l {l : List J} (q : Q (.tup l) s) : jTuple [.lst l] s Q := ⟨l, rfl, q⟩
theorem y_tuple_t {l : List J} (q : Q (.tup l) s) : jTuple [.tup l] s Q := q
theorem y_list_l {l : List J} (q : Q (.lst l) s) : jList [.lst l] s Q := ⟨_, l, rfl, rfl, q⟩
theorem y_list_t {l : List J} (q : Q (.lst l) s) : jList [.tup l] s Q := ⟨_, l, rfl, rfl, q⟩
theorem y_isi {c t : String} (e : tyJ s x = some t) (q : Q (.bl (isT t c)) s) (hc : c ∈ tys6 := by decide) : isiJ [x, .ty c] s Q := ⟨t, e, hc, q⟩
theorem y_truth {Q : Bool → Sto → Prop} (h : pa ρ s (fun d s1 => truJ s1 d fun b => Q b s1) R) : jTruth pa ρ s Q R := h
theorem y_tru_b {b : Bool} {P : Bool → Prop} (h : P b) : truJ s (.bl b) P := h
theorem y_tru_i {i : Int} {P : Bool → Prop} (h : P (i != 0)) : truJ s (.int i) P := h
theorem y_tru_n {P : Bool → Prop} (h : P false) : truJ s .non P := h
theorem y_startswith {a b : Str} (q : Q (.bl (Txt.startswith a b)) s) : startswithJ (.str a) [.str b] s Q := ⟨a, b, rfl, rfl, q⟩
theorem y_join {a : Str} {ys : List Str} (h : (ys.map (·.length)).sum + ys.length * a.length ≤ 16777216) (q : Q (.str (Txt.join a ys)) s) : joinJ (.str a) [.lst (ys.map J.str)] s Q := ⟨a, _, ys, rfl, rfl, rfl, h, q⟩
variable {n bk ct : Rho → Sto → Prop} {rt : QJ} {xr : Rho → XJ} {a b u : SJ} {g : GJ} {gs : GsJ} {l : List J}
theorem y_seq (h : a (EJ.mk (b (EJ.mk n rt bk ct xr)) rt bk ct xr) ρ s) : jSeq a b (EJ.mk n rt bk ct xr) ρ s := h
theorem y_next (h : n ρ s) : jNext (EJ.mk n rt bk ct xr) ρ s := h
theorem y_break (h : bk ρ s) : jBreak (EJ.mk n rt bk ct xr) ρ s := h
theorem y_cont (h : ct ρ s) : jCont (EJ.mk n rt bk ct xr) ρ s := h
theorem y_ret (h : pa ρ s rt (xr ρ)) : jRet pa (EJ.mk n rt bk ct xr) ρ s := h
theorem y_retN (h : rt .non s) : jRetN (EJ.mk n rt bk ct xr) ρ s := h
theorem y_drop (h : pa ρ s (fun _ s1 => n ρ s1) (xr ρ)) : jDrop pa (EJ.mk n rt bk ct xr) ρ s := h
theorem y_ifS (h : pt ρ s (fun c s1 => if c = true then a (EJ.mk n rt bk ct xr) ρ s1 else b (EJ.mk n rt bk ct xr) ρ s1) (xr ρ)) : jIfS pt a b (EJ.mk n rt bk ct xr) ρ s := h
theorem y_asg (h : pa ρ s (fun x s1 => g x ρ s1 n) (xr ρ)) : jAsg pa g (EJ.mk n rt bk ct xr) ρ s := h
theorem y_par (h : qa ρ s (fun xs s1 => ∃ x y, xs = [x, y] ∧ n ((ρ.set i (some x)).set j (some y)) s1) (xr ρ)) : jPar i j qa (EJ.mk n rt bk ct xr) ρ s := h
theorem y_two {x y : J} {P : J → J → Prop} (h : P x y) : ∃ x' y', [x, y] = [x', y'] ∧ P x' y' := ⟨x, y, rfl, h⟩
theorem y_par3 {l : Nat} (h : qa ρ s (fun xs s1 => ∃ x y z, xs = [x, y, z] ∧ n (((ρ.set i (some x)).set j (some y)).set l (some z)) s1) (xr ρ)) : jPar3 i j l qa (EJ.mk n rt bk ct xr) ρ s := h
theorem y_three {x y z : J} {P : J → J → J → Prop} (h : P x y z) : ∃ x' y' z', [x, y, z] = [x', y', z'] ∧ P x' y' z' := ⟨x, y, z, rfl, h⟩
theorem y_aug {p : TJ} {f : Int → Int → Int} {x : Int} (h : p ρ s (fun y s1 => ∃ j, y = .int j ∧ n (ρ.set i (some (.int (f x j)))) s1) (xr ρ)) (e : ρ[i]? = some (some (.int x)) := by with_unfolding_all rfl) : jAug i p f (EJ.mk n rt bk ct xr) ρ s := ⟨x, e, h⟩
theorem y_name {P : Rho → Sto → Prop} (h : P (ρ.set i (some d)) s) : jgName i d ρ s P := h
theorem y_gtup {k : Nat} {P : Rho → Sto → Prop} (h : gs l ρ s P) (e : l.length = k := by with_unfolding_all rfl) : jgTup k gs (.tup l) ρ s P := ⟨l, rfl, e, h⟩
theorem y_gcons {P : Rho → Sto → Prop} (h : g d ρ s fun ρ' s' => gs l ρ' s' P) : jgCons g gs (d :: l) ρ s P := ⟨d, l, rfl, h⟩
theorem y_gnil {P : Rho → Sto → Prop} (h : P ρ s) : jgNil [] ρ s P := ⟨rfl, h⟩
def SetX (s : Sto) (o i y : J) (P : Sto → Prop) : Prop := setR s o i y P
theorem y_gsub {po pi : TJ} {P : Rho → Sto → Prop} (h : po ρ s (fun o s1 => pi ρ s1 (fun i s2 => SetX s2 o i d fun s3 => P ρ s3) No) No) : jgSub po pi d ρ s P := h
theorem y_set_l {a : Addr} {i : Int} {P : Sto → Prop} (e : s a = some (.lst l)) (h : P (put s a (.lst (l.set i.toNat y)))) (h0 : 0 ≤ i := by decide) (hk : i.toNat < l.length := by first | decide | simp) : SetX s (.own a) (.int i) y P := by
  refine ⟨a, rfl, ?_⟩
  rw [e]
  exact ⟨i.toNat, by rw [Int.toNat_of_nonneg h0], hk, h⟩
theorem y_set_d {a : Addr} {kvs : List (Key × J)} {k : Key} {P : Sto → Prop} (e : s a = some (.dct kvs)) (ek : keyOf x = some k) (hl : kvs.length < 100000) (h : P (put s a (.dct (putK' kvs k y)))) : SetX s (.own a) x y P := by
  refine ⟨a, rfl, ?_⟩
  rw [e]
  exact ⟨k, ek, hl, h⟩
theorem y_setF {L : List Str} {pv : TJ} {f : Str} (h : pv ρ s (fun y s1 => pa ρ s1 (fun x s2 => ∃ a c fs, x = .own a ∧ s2 a = some (.ins c fs) ∧ c ∈ L ∧ fs.length < 1000 ∧ n ρ (put s2 a (.ins c (putJ f y fs)))) (xr ρ)) (xr ρ)) : jSetF L pa pv f (EJ.mk n rt bk ct xr) ρ s := h
theorem y_raise1 {c f : Str} (h : qa ρ s (fun ds s1 => ∃ d, ds = [d] ∧ xr ρ c [(f, d)] s1) (xr ρ)) : jRaise1 c f qa (EJ.mk n rt bk ct xr) ρ s := h
theorem y_one {x : J} {P : J → Prop} (h : P x) : ∃ x', [x] = [x'] ∧ P x' := ⟨x, rfl, h⟩
theorem y_while (I : Rho → Sto → Prop) (μ : Rho → Sto → Nat) (h0 : I ρ s) (hs : ∀ ρ s, I ρ s → pt ρ s (fun c s1 => if c = true then b (EJ.mk (fun ρ' s' => I ρ' s' ∧ μ ρ' s' < μ ρ s) rt n (fun ρ' s' => I ρ' s' ∧ μ ρ' s' < μ ρ s) xr) ρ s1 else n ρ s1) (xr ρ)) :
    jWhile pt b (EJ.mk n rt bk ct xr) ρ s := ⟨I, μ, h0, hs⟩
theorem y_for {p : IJ} (h : p ρ s (fun I s1 => forJ I.st g b (EJ.mk n rt bk ct xr) I.items ρ s1) (xr ρ)) : jFor p g b (EJ.mk n rt bk ct xr) ρ s := h
def ItX (s : Sto) (d : J) (P : ItJ → Prop) : Prop := ∃ l, itsOf s d = some l ∧ P ⟨l, stOf s d⟩
theorem y_iU {Q : ItJ → Sto → Prop} (h : pa ρ s (fun d s1 => ItX s1 d fun I => Q I s1) R) : jIU pa ρ s Q R := h
theorem y_it_l {P : ItJ → Prop} (h : P ⟨l, fun _ => True⟩) : ItX s (.lst l) P := ⟨l, rfl, h⟩
theorem y_it_t {P : ItJ → Prop} (h : P ⟨l, fun _ => True⟩) : ItX s (.tup l) P := ⟨l, rfl, h⟩
theorem y_it_s {z : Str} {P : ItJ → Prop} (h : P ⟨sgns z, fun _ => True⟩) : ItX s (.str z) P := ⟨_, rfl, h⟩
theorem y_rng1 {Q : ItJ → Sto → Prop} (h : qa ρ s (fun xs s1 => ∃ j : Int, xs = [.int j] ∧ (j < 2 ^ 62 ∧ -(2 ^ 62) ≤ j) ∧ Q ⟨(List.range j.toNat).map fun (i : Nat) => J.int ((i : Nat) : Int), fun _ => True⟩ s1) R) : jRng1 qa ρ s Q R := h
theorem y_rngJ {k : Int} {P : Int → Prop} (h1 : k < 2 ^ 62 ∧ -(2 ^ 62) ≤ k) (h : P k) : ∃ j : Int, [J.int k] = [.int j] ∧ (j < 2 ^ 62 ∧ -(2 ^ 62) ≤ j) ∧ P j := ⟨k, rfl, h1, h⟩
def EnX (s : Sto) (d : J) (P : ItJ → Prop) : Prop := ∃ l, lstOf s d = some l ∧ P ⟨(List.range l.length).map fun (i : Nat) => J.tup [.int (i : Int), l.getD i .non], stOf s d⟩
theorem y_enum {Q : ItJ → Sto → Prop} (h : qa ρ s (fun xs s1 => ∃ d, xs = [d] ∧ EnX s1 d fun I => Q I s1) R) : jEnum qa ρ s Q R := by
  have e : (fun (xs : List J) (s1 : Sto) => ∃ d, xs = [d] ∧ EnX s1 d fun I => Q I s1) = fun xs s1 => ∃ d l, xs = [d] ∧ lstOf s1 d = some l ∧ Q ⟨(List.range l.length).map fun (i : Nat) => J.tup [.int (i : Int), l.getD i .non], stOf s1 d⟩ s1 := by
    funext xs s1
    apply propext
    constructor
    · rintro ⟨d, e, l, h1, h2⟩
      exact ⟨d, l, e, h1, h2⟩
    · rintro ⟨d, l, e, h1, h2⟩
      exact ⟨d, e, l, h1, h2⟩
  rw [e] at h
  exact h
theorem y_en_l {P : ItJ → Prop} (h : P ⟨(List.range l.length).map fun (i : Nat) => J.tup [.int (i : Int), l.getD i .non], fun _ => True⟩) : EnX s (.lst l) P := ⟨l, rfl, h⟩
/-- a loop by its invariant -/
theorem for_inv {st : Sto → Prop} (I : Nat → Rho → Sto → Prop) (h0 : I 0 ρ s) (hst : ∀ i ρ s, i ≤ l.length → I i ρ s → st s)
    (hs : ∀ (i : Nat) x ρ s (N : Rho → Sto → Prop), l[i]? = some x → I i ρ s → (∀ ρ' s', I (i + 1) ρ' s' → N ρ' s') → g x ρ s fun ρ' s' => b (EJ.mk N rt n N xr) ρ' s')
    (hd : ∀ ρ s, I l.length ρ s → n ρ s) : forJ st g b (EJ.mk n rt bk ct xr) l ρ s := by
  have key : ∀ (k : Nat) (m : List J) ρ s, l.drop k = m → k ≤ l.length → I k ρ s → forJ st g b (EJ.mk n rt bk ct xr) m ρ s := by
    intro k m
    induction m generalizing k with
    | nil =>
      intro ρ s e hk i
      have : k = l.length := by
        have := congrArg List.length e
        simp at this
        omega
      subst this
      exact ⟨hst _ _ _ hk i, hd ρ s i⟩
    | cons x m ih =>
      intro ρ s e hk i
      have hx : l[k]? = some x := by
        have := congrArg (·[0]?) e
        simpa using this
      have hlt := (List.getElem?_eq_some_iff.mp hx).1
      refine ⟨hst _ _ _ hk i, hs k x ρ s _ hx i fun ρ' s' i' => ih (k + 1) ρ' s' ?_ hlt i'⟩
      rw [← List.drop_drop, e]
      rfl
  exact key 0 l ρ s rfl (Nat.zero_le _) h0
theorem y_lc {p : IJ} {vs : List Nat} (h : p ρ s (fun I s1 => lcJ I.st g pt pe (wipeJ ρ vs) (fun acc s2 => Q (.lst acc) s2) I.items [] s1) R) : jLc p g pt pe vs ρ s Q R := h
/-- each item gives f of it; the store stays -/
theorem lc_map {st : Sto → Prop} {Z : List J → Sto → Prop} (f : J → J) (hl : l.length ≤ 100000) (hst : st s)
    (hs : ∀ x ∈ l, ∀ Y : QJ, Y (f x) s → g x ρ s fun ρ2 s2 => pe ρ2 s2 Y No) (q : Z (l.map f) s) : lcJ st g jYes pe ρ Z l [] s := by
  have key : ∀ (m acc : List J), acc.length + m.length ≤ 100000 → (∀ x ∈ m, x ∈ l) → Z (acc ++ m.map f) s → lcJ st g jYes pe ρ Z m acc s := by
    intro m
    induction m with
    | nil =>
      intro acc hz _ q
      rw [List.map_nil, List.append_nil] at q
      exact ⟨hst, q⟩
    | cons x m ih =>
      intro acc hz hm q
      refine ⟨hst, ?_⟩
      show g x ρ s fun ρ2 s2 => if true = true then pe ρ2 s2 (fun y s4 => acc.length < 100000 ∧ lcJ st g jYes pe ρ Z m (acc ++ [y]) s4) No else lcJ st g jYes pe ρ Z m acc s2
      have e : (fun (ρ2 : Rho) (s2 : Sto) => if true = true then pe ρ2 s2 (fun y s4 => acc.length < 100000 ∧ lcJ st g jYes pe ρ Z m (acc ++ [y]) s4) No else lcJ st g jYes pe ρ Z m acc s2) =
        fun ρ2 s2 => pe ρ2 s2 (fun y s4 => acc.length < 100000 ∧ lcJ st g jYes pe ρ Z m (acc ++ [y]) s4) No := by
        funext ρ2 s2
        rw [if_pos rfl]
      rw [e]
      rw [List.length_cons] at hz
      refine hs x (hm x List.mem_cons_self) _ ⟨by omega, ih (acc ++ [f x]) ?_ (fun y hy => hm y (List.mem_cons_of_mem _ hy)) ?_⟩
      · rw [List.length_append]
        simp only [List.length_cons, List.length_nil]
        omega
      · rw [List.append_assoc]
        exact q
  exact key l [] (by simpa using hl) (fun _ h => h) q
/-- a comprehension by its invariant; N what follows a turn -/
theorem lc_inv {st : Sto → Prop} {Z : List J → Sto → Prop} (I : Nat → List J → Sto → Prop) (h0 : I 0 [] s) (hl : l.length ≤ 100000) (hst : ∀ i acc s, i ≤ l.length → I i acc s → st s)
    (hs : ∀ (i : Nat) x acc s (N : List J → Sto → Prop), l[i]? = some x → I i acc s → acc.length < 100000 → (∀ acc' s', acc'.length ≤ i + 1 → I (i + 1) acc' s' → N acc' s') → g x ρ s fun ρ2 s2 => pt ρ2 s2 (fun c s3 => if c = true then pe ρ2 s3 (fun y s4 => acc.length < 100000 ∧ N (acc ++ [y]) s4) No else N acc s3) No)
    (hd : ∀ acc s, acc.length ≤ l.length → I l.length acc s → Z acc s) : lcJ st g pt pe ρ Z l [] s := by
  have key : ∀ (m : List J) (k : Nat) (acc : List J) (s : Sto), l.drop k = m → k ≤ l.length → acc.length ≤ k → I k acc s → lcJ st g pt pe ρ Z m acc s := by
    intro m
    induction m with
    | nil =>
      intro k acc s e hk ha i
      have : k = l.length := by
        have := congrArg List.length e
        simp at this
        omega
      subst this
      exact ⟨hst _ _ _ hk i, hd acc s ha i⟩
    | cons x m ih =>
      intro k acc s e hk ha i
      have hx : l[k]? = some x := by
        have := congrArg (·[0]?) e
        simpa using this
      have hlt := (List.getElem?_eq_some_iff.mp hx).1
      refine ⟨hst _ _ _ hk i, hs k x acc s _ hx i (by omega) fun acc' s' ha' i' => ih (k + 1) acc' s' ?_ hlt ha' i'⟩
      rw [← List.drop_drop, e]
      rfl
  exact key l 0 [] s rfl (Nat.zero_le _) (Nat.le_refl _) h0
theorem y_xf {a dd : Addr} {c x f : Str} (h : pa ρ s (fun y s1 => c = x ∧ ∃ fs v, y = .exc a dd fs ∧ fs.lookup f = some v ∧ Q v s1) R) : jXf a dd c x f pa ρ s Q R := h
theorem y_xf1 {a dd : Addr} {x f : Str} {v : J} {P : J → Prop} (h : P v) : x = x ∧ ∃ fs v', J.exc a dd [(f, v)] = .exc a dd fs ∧ fs.lookup f = some v' ∧ P v' := ⟨rfl, _, v, rfl, by simp [List.lookup], h⟩
theorem y_isX {tab : List (Str × Bool)} {x c : Str} {a dd : Addr} {fs : List (Str × J)} {k : Bool} (q : Q (.bl k) s) (e : tab.lookup c = some k := by with_unfolding_all rfl) : isXJ tab x c a dd [.exc a dd fs, .cls x] s Q := ⟨fs, k, rfl, e, q⟩
def XrJ (tab : List (Str × Bool)) (u : Str → Addr → Addr → SJ) (i : Nat) (n : Rho → Sto → Prop) (rt : QJ) (bk ct : Rho → Sto → Prop) (xr : Rho → XJ) : Rho → XJ := fun ρ' c fs s' => ∃ k, tab.lookup c = some k ∧ if k = true then fs ≠ [] ∧ ∀ a dd, s' a = none → u c a dd (EJ.mk (fun ρ2 s2 => n (ρ2.set i none) s2) rt (fun ρ2 s2 => bk (ρ2.set i none) s2) (fun ρ2 s2 => ct (ρ2.set i none) s2) (fun _ => No)) (ρ'.set i (some (.exc a dd fs))) s' else xr ρ' c fs s'
theorem y_try {tab : List (Str × Bool)} {v : Str → Addr → Addr → SJ} (h : b (EJ.mk n rt bk ct (XrJ tab v i n rt bk ct xr)) ρ s) : jTry tab i b v (EJ.mk n rt bk ct xr) ρ s := h
end
section
variable {ds : List J} {s : Sto} {Q : QJ} {R : XJ} {q : SJ} {n m : Nat}
theorem w_of (h : q (EJ.mk (fun _ s' => Q .non (restr s .non s')) (fun d s' => Q d (restr s d s')) (fun _ _ => False) (fun _ _ => False) (fun _ c fs s' => R c fs (restr s .non s'))) (ds.map some ++ List.replicate (m - n) none) s) (hl : ds.length = n := by rfl) : wOf n m q ds s Q R :=
  ⟨hl, by rw [hl]; exact h⟩
theorem w_ofK (h : q (EJ.mk (fun _ s' => Q .non s') Q (fun _ _ => False) (fun _ _ => False) (fun _ => R)) (ds.map some ++ List.replicate (m - n) none) s) (hl : ds.length = n := by rfl) : wOfK n m q ds s Q R := ⟨hl, by rw [hl]; exact h⟩
/-- what follows C(..) -/
def MkC (c : Str) (s1 : Sto) (p : Addr) (Q : QJ) : QJ := fun v s2 => v = .non ∧ ∃ fs, s2 p = some (.ins c fs) ∧ Q (.obj c (frzFs s1 s2 fs)) (restr s1 .non s2)
def MkR (s1 : Sto) (R : XJ) : XJ := fun c' fs s2 => R c' fs (restr s1 .non s2)
def MkX (c : Str) (w : WJ) (ds : List J) (s1 : Sto) (Q : QJ) (R : XJ) : Prop := ∀ p, s1 p = none → w (.own p :: ds) (put s1 p (.ins c [])) (MkC c s1 p Q) (MkR s1 R)
theorem y_make {c : Str} {w : WJ} {ρ : Rho} {qa : AJ} (h : qa ρ s (fun ds s1 => MkX c w ds s1 Q R) R) : jMake c w [] qa ρ s Q R := by
  unfold jMake
  simp only [List.append_nil]
  exact h
end
section
variable {A B : Prop}
theorem ite_t (h : A) : if true = true then A else B := h
theorem ite_f (h : B) : if false = true then A else B := by rw [if_neg (by decide)]; exact h
theorem ite_d {c : Prop} [Decidable c] (h1 : c → A) (h2 : ¬ c → B) : if decide c = true then A else B := by
  by_cases h : c
  · rw [decide_eq_true h]; exact h1 h
  · rw [decide_eq_false h]; exact ite_f (h2 h)
theorem ite_nd {c : Prop} [Decidable c] (h1 : c → B) (h2 : ¬ c → A) : if (!decide c) = true then A else B := by
  by_cases h : c
  · rw [decide_eq_true h]; exact ite_f (h1 h)
  · rw [decide_eq_false h]; exact h2 h
theorem ite_b {c : Bool} (h1 : c = true → A) (h2 : c = false → B) : if c = true then A else B := by
  cases c with
  | true => exact h1 rfl
  | false => exact ite_f (h2 rfl)
theorem ite_T {c : Bool} (hc : c = true) (h : A) : if c = true then A else B := by rw [hc]; exact h
theorem ite_F {c : Bool} (hc : c = false) (h : B) : if c = true then A else B := by rw [hc]; exact ite_f h
end
end M
namespace M
open PySem PySem.Spec PyProof.Rows L2
section
variable {ρ : Rho} {s : Sto} {R : XJ}
theorem is_S {q : SJ} {n bk ct : Rho → Sto → Prop} {rt : QJ} {xr : Rho → XJ} (h : q (EJ.mk n rt bk ct xr) ρ s) : q (EJ.mk n rt bk ct xr) ρ s := h
theorem is_T {p : TJ} {Q : QJ} (h : p ρ s Q R) : p ρ s Q R := h
theorem is_A {p : AJ} {Q : List J → Sto → Prop} (h : p ρ s Q R) : p ρ s Q R := h
theorem is_B {p : BJ} {Q : Bool → Sto → Prop} (h : p ρ s Q R) : p ρ s Q R := h
theorem is_P {p : PJo} {Q : Option Int → Sto → Prop} (h : p ρ s Q R) : p ρ s Q R := h
theorem is_I {p : IJ} {Q : ItJ → Sto → Prop} (h : p ρ s Q R) : p ρ s Q R := h
theorem is_G {g : GJ} {d : J} {Q : Rho → Sto → Prop} (h : g d ρ s Q) : g d ρ s Q := h
theorem is_Gs {g : GsJ} {d : List J} {Q : Rho → Sto → Prop} (h : g d ρ s Q) : g d ρ s Q := h
theorem is_O {r : J → J → Sto → QJ → Prop} {x y : J} {Q : QJ} (h : r x y s Q) : r x y s Q := h
theorem is_O1 {r : J → Sto → QJ → Prop} {x : J} {Q : QJ} (h : r x s Q) : r x s Q := h
theorem is_L {r : List J → Sto → QJ → Prop} {x : List J} {Q : QJ} (h : r x s Q) : r x s Q := h
theorem is_M {r : J → List J → Sto → QJ → Prop} {x : J} {xs : List J} {Q : QJ} (h : r x xs s Q) : r x xs s Q := h
theorem is_If {A B : Prop} {c : Bool} (h : if c = true then A else B) : if c = true then A else B := h
theorem is_Ex {α : Type} {P : α → Prop} (h : ∃ x, P x) : ∃ x, P x := h
end
end M

namespace M
open PySem PySem.Spec PyProof.Rows L2
def revS (z : Str) : Str := ⟨z.cps.toList.reverse.toArray⟩
def tRevU (K : PySem.W.Frag) (te : TE) : TE := fun σ H Q => te σ H fun x H1 => (∃ a xs, x = .ref a ∧ SqL K H1 a xs ∧ ∀ p, H1 p = none → Q (.ref p) (upd H1 p (.lst xs.reverse))) ∨ ∃ z, x = .str z ∧ z.length ≤ sizeLine ∧ Q (.str (revS z)) H1
theorem revS_ix (z : Str) : (⟨((Builtin.Str.strSliceIndices none none (-1) z.length).filterMap (z.cps[·]?)).toArray⟩ : Str) = revS z := by
  unfold revS Builtin.Str.strSliceIndices
  show (⟨((sliceRange ((z.cps.size : Int) - 1) (-1) (-1)).filterMap (z.cps[·]?)).toArray⟩ : Str) = _
  rw [PySem.W.krv_sliceRange, PySem.W.krv_range, List.filterMap_reverse]
  have e : (List.range z.cps.size).filterMap (z.cps[·]?) = z.cps.toList := by
    apply List.ext_getElem?
    intro i
    have h : ∀ n, n ≤ z.cps.size → (List.range n).filterMap (z.cps[·]?) = z.cps.toList.take n := by
      intro n
      induction n with
      | zero => intro _; simp
      | succ n ih =>
        intro hn
        rw [List.range_succ, List.filterMap_append, ih (by omega), List.take_succ]
        have : n < z.cps.size := by omega
        simp [this]
    rw [h _ (Nat.le_refl _), List.take_of_length_le (by simp)]
  rw [e]
theorem pe_revU {X : Cx} {e : Expr} {te : TE} {k : Nat} {p1 p2 p3 pos : Pos} (he : PE X e te) : PE X (.Subscript e (.Slice none none (some (.UnaryOp .USub (.Constant (.int 1) k p1) p2)) p3) pos) (tRevU X.K te) := by
  refine ⟨fun pins s σ H Q I h => ?_⟩
  refine Subscript_ (thn (he.run pins s σ H _ I h) fun v s1 ⟨x, H1, I1, r1, q1⟩ => ?_)
  have hst : PO X (some (.UnaryOp .USub (.Constant (.int 1) k p1) p2)) (tPart (tUn (rU fun i => .int (-i)) (tC (.int 1)))) := po_some (pe_un un_neg pe_int)
  refine wpAny_Slice (thn (po_none.run pins s1 σ H1 (fun o H2 => o = none ∧ H2 = H1) I1 ⟨rfl, rfl⟩) fun vl s2 ⟨l, H2, I2, pl, el, e2⟩ => ?_)
  subst el e2
  refine thn (po_none.run pins s2 σ H2 (fun o H3 => o = none ∧ H3 = H2) I2 ⟨rfl, rfl⟩) fun vu s3 ⟨u, H3, I3, pu, eu, e3⟩ => ?_
  subst eu e3
  refine thn (hst.run pins s3 σ H3 (fun o H4 => o = some (-1) ∧ H4 = H3) I3 ⟨1, rfl, -1, rfl, rfl, rfl⟩) fun vs s4 ⟨o, H4, I4, ps, eo, e4⟩ => ?_
  subst eo e4
  have I5 : Inv X pins σ H4 { s4 with heap := s4.heap.push { cls := .type "slice", data := .fields #[vl, vu, vs] } } := I4.kept (t' := s4.toks) fun b ob q => Heap.get?_push_of_some _ q
  rcases q1 with ⟨a, xs, ex, hx, q⟩ | ⟨z, ex, hz, q⟩
  · subst ex
    cases r1
    obtain ⟨its, r, ht, hz⟩ := I5.list hx
    have hlen := r.length
    show wpAny (model X.prog X.w) X.A (subscriptTail e (.Slice none none (some (.UnaryOp .USub (.Constant (.int 1) k p1) p2)) p3) (.ref a) (.ref s4.heap.objs.size)) (EP X pins σ Q) X.xe { s4 with heap := s4.heap.push { cls := .type "slice", data := .fields #[vl, vu, vs] } }
    refine tail_any (ops := [.ref a, .ref s4.heap.objs.size]) ht.isList.typeIs (PySem.slot_list_getitem.lookup) ?_ (by with_unfolding_all rfl)
    refine wpAny_getItem_list_slice ht.isList (Heap.IsSliceOf.new _ vl vu vs) pl pu ps (by decide) ?_ (by rw [List.size_toArray]; omega)
    rw [PySem.W.krv_pick]
    refine ⟨.ref _, _, I5.laid (t' := s4.toks) (o := .lst xs.reverse) (fun b ob q => Heap.get?_push_of_some _ q) (Nat.le_refl _) ?_, rfl, q _ (I5.hok.fresh (Nat.le_refl _))⟩
    exact ⟨by rw [List.length_reverse]; exact hz, _, 0, r.reverse, Heap.get?_push_size _ rfl⟩
  · subst ex
    obtain ⟨t, rfl⟩ := r1
    obtain ⟨ll, rfl, e1⟩ := IsPart.raw pl
    obtain ⟨lu, rfl, e2⟩ := IsPart.raw pu
    obtain ⟨ls, rfl, e3⟩ := IsPart.raw ps
    show wpAny (model X.prog X.w) X.A (subscriptTail e (.Slice none none (some (.UnaryOp .USub (.Constant (.int 1) k p1) p2)) p3) (.str z t) (.ref s4.heap.objs.size)) (EP X pins σ Q) X.xe _
    refine tail_any (ops := [.str z t, .ref s4.heap.objs.size]) (typeIs_str _ _ _) (F.slot_str_getitem.lookup) ?_ (by with_unfolding_all rfl)
    have h0 : ((ls.map (·.1)).getD 1 == 0) = false := by rw [e3]; rfl
    refine wpAny_getItem_str_slice (l := ll) (u := lu) (st := ls) ⟨_, Heap.get?_push_size _ rfl, rfl, rfl⟩ h0 ?_
    have key : sliceMade z t ll lu ls = Made.str (revS z) := by
      unfold sliceMade slicePicked
      rw [e1, e2, e3]
      rw [← revS_ix z]
      rfl
    rw [key]
    have hl : (revS z).length ≤ sizeLine := by
      have : (revS z).length = z.length := by unfold revS; show (z.cps.toList.reverse.toArray).size = z.cps.size; simp
      rw [this]; exact hz
    exact ⟨hl, .str _, _, I5.tok _, ⟨_, rfl⟩, q⟩
def jRev (p : TJ) : TJ := fun ρ s Q R => p ρ s (fun x s1 => match x with
  | .str z => z.length ≤ 100000 ∧ Q (.str (revS z)) s1
  | x => ∃ l, lstOf s1 x = some l ∧ Q (.lst l.reverse) s1) R
section
variable {K : PySem.W.Frag} {W : WX} {ta te : TE} {pa pe : TJ} {xa : TA} {qa : AJ}
theorem Jps.reverse {G : Hp} {v : List V} {d : List J} (h : Jps K G v d) : Jps K G v.reverse d.reverse := by
  induction d generalizing v with
  | nil => cases h; exact .nil
  | cons x d ih =>
    cases h with | cons j r =>
    rw [List.reverse_cons, List.reverse_cons]
    exact (ih r).append (.cons j .nil)
theorem se_rev (ha : Se K W ta pa) : Se K W (tRevU K ta) (jRev pa) := by
  intro F ρ s σ H Q R QV a hQ hR h
  refine ha F ρ s σ H _ R _ a (fun x s1 h1 v1 H1 l1 st1 j1 => ?_) hR h
  split at h1
  · cases j1
    exact .inr ⟨_, rfl, Nat.le_trans h1.1 (by decide), hQ _ s1 h1.2 _ H1 l1 st1 (.str _)⟩
  · obtain ⟨l, e, q⟩ := h1
    obtain ⟨b, xs, rfl, h2, r⟩ := jp_list st1 j1 e
    exact .inl ⟨b, xs, rfl, h2, fun p hp => hQ _ s1 q _ _ (l1.trans (.new hp)) (st1.new hp) (.lst (mask_new st1 hp) (r.reverse.up (.new hp)))⟩
inductive Spp (K : PySem.W.Frag) (W : WX) : List (TE × TE) → List (TJ × TJ) → Prop
  | nil : Spp K W [] []
  | cons {tk tv : TE} {pk pv : TJ} {l : List (TE × TE)} {r : List (TJ × TJ)} : Se K W tk pk → Se K W tv pv → Spp K W l r → Spp K W ((tk, tv) :: l) ((pk, pv) :: r)
def jPairs : List (TJ × TJ) → Rho → Sto → (List (J × J) → Sto → Prop) → XJ → Prop
  | [], _, s, Q, _ => Q [] s
  | (pk, pv) :: r, ρ, s, Q, R => pk ρ s (fun x s1 => pv ρ s1 (fun y s2 => jPairs r ρ s2 (fun ps s3 => Q ((x, y) :: ps) s3) R) R) R
inductive Jpp (K : PySem.W.Frag) (G : Hp) : List (V × V) → List (J × J) → Prop
  | nil : Jpp K G [] []
  | cons {u v : V} {x y : J} {l : List (V × V)} {r : List (J × J)} : Jp K G u x → Jp K G v y → Jpp K G l r → Jpp K G ((u, v) :: l) ((x, y) :: r)
theorem Jpp.up {G G' : Hp} (e : Le G G') : ∀ {l : List (V × V)} {r : List (J × J)}, Jpp K G l r → Jpp K G' l r
  | _, _, .nil => .nil
  | _, _, .cons a b c => .cons (a.up e) (b.up e) (Jpp.up e c)
theorem spp {trs : List (TE × TE)} {ps : List (TJ × TJ)} (h : Spp K W trs ps) : ∀ (F : Hp) (ρ : Rho) (s : Sto) (σ : L2.St) (H : Hp) (Q : List (J × J) → Sto → Prop) (R : XJ) (QV : List (V × V) → Hp → Prop), At K F ρ s σ H →
    (∀ d s', Q d s' → ∀ v H', Le (mask F s H) (mask F s' H') → Stt K F s' H' → Jpp K (mask F s' H') v d → QV v H') →
    (∀ c fs s', R c fs s' → Xk K F (mask F s H) (fun cl d H' => W cl d σ H') c fs s') → jPairs ps ρ s Q R → tPairs trs σ H QV := by
  induction h with
  | nil => intro F ρ s σ H Q R QV a hQ hR q; exact hQ _ s q _ H .refl a.st .nil
  | cons hk hv _ ih =>
    intro F ρ s σ H Q R QV a hQ hR q
    refine hk F ρ s σ H _ R _ a (fun x s1 h1 v1 H1 l1 st1 j1 => ?_) hR q
    refine hv F ρ s1 σ H1 _ R _ (a.to l1 st1) (fun y s2 h2 v2 H2 l2 st2 j2 => ?_) (fun c fs s' hr => (hR c fs s' hr).up l1) h1
    have L := l1.trans l2
    refine ih F ρ s2 σ H2 _ R _ (a.to L st2) (fun ps s3 h3 vs H3 l3 st3 j3 => ?_) (fun c fs s' hr => (hR c fs s' hr).up L) h2
    exact hQ _ s3 h3 _ H3 (L.trans l3) st3 (.cons ((j1.up l2).up l3) (j2.up l3) j3)
def kvsOf : List (J × J) → Option (List (Key × J))
  | [] => some []
  | (x, y) :: r => match keyOf x, kvsOf r with
    | some k, some l => some ((k, y) :: l)
    | _, _ => none
def mergeJ (kvs more : List (Key × J)) : List (Key × J) := more.foldl (fun acc kv => putK' acc kv.1 kv.2) kvs
def jDisp (ps : List (TJ × TJ)) : TJ := fun ρ s Q R => jPairs ps ρ s (fun l s1 => ∃ kvs, kvsOf l = some kvs ∧ kvs.length ≤ 15 ∧ Q (.dct (mergeJ [] kvs)) s1) R
theorem kvs_jpd {G : Hp} : ∀ {v : List (V × V)} {l : List (J × J)} {kvs : List (Key × J)}, Jpp K G v l → kvsOf l = some kvs → ∃ kvv : List (Key × V), v = kvv.map (fun kv => (kV kv.1, kv.2)) ∧ Jpd K G kvv kvs
  | _, _, _, .nil, e => by cases e; exact ⟨[], rfl, .nil⟩
  | _, _, _, .cons (x := x) (y := y) (r := r) a b c, e => by
    unfold kvsOf at e
    split at e
    · rename_i k l e1 e2
      cases e
      obtain ⟨kvv, rfl, j⟩ := kvs_jpd c e2
      rw [keyOf_v a e1]
      exact ⟨(k, _) :: kvv, rfl, .cons b j⟩
    · cases e
theorem Jpd.merge {G : Hp} : ∀ {v : List (Key × V)} {l : List (Key × J)} {acc : List (Key × V)} {bcc : List (Key × J)}, Jpd K G acc bcc → Jpd K G v l → Jpd K G (mergeK acc v) (mergeJ bcc l)
  | _, _, _, _, h, .nil => h
  | _, _, _, _, h, .cons (k := k) j r => by
    have := Jpd.merge (Jpd.put (k := k) j h) r
    exact this
theorem disp_core {trs : List (TE × TE)} {ps : List (TJ × TJ)} {F : Hp} {ρ : Rho} {s : Sto} {σ : L2.St} {H : Hp} {Z : List (Key × J) → Sto → Prop} {R : XJ} {QV : VK} (hp : Spp K W trs ps) (a : At K F ρ s σ H)
    (hZ : ∀ kvs s', Z kvs s' → ∀ D xs H', F D = none → Le (mask F s H) (mask (upd F D (.dK xs)) s' H') → Stt K (upd F D (.dK xs)) s' H' → Jpd K (mask (upd F D (.dK xs)) s' H') xs (mergeJ [] kvs) → QV (.ref D) H')
    (hR : ∀ c fs s', R c fs s' → Xk K F (mask F s H) (fun cl d H' => W cl d σ H') c fs s') (h : jPairs ps ρ s (fun l s1 => ∃ kvs, kvsOf l = some kvs ∧ kvs.length ≤ 15 ∧ Z kvs s1) R) : tDisp trs σ H QV := by
  intro D hD
  have fD := (a.st.fresh hD).2
  have st1 := a.st.hid (o := .dK []) hD
  have l1 := Le.hid (F := F) (s := s) (o := .dK []) hD
  refine spp hp (upd F D (.dK [])) ρ s σ (upd H D (.dK [])) _ R _ ⟨a.rs.up l1, st1⟩ (fun l s2 h2 v H2 l2 st2 j2 => ?_) (fun c fs s' hr d H' l' t x => ?_) h
  · obtain ⟨kvs, e, hl, z⟩ := h2
    obtain ⟨kvv, rfl, j⟩ := kvs_jpd j2 e
    refine ⟨st2.fr D _ upd_same, kvv, rfl, by rw [j.length]; exact hl, ?_⟩
    have st3 := st2.hidW (u := .dK (mergeK [] kvv))
    refine hZ kvs s2 z D _ _ fD ?_ st3 ?_
    · rw [mask_hid, mask_hid2 (u := .dK [])]
      exact l1.trans l2
    · rw [mask_hid, mask_hid2 (u := .dK [])]
      exact Jpd.merge .nil j
  · have st3 := t.hidOut fD
    refine (hR c fs s' hr) d H' ((l1.trans l').trans .hidOut) st3.1 ?_
    unfold XD at x ⊢
    cases d with
    | none => exact x
    | some b =>
      obtain ⟨vs, e, r⟩ := x
      exact ⟨vs, Le.hidOut.xd e, r.up .hidOut⟩
theorem se_disp {trs : List (TE × TE)} {ps : List (TJ × TJ)} (hp : Spp K W trs ps) : Se K W (tDisp trs) (jDisp ps) := by
  intro F ρ s σ H Q R QV a hQ hR h
  refine disp_core hp a (fun kvs s' q D xs H' fD l st j => ?_) hR h
  obtain ⟨st2, e1, e2⟩ := st.hidOut fD
  exact hQ _ s' q _ H' (l.trans .hidOut) st2 (.dct (h := .dK xs) (by rw [mask_none fD e1]; exact e2) rfl (j.up .hidOut))
end
section
variable {ρ : Rho} {s : Sto} {Q : QJ} {R : XJ} {pa : TJ}
def RevX (s : Sto) (x : J) (Q : QJ) : Prop := match x with
  | .str z => z.length ≤ 100000 ∧ Q (.str (revS z)) s
  | x => ∃ l, lstOf s x = some l ∧ Q (.lst l.reverse) s
theorem y_rev (h : pa ρ s (fun x s1 => RevX s1 x Q) R) : jRev pa ρ s Q R := h
theorem y_rev_l {l : List J} (h : Q (.lst l.reverse) s) : RevX s (.lst l) Q := ⟨l, rfl, h⟩
def KvX (l : List (J × J)) (P : List (Key × J) → Prop) : Prop := ∃ kvs, kvsOf l = some kvs ∧ kvs.length ≤ 15 ∧ P kvs
theorem y_disp {ps : List (TJ × TJ)} (h : jPairs ps ρ s (fun l s1 => KvX l fun kvs => Q (.dct (mergeJ [] kvs)) s1) R) : jDisp ps ρ s Q R := h
theorem y_kv {l : List (J × J)} {kvs : List (Key × J)} {P : List (Key × J) → Prop} (h : P kvs) (e : kvsOf l = some kvs := by with_unfolding_all rfl) (hl : kvs.length ≤ 15 := by first | decide | simp) : KvX l P := ⟨kvs, e, hl, h⟩
theorem y_pn {Q : List (J × J) → Sto → Prop} (h : Q [] s) : jPairs [] ρ s Q R := h
theorem y_pc {pk pv : TJ} {r : List (TJ × TJ)} {Q : List (J × J) → Sto → Prop} (h : pk ρ s (fun x s1 => pv ρ s1 (fun y s2 => jPairs r ρ s2 (fun ps s3 => Q ((x, y) :: ps) s3) R) R) R) : jPairs ((pk, pv) :: r) ρ s Q R := h
end
end M

namespace M
open PySem PySem.Spec PyProof.Rows L2
/-- the pairs of a list as a table -/
def kvsOfL : List J → Option (List (Key × J))
  | [] => some []
  | .tup [x, y] :: r => match keyOf x, kvsOfL r with
    | some k, some l => some ((k, y) :: l)
    | _, _ => none
  | _ => none
def dictR (s : Sto) (d : J) (P : List (Key × J) → Prop) : Prop := (∃ l kvs, lstOf s d = some l ∧ kvsOfL l = some kvs ∧ P (mergeJ [] kvs)) ∨ ∃ kvs, res s d = .dct kvs ∧ P kvs
def jDict (xs : List J) (s : Sto) (Q : QJ) : Prop := ∃ d, xs = [d] ∧ dictR s d fun kvs => Q (.dct kvs) s
def jDictO (xs : List J) (s : Sto) (Q : QJ) : Prop := ∃ d, xs = [d] ∧ dictR s d fun kvs => ∀ p, s p = none → Q (.own p) (put s p (.dct kvs))
section
variable {K : PySem.W.Frag}
def uDict (K : PySem.W.Frag) : List V → Hp → VK → Prop := fun xs H Q => (∃ (a : Addr) (ps : List Addr) (kvs : List (Key × V)), xs = [.ref a] ∧ SqL K H a (ps.map V.ref) ∧ Paired (fun p kv => SqT K H p [kV kv.1, kv.2]) ps kvs ∧ ∀ p, H p = none → Q (.ref p) (upd H p (.dK (mergeK [] kvs)))) ∨
  (∃ (a : Addr) (kvs : List (Key × V)), xs = [.ref a] ∧ Rd H a (.dK kvs) ∧ ∀ p, H p = none → Q (.ref p) (upd H p (.dK kvs)))
theorem call_dictU {X : Cx} (hc : X.calm = true) : CallR X (.type "dict") (uDict X.K) := CallR.or (call_dictP hc) call_dictD
theorem pairs_of {G : Hp} : ∀ {v : List V} {l : List J} {kvs : List (Key × J)}, Jps K G v l → kvsOfL l = some kvs → ∃ (ps : List Addr) (kvv : List (Key × V)), v = ps.map V.ref ∧ Paired (fun p kv => SqT K G p [kV kv.1, kv.2]) ps kvv ∧ Jpd K G kvv kvs
  | _, _, _, .nil, e => by cases e; exact ⟨[], [], rfl, .nil, .nil⟩
  | _, _, _, .cons (d := d) (ds := r) j t, e => by
    unfold kvsOfL at e
    split at e
    · rename_i h; cases h
    · rename_i x y r' h
      cases h
      split at e
      · rename_i k l e1 e2
        cases e
        obtain ⟨ps, kvv, rfl, p, jd⟩ := pairs_of t e2
        cases j with | tup ht jj =>
        obtain ⟨u, w, rfl, j1, j2⟩ := jps2 jj
        rename_i a
        have ek := keyOf_v j1 e1
        subst ek
        exact ⟨a :: ps, (k, w) :: kvv, rfl, .cons ht p, .cons j2 jd⟩
      · cases e
    · cases e
theorem paired_mono {α β : Type} {R R' : α → β → Prop} (h : ∀ a b, R a b → R' a b) : ∀ {l : List α} {m : List β}, Paired R l m → Paired R' l m
  | _, _, .nil => .nil
  | _, _, .cons a r => .cons (h _ _ a) (paired_mono h r)
theorem dict_core {F : Hp} {s : Sto} {H : Hp} {u : V} {d : J} {P : List (Key × J) → Prop} {QV : VK} (t : Stt K F s H) (j : Jp K (mask F s H) u d) (h : dictR s d P)
    (q : ∀ kvs kvv p, P kvs → H p = none → Jpd K (mask F s H) kvv kvs → QV (.ref p) (upd H p (.dK kvv))) : uDict K [u] H QV := by
  rcases h with ⟨l, kvs, e, e2, z⟩ | ⟨kvs, e, z⟩
  · obtain ⟨a, xs, rfl, h1, r⟩ := jp_list t j e
    obtain ⟨ps, kvv, rfl, p, jd⟩ := pairs_of r e2
    exact .inl ⟨a, ps, kvv, rfl, h1, paired_mono (fun _ _ h => sqt_mask h) p, fun p hp => q _ _ p z hp (Jpd.merge .nil jd)⟩
  · obtain ⟨a, h, xs, rfl, e1, c, r⟩ := jp_dct t j e
    refine .inr ⟨a, xs, rfl, ?_, fun p hp => q _ _ p z hp r⟩
    rcases cor_dK c with rfl | ⟨o, rfl⟩
    · exact .inl e1
    · exact .inr ⟨o, e1⟩
theorem sf_dict : Sf K (uDict K) jDict := by
  intro F s H v x Q QV t js hQ h
  obtain ⟨d, rfl, h⟩ := h
  obtain ⟨u, rfl, j⟩ := jps1 js
  exact dict_core t j h fun kvs kvv p z hp r => hQ _ s z _ _ (.new hp) (t.new hp) (.dct (mask_new t hp) rfl (r.up (.new hp)))
theorem sf_dictO : Sf K (uDict K) jDictO := by
  intro F s H v x Q QV t js hQ h
  obtain ⟨d, rfl, h⟩ := h
  obtain ⟨u, rfl, j⟩ := jps1 js
  exact dict_core t j h fun kvs kvv p z hp r => hQ _ _ (z p (t.fresh hp).1) _ _ (.newO hp) (t.newO (o := .dct kvs) hp r) (.own p)
end
section
variable {s : Sto} {Q : QJ}
theorem y_dict_l {l : List J} {kvs : List (Key × J)} (e : kvsOfL l = some kvs) (q : Q (.dct (mergeJ [] kvs)) s) : jDict [.lst l] s Q := ⟨_, rfl, .inl ⟨l, kvs, rfl, e, q⟩⟩
theorem y_dict_d {kvs : List (Key × J)} (q : Q (.dct kvs) s) : jDict [.dct kvs] s Q := ⟨_, rfl, .inr ⟨kvs, rfl, q⟩⟩
end
end M

namespace M
open PySem PySem.Spec PyProof.Rows L2
section
variable {s : Sto} {R : XJ} {Q : QJ} {x y : J}
theorem is_Fld {L : List Str} {f : Str} {P : J → Prop} (h : FldX s L x f P) : FldX s L x f P := h
theorem is_FldO {L : List Str} {f : Str} {a : Addr} {P : J → Prop} (h : FldX s L (.own a) f P) : FldX s L (.own a) f P := h
theorem is_Obj {c m : Str} {P : Prop} (h : ObjX s x c m P) : ObjX s x c m P := h
theorem is_ObjO {c m : Str} {a : Addr} {P : Prop} (h : ObjX s (.own a) c m P) : ObjX s (.own a) c m P := h
theorem is_Con {L : List Str} {f : Str} {P : Prop} (h : ConX s L x f P) : ConX s L x f P := h
theorem is_ConO {L : List Str} {f : Str} {a : Addr} {P : Prop} (h : ConX s L (.own a) f P) : ConX s L (.own a) f P := h
theorem is_tyO {T : String} {a : Addr} {P : Prop} (h : tyM s T (.own a) ∧ P) : tyM s T (.own a) ∧ P := h
theorem is_SetO {a : Addr} {i : J} {P : Sto → Prop} (h : SetX s (.own a) i y P) : SetX s (.own a) i y P := h
theorem is_New {n : Nat} {P : Prop} (h : NewJ n P) : NewJ n P := h
theorem is_Kv {l : List (J × J)} {P : List (Key × J) → Prop} (h : KvX l P) : KvX l P := h
theorem is_It {P : ItJ → Prop} (h : ItX s x P) : ItX s x P := h
theorem is_En {P : ItJ → Prop} (h : EnX s x P) : EnX s x P := h
theorem is_Tru {P : Bool → Prop} (h : truJ s x P) : truJ s x P := h
theorem is_mul (h : mulJ x y s Q) : mulJ x y s Q := h
theorem is_div (h : divJ x y s Q) : divJ x y s Q := h
theorem is_mod (h : modJ x y s Q) : modJ x y s Q := h
theorem is_pow (h : powJ x y s Q) : powJ x y s Q := h
theorem is_ix (h : ixJ x y s Q) : ixJ x y s Q := h
theorem is_ixl {l : List J} (h : ixJ (.lst l) y s Q) : ixJ (.lst l) y s Q := h
theorem is_ixt {l : List J} (h : ixJ (.tup l) y s Q) : ixJ (.tup l) y s Q := h
theorem is_ixo {a : Addr} (h : ixJ (.own a) y s Q) : ixJ (.own a) y s Q := h
theorem is_isi {xs : List J} (h : isiJ xs s Q) : isiJ xs s Q := h
theorem is_lenO {a : Addr} (h : lenJ [.own a] s Q) : lenJ [.own a] s Q := h
theorem is_isXJ {tab : List (Str × Bool)} {n c : Str} {a dd : Addr} {xs : List J} (h : isXJ tab n c a dd xs s Q) : isXJ tab n c a dd xs s Q := h
theorem is_jVar {i : Nat} {ρ : Rho} (h : jVar i ρ s Q R) : jVar i ρ s Q R := h
theorem is_jAug {i : Nat} {p : TJ} {f : Int → Int → Int} {D : EJ} {ρ : Rho} (h : jAug i p f D ρ s) : jAug i p f D ρ s := h
theorem is_jgTup {k : Nat} {gs : GsJ} {d : J} {ρ : Rho} {P : Rho → Sto → Prop} (h : jgTup k gs d ρ s P) : jgTup k gs d ρ s P := h
end
end M

namespace M
open PySem PySem.Spec PyProof.Rows L2
section
variable {X : Cx} {pins : List (Addr × Obj)} {σ : L2.St} {H : Hp} {s : Shared} {z l : Str} {u : Value}
end
end M

namespace M
open PySem PySem.Spec PyProof.Rows L2
def dcJ (st : Sto → Prop) (g : GJ) (tt : BJ) (tk tv : TJ) (ρ : Rho) (Q : List (Key × J) → Sto → Prop) : List J → List (Key × J) → Sto → Prop
  | [], acc, s => st s ∧ Q acc s
  | x :: l, acc, s => st s ∧ g x ρ s fun ρ2 s2 => tt ρ2 s2 (fun b s3 => if b = true then tk ρ2 s3 (fun y s4 => tv ρ2 s4 (fun z s5 => ∃ k, keyOf y = some k ∧ acc.length < 100000 ∧ dcJ st g tt tk tv ρ Q l (putK' acc k z) s5) No) No else dcJ st g tt tk tv ρ Q l acc s3) No
def jDcO (p : IJ) (g : GJ) (tt : BJ) (tk tv : TJ) (vs : List Nat) : TJ := fun ρ s Q R => p ρ s (fun I s1 => dcJ I.st g tt tk tv (wipeJ ρ vs) (fun acc s2 => ∀ p, s2 p = none → Q (.own p) (put s2 p (.dct acc))) I.items [] s1) R
section
variable {K : PySem.W.Frag} {W : WX} {te tk tv : TE} {pe pk pv : TJ} {tt : TT} {pt : BJ} {g : TG} {gj : GJ} {ti : TI} {pi : IJ} {vs : List Nat}
theorem dcJ_st {st : Sto → Prop} {ρ : Rho} {Q : List (Key × J) → Sto → Prop} {l : List J} {acc : List (Key × J)} {s : Sto} (h : dcJ st gj pt pk pv ρ Q l acc s) : st s := by
  cases l <;> exact h.1
theorem dc_coreJ {F : Hp} {ρ : Rho} {s : Sto} {σ : L2.St} {H : Hp} {Q : List (Key × J) → Sto → Prop} {R : XJ} {QV : VK} (hi : Si K W ti pi) (hg : Sgw K vs g gj) (ht : Sb K W0 tt pt) (hk : Se K W0 tk pk) (hv : Se K W0 tv pv) (a : At K F ρ s σ H)
    (hQ : ∀ acc s', Q acc s' → ∀ D xs H', F D = none → Le (mask F s H) (mask (upd F D (.dK xs)) s' H') → Stt K (upd F D (.dK xs)) s' H' → Jpd K (mask (upd F D (.dK xs)) s' H') xs acc → QV (.ref D) H')
    (hR : ∀ c fs s', R c fs s' → Xk K F (mask F s H) (fun cl d H' => W cl d σ H') c fs s') (h : pi ρ s (fun I s1 => dcJ I.st gj pt pk pv (wipeJ ρ vs) Q I.items [] s1) R) : tDc ti g tt tk tv vs σ H QV := by
  refine hi F ρ s σ H _ R _ a (fun I s1 h1 Jt H1 l1 st1 it D hD => ?_) hR h
  have fD := (st1.fresh hD).2
  refine ⟨fun i m H' => m = I.items.length - i ∧ i ≤ I.items.length ∧ ∃ acc s' xs, Le (mask F s1 H1) (mask (upd F D (.dK xs)) s' H') ∧ Stt K (upd F D (.dK xs)) s' H' ∧ Jpd K (mask (upd F D (.dK xs)) s' H') xs acc ∧ dcJ I.st gj pt pk pv (wipeJ ρ vs) Q (I.items.drop i) acc s',
    ⟨_, rfl, Nat.zero_le _, [], s1, [], .hid hD, st1.hid hD, .nil, h1⟩, ?_⟩
  rintro i m H2 ⟨rfl, hi, acc, s2, xs, l2, st2, j2, h2⟩
  have z := it _ i s2 H2 l2 st2 (dcJ_st h2)
  by_cases hlt : i < I.items.length
  · have dr : I.items.drop i = I.items[i] :: I.items.drop (i + 1) := (List.drop_eq_getElem_cons hlt)
    rw [dr] at h2
    obtain ⟨go, yl⟩ := z.1 hlt
    refine .inr ⟨go, fun H' => i + 1 ≤ I.items.length ∧ ∃ acc s' xs, Le (mask F s1 H1) (mask (upd F D (.dK xs)) s' H') ∧ Stt K (upd F D (.dK xs)) s' H' ∧ Jpd K (mask (upd F D (.dK xs)) s' H') xs acc ∧ dcJ I.st gj pt pk pv (wipeJ ρ vs) Q (I.items.drop (i + 1)) acc s',
      fun H' p => ⟨I.items.length - (i + 1), by omega, rfl, p.1, p.2⟩, fun x H3 y => ?_⟩
    obtain ⟨l3, st3, d, ed, jd⟩ := yl x H3 y
    rw [List.getElem?_eq_getElem hlt] at ed
    cases ed
    have a3 : At K (upd F D (.dK xs)) (wipeJ ρ vs) s2 (wipe σ vs) H3 := ⟨(a.rs.wipe vs).up ((l1.trans l2).trans l3), st3⟩
    refine hg _ x _ _ s2 _ H3 _ _ a3 jd (fun ρ4 s4 h4 σ4 H4 l4 a4 w4 => ?_) h2.2
    refine ⟨w4.trans (by
      have : ∀ ws : List Nat, (∀ i ∈ ws, i ∈ vs) → wipe (wipe σ ws) vs = wipe σ vs := fun ws hw => by
        induction ws with
        | nil => rfl
        | cons i ws ih =>
          show wipe ((wipe σ ws).set i none) vs = wipe σ vs
          rw [wipe_set (hw i List.mem_cons_self)]
          exact ih fun j hj => hw j (List.mem_cons_of_mem _ hj)
      exact this vs fun _ h => h), ?_⟩
    refine ht _ ρ4 s4 σ4 H4 _ No _ a4 (fun b s5 h5 H5 l5 st5 => ?_) (fun _ _ _ z => z.elim) h4
    have L5 := ((l2.trans l3).trans l4).trans l5
    cases b with
    | true =>
      refine hk _ ρ4 s5 σ4 H5 _ No _ (a4.to l5 st5) (fun y s6 h6 v6 H6 l6 st6 j6 => ?_) (fun _ _ _ z => z.elim) h5
      refine hv _ ρ4 s6 σ4 H6 _ No _ ((a4.to l5 st5).to l6 st6) (fun z s7 h7 v7 H7 l7 st7 j7 => ?_) (fun _ _ _ z => z.elim) h6
      obtain ⟨k, ek, hz, h7⟩ := h7
      have jx := Jpd.put (k := k) j7 (((((j2.up l3).up l4).up l5).up l6).up l7)
      refine ⟨xs, k, keyOf_v j6 ek, st7.fr D _ upd_same, by rw [j2.length]; exact Nat.lt_of_lt_of_le hz (by decide), hlt, _, s7, putK xs k v7, ?_, st7.hidW, ?_, h7⟩
      · rw [mask_hid, mask_hid2 (u := .dK xs)]
        exact (L5.trans l6).trans l7
      · rw [mask_hid, mask_hid2 (u := .dK xs)]
        exact jx
    | false => exact ⟨hlt, acc, s5, xs, L5, st5, ((j2.up l3).up l4).up l5, h5⟩
  · have q : i = I.items.length := by omega
    subst q
    rw [List.drop_length] at h2
    exact .inl ⟨z.2 rfl, hQ acc s2 h2.2 D xs H2 fD (l1.trans l2) st2 j2⟩
theorem se_dcO (hi : Si K W ti pi) (hg : Sgw K vs g gj) (ht : Sb K W0 tt pt) (hk : Se K W0 tk pk) (hv : Se K W0 tv pv) : Se K W (tDc ti g tt tk tv vs) (jDcO pi gj pt pk pv vs) := by
  intro F ρ s σ H Q R QV a hQ hR h
  refine dc_coreJ hi hg ht hk hv a (fun acc s' q D xs H' fD l st j => ?_) hR h
  exact hQ _ _ (q D (st.hidOut fD).2.1) _ H' (l.trans .hidOwn) (st.hidOwn (u := .dct acc) fD j) (.own D)
end
theorem dc_inv {st : Sto → Prop} {g : GJ} {pt : BJ} {pk pv : TJ} {l : List J} {ρ : Rho} {s : Sto} {Z : List (Key × J) → Sto → Prop} (I : Nat → List (Key × J) → Sto → Prop) (h0 : I 0 [] s) (hst : ∀ i acc s, i ≤ l.length → I i acc s → st s)
    (hs : ∀ i x acc s (N : List (Key × J) → Sto → Prop), l[i]? = some x → I i acc s → (∀ acc' s', I (i + 1) acc' s' → N acc' s') → g x ρ s fun ρ2 s2 => pt ρ2 s2 (fun b s3 => if b = true then pk ρ2 s3 (fun y s4 => pv ρ2 s4 (fun z s5 => ∃ k, keyOf y = some k ∧ acc.length < 100000 ∧ N (putK' acc k z) s5) No) No else N acc s3) No)
    (hd : ∀ acc s, I l.length acc s → Z acc s) : dcJ st g pt pk pv ρ Z l [] s := by
  have key : ∀ (m : List J) (i : Nat) acc s, l.drop i = m → i ≤ l.length → I i acc s → dcJ st g pt pk pv ρ Z m acc s := by
    intro m
    induction m with
    | nil =>
      intro i acc s e hi h
      have : l.length ≤ i := List.drop_eq_nil_iff.mp e
      have e2 : i = l.length := by omega
      subst e2
      exact ⟨hst _ acc s (Nat.le_refl _) h, hd acc s h⟩
    | cons x m ih =>
      intro i acc s e hi h
      have hlt : i < l.length := by
        rcases Nat.lt_or_ge i l.length with k | k
        · exact k
        · rw [List.drop_of_length_le k] at e; cases e
      rw [List.drop_eq_getElem_cons hlt] at e
      injection e with e1 e2
      refine ⟨hst i acc s hi h, ?_⟩
      exact hs i x acc s (fun acc s => dcJ st g pt pk pv ρ Z m acc s) (by rw [List.getElem?_eq_getElem hlt, e1]) h fun acc' s' h' => ih (i + 1) acc' s' e2 hlt h'
  exact key l 0 [] s rfl (Nat.zero_le _) h0
end M

namespace M
open PySem PySem.Spec PyProof.Rows L2
section
variable {X : Cx} {k j : Nat} {f C : Addr} {ps : List Str} {sp : Sp} {fd : FuncData} {pins : List (Addr × Obj)} {σ : L2.St} {H : Hp} {s : Shared} {Q : VK} {us : List Value} {vs : List V} {A : Around}
end
section
variable {M : Model} {prog : Program} {w : World} {A : Around} {E : Value → Shared → Prop} {s : Shared} {K : PySem.W.Frag} {x C f : Addr} {ox : Obj} {od : Option Obj} {y : Value}
end
section
variable {X : Cx} {k j : Nat} {f C : Addr} {ps : List Str} {sp : Sp} {p pos : Pos} {fe e : Expr} {es : List Expr} {tf : TE} {t : TA} {W : WX}
end
section
variable {K : PySem.W.Frag} {w : WJ} {c : Str} {L : List Str} {W : WX} {tf : TE} {pf : TJ} {xa : TA} {qa : AJ}
theorem lookup_mem {α β : Type} [BEq α] [LawfulBEq α] {a : α} {b : β} : ∀ {l : List (α × β)}, l.lookup a = some b → (a, b) ∈ l
  | [], h => by cases h
  | (k, v) :: r, h => by
    unfold List.lookup at h
    split at h
    · rename_i e
      cases h
      rw [eq_of_beq e]
      exact List.mem_cons_self
    · exact List.mem_cons_of_mem _ (lookup_mem h)
end
section
variable {s : Sto} {Q : QJ} {R : XJ} {x y : J}
end
end M

namespace M
open PySem PySem.Spec PyProof.Rows L2
section
variable {P : Program} {w : World} {κ : Type} [DecidableEq κ] {kd : PySem.KeyKind P w κ}
def RowK (kd : PySem.KeyKind P w κ) (e : Int × Value) (k : κ) : Prop := kd.is k e.2 = true ∧ e.1 = kd.hash k ∧ e.2.scannable = true
/-- the set at a holds the keys ks -/
def KeySet (kd : PySem.KeyKind P w κ) (hp : Heap) (a : Addr) (ks : List κ) : Prop := ∃ o es ep t, hp.get? a = some o ∧ o.ExactSet ∧ o.data = .set es ep t ∧ Paired (RowK kd) es.toList ks ∧ ks.Nodup ∧
  (es.size < scanBound ∧ t.fits es.size = true) ∧ Ris t.place.toList ∧ (w.params.followText "set-order" = true ∨ t.led = true)
theorem KeySet.to {hp hp' : Heap} {a : Addr} {ks : List κ} (R : KeySet kd hp a ks) (z : ∀ o, hp.get? a = some o → hp'.get? a = some o) : KeySet kd hp' a ks := by
  obtain ⟨ob, es, ep, tb, e, rest⟩ := R
  exact ⟨ob, es, ep, tb, z ob e, rest⟩
theorem KeySet.type {s : Shared} {a : Addr} {ks : List κ} (R : KeySet kd s.heap a ks) : s.TypeIs (.ref a) "set" := by
  obtain ⟨ob, _, _, _, e, ex, _⟩ := R
  exact ⟨ob, e, ex.1⟩
end
section
variable {P : Program} {w : World} {κ : Type} [DecidableEq κ] {kd : PySem.KeyKind P w κ} {A : Around} {E : Value → Shared → Prop} {s : Shared} {a : Addr} {ks : List κ}
set_option maxHeartbeats 3200000 in
end
section
variable {P : Program} {w : World} {A : Around} {E : Value → Shared → Prop} {s : Shared} {a : Addr}
end
section
variable {X : Cx}
end
section
variable {K : PySem.W.Frag} {P : Program} {w : World} {W : WX} {xa : TA} {qa : AJ}
end
section
variable {s : Sto} {Q : QJ} {R : XJ} {ρ : Rho} {qa : AJ}
end
section
variable {K : PySem.W.Frag} {w : World}
end
end M

namespace M
open PySem PySem.Spec PyProof.Rows L2
end M
namespace M
open PySem PySem.Spec PyProof.Rows L2
end M

namespace M
open PySem PySem.Spec PyProof.Rows L2
def kJ : Key → J
  | .inl i => .int i
  | .inr z => .str z
def jListD (xs : List J) (s : Sto) (Q : QJ) : Prop := ∃ d kvs, xs = [d] ∧ res s d = .dct kvs ∧ Q (.lst (kvs.map fun kv => kJ kv.1)) s
theorem keys_J {K : PySem.W.Frag} {G : Hp} : ∀ {xs : List (Key × V)} {ks : List (Key × J)}, Jpd K G xs ks → Jps K G (xs.map fun kv => kV kv.1) (ks.map fun kv => kJ kv.1)
  | _, _, .nil => .nil
  | _, _, .cons (k := k) _ t => .cons (by cases k <;> constructor) (keys_J t)
def rListK : List V → Hp → VK → Prop := fun xs H Q => ∃ (a : Addr) (kvs : List (Key × V)), xs = [.ref a] ∧ Rd H a (.dK kvs) ∧ ∀ p, H p = none → Q (.ref p) (upd H p (.lst (kvs.map fun kv => kV kv.1)))
theorem call_listK {X : Cx} (hc : X.calm = true) : CallR X (.type "list") rListK := call_listD hc
section
variable {K : PySem.W.Frag}
theorem sf_listD : Sf K rListK jListD := by
  intro F s H v x Q QV t js hQ h
  obtain ⟨d, kvs, rfl, e, q⟩ := h
  obtain ⟨u, rfl, j⟩ := jps1 js
  obtain ⟨a, h, xs, rfl, e1, c1, r1⟩ := jp_dct t j e
  exact ⟨a, xs, rfl, rd_dct e1 c1, fun p hp => hQ _ s q _ _ (.new hp) (t.new hp) (.lst (mask_new t hp) ((keys_J r1).up (.new hp)))⟩
end
theorem y_listD {s : Sto} {Q : QJ} {d : J} {kvs : List (Key × J)} (e : res s d = .dct kvs) (q : Q (.lst (kvs.map fun kv => kJ kv.1)) s) : jListD [d] s Q := ⟨_, _, rfl, e, q⟩
theorem res_od {s : Sto} {a : Addr} {kvs : List (Key × J)} (e : s a = some (.dct kvs)) : res s (.own a) = .dct kvs := by unfold res; dsimp only; rw [e]
theorem y_ix_od {s : Sto} {Q : QJ} {a : Addr} {y d : J} {l : List (Key × J)} {k : Key} (e1 : s a = some (.dct l)) (h : keyOf y = some k) (e : valJ l k = some d) (q : Q d s) : ixJ (.own a) y s Q := by
  unfold ixJ ixR
  rw [res_od e1]
  cases y <;> exact ⟨k, d, h, e, q⟩
end M

namespace M
open PySem PySem.Spec PyProof.Rows L2
section
variable {K : PySem.W.Frag}
end
theorem y_ix_res {s : Sto} {Q : QJ} {x y d : J} {l : List (Key × J)} {k : Key} (e1 : res s x = .dct l) (h : keyOf y = some k) (e : valJ l k = some d) (q : Q d s) : ixJ x y s Q := by
  unfold ixJ ixR
  rw [e1]
  cases y <;> exact ⟨k, d, h, e, q⟩
end M

namespace M
open PySem PySem.Spec PyProof.Rows L2
section
variable {X : Cx} {k j : Nat} {f C : Addr} {ps : List Str} {sp : Sp} {e : Expr} {te : TE} {pos : Pos}
end
section
variable {prog : Program} {w : World} {A : Around} {E : Value → Shared → Prop} {s : Shared} {K : PySem.W.Frag} {x y C f : Addr} {ox oy : Obj} {od oe : Option Obj}
end
section
variable {X : Cx} {k j : Nat} {f C : Addr} {ps : List Str} {sp : Sp} {a b : Expr} {ta tb : TE} {W : WX} {pos : Pos} {op : Operator} {sym nm : String} {name : Str}
end
section
variable {K : PySem.W.Frag} {w : WJ} {c : Str} {W : WX} {ta tb te : TE} {pa pb pe : TJ}
end
section
variable {s : Sto} {Q : QJ} {R : XJ} {x y : J} {c : Str} {w : WJ} {ρ : Rho} {pa pb : TJ}
end
end M

namespace M
open PySem PySem.Spec PyProof.Rows L2
section
variable {K : PySem.W.Frag} {W : WX}
end
section
variable {s : Sto} {Q : QJ} {R : XJ} {i : Nat} {b : SJ} {ρ : Rho} {n bk ct : Rho → Sto → Prop} {rt : QJ} {xr : Rho → XJ}
end
end M

namespace M
open PySem PySem.Spec PyProof.Rows L2
structure FnG (P : Program) (w : World) (K : PySem.W.Frag) (mg : Str → Option Value) (base : Heap) (CX : CXT) (k : Nat) (f : Addr) (fd : FuncData) (ps : List Str) (sp : Sp) : Prop where
  lg : ∀ vs H Q E, sp vs H Q E → vs.length = ps.length
  go : ∀ (A : Around) (fr : List Env) (s : Shared) (H : Hp) (ar : Args) (us : List Value) (vs : List V) (Q : VK) (E : XK), A.guards = some [] → Room k A → Env0 P w K mg base A fr s H →
    BindsTo s fd ar (ps.zip us) → Vals vs us → sp vs H Q E → codeAny (model P w) A (.call (.ref f) ar) (CR CX fr P w H s Q E) s
section
variable {P : Program} {w : World} {K : PySem.W.Frag} {mg : Str → Option Value} {base : Heap} {CX : CXT} {k j : Nat} {f : Addr} {fd : FuncData} {ps N : List Str} {sp : Sp} {x qual : Str} {params : Arguments} {body : List Stmt} {scope : Scope} {dvs : List V} {kws : List (Str × V)}
theorem FnG.of (F : FnOk P w K mg base CX k f fd ps sp) : FnG P w K mg base CX k f fd ps sp := ⟨F.len, fun A fr s H ar us vs Q E _ r e b v h => F.run A fr s H ar us vs Q E r e b v h⟩
theorem FnG.up (F : FnG P w K mg base CX j f fd ps sp) (h : j ≤ k) : FnG P w K mg base CX k f fd ps sp := ⟨F.lg, fun A fr s H ar us vs Q E g r => F.go A fr s H ar us vs Q E g (r.mono h)⟩
theorem fnG_of (F : FunD K x qual params body scope dvs kws f fd) (S : FnScope N ps scope) (lg : ∀ vs H Q E, sp vs H Q E → vs.length = ps.length)
    (b : ∀ (cdv : Value) (A : Around) (outer : List Env) (s : Shared) (H : Hp) (vs : List V) (Q : VK) (E : XK), A.guards = some [] → Room k (A.deeper (envOfC qual scope s.heap.objs.size f cdv)) → sp vs H Q E →
      ∃ t, PSs (cxOf CX P w K mg base N qual scope f cdv A outer s H E) body t ∧ t (Ends.mk (fun _ H' => Q .non H') Q (fun _ _ => False) (fun _ _ => False)) (start N vs) H) : FnG P w K mg base CX (k + 1) f fd ps sp := by
  obtain ⟨c1, c2, v1, v2, v3, v4, an, cv, c3, sl, rfl, look, code, -, -⟩ := F.ex
  refine ⟨lg, fun A fr s H ar us vs Q E gd room en bd rv hs => ?_⟩
  have inS : K.In s.heap := en.mod.kin.keeps fun z u q => (en.bs z u q).1
  have noL : s.heap.NoLimit := en.mod.nolimit.keeps fun z u q => (en.bs z u q).1
  have kinds : ∀ z ∈ ps.zip us, scope.names.lookup z.1 = some .local ∨ (scope.names.lookup z.1 = some .cell ∧ ((cellsFrom (s.heap.objs.size + 1) scope.names []).lookup z.1).isSome = true) := by
    intro z hz
    cases S.par z.1 (List.of_mem_zip (a := z.1) (b := z.2) hz).1 with
    | inl q => exact .inl q
    | inr q => exact .inr ⟨q, PySem.W.cellsFrom_some _ _ _ (.inl q)⟩
  refine codeAny_call_function room.depth (inS _ _ look) rfl S.co S.gen rfl (PySem.W.codeRec_of inS code) (bd _ _ _ _ ?_)
  refine wpAny_newFunctionEnv_cells S.kind kinds fun ev he s1 x1 => ?_
  subst he
  refine ⟨noL.keeps x1.toInCall.keep, codeAny_func ?_⟩
  obtain ⟨t, ht, tq⟩ := b cv A fr s H vs Q E gd (room.deeper _) hs
  have J : Inv (cxOf CX P w K mg base N qual scope f cv A fr s H E) [] (start N vs) H s1 := inv_start S room.hd en (lg _ _ _ _ hs) rv x1
  have fin : ∀ {σ' : L2.St} {H' : Hp} {v : V} {u : Value} {s' : Shared}, Inv (cxOf CX P w K mg base N qual scope f cv A fr s H E) [] σ' H' s' → RelV v u → Q v H' → CE fr P w H s Q u s' :=
    fun {_ H' v _ _} i r q => ⟨v, H', i.os, i.bare, i.base, i.hok, r, q⟩
  refine wpAny_mono (ht.run [] s1 (start N vs) H _ J tq) (fun fl s' z => ?_) fun _ _ z => z
  cases fl with
  | ret u => obtain ⟨v, σ', H', i, r, q⟩ := z; exact fin i r q
  | next => obtain ⟨σ', H', i, q⟩ := z; exact fin (v := .non) (u := Value.none) i rfl q
  | brk => obtain ⟨_, _, _, q⟩ := z; exact q.elim
  | cont => obtain ⟨_, _, _, q⟩ := z; exact q.elim
end
def OkG (P : Program) (w : World) (K : PySem.W.Frag) (mg : Str → Option Value) (base : Heap) (k : Nat) (f : Addr) (ps : List Str) (dvs : List V) (sp : Sp) : Prop :=
  ∃ fd ds, FnG P w K mg base (L2N.CX P w) k f fd ps sp ∧ PySem.W.keepIn K (.ref f) = true ∧ Vals dvs ds ∧ Binds K fd ps ds
theorem pe_cG {X : Cx} {k j : Nat} {f : Addr} {ps : List Str} {sp : Sp} {dvs : List V} {x : Str} {p pos : Pos} {e : Expr} {es : List Expr} {t : TA} {W : WX} (h : OkG X.prog X.w X.K X.mg X.base k f ps dvs sp) (gd : X.A.guards = some []) (hr : Room j X.A) (hj : k ≤ j) (hm : X.mg x = some (.ref f)) (tk : L2N.Takes X W) (ha : PA X (e :: es) t)
    (hg : Gl X x := by rfl) (hdb : (x == ("__debug__" : Str)) = false := by decide) (he : starEach (e :: es) X.env = (false, eval e X.env) :: starEach es X.env := by rfl) (hpl : (backTo pos (starEach es X.env)).any (·.1) = false := by rfl) :
    PE X (.Call (.Name x p) (e :: es) [] pos) (tCallSD sp dvs (WE W) t) := by
  obtain ⟨fd, ds, F0, kp, v, b⟩ := h
  have F := F0.up hj
  refine ⟨fun pins s σ H Q I hh => wpAny_Call_Name_kw (ld_glob I hg hm ?_ hdb)⟩
  refine PySem.W.callWith_K (h₀ := X.base) I.ok.mod.kin kp (thn (ha.run pos pins s σ H _ I hh) fun us s1 ⟨vs, H1, I1, r, q⟩ => ⟨I1.kIn, ?_⟩) he hpl
  have r2 : Vals (vs ++ dvs) (us ++ ds) := r.append v
  have l2 : (us ++ ds).length = ps.length := r2.length.symm.trans (F.lg _ _ _ _ q)
  refine wpAny_call (codeAny_mono (F.go X.A X.stack s1 H1 ⟨us, []⟩ (us ++ ds) (vs ++ dvs) Q _ gd hr I1.env0 (b s1 us I1.kIn l2) r2 q) fun z s' hq => ?_)
  cases z with
  | error z => exact L2N.passAt tk σ pins H1 s1 z s' I1 hq
  | ok fl => cases fl with
    | ret u => exact I1.after hq
    | next => exact (show False from hq).elim
    | brk => exact (show False from hq).elim
    | cont => exact (show False from hq).elim
theorem end_core {P : Program} {w : World} {K : PySem.W.Frag} {mg mb : Str → Option Value} {k : Nat} {fa a : Addr} {fd : FuncData} {x : Str} {sp : Sp} {s₁ : Shared} {vs : List Value} {H : Hp}
    (KX : K.In s₁.heap) (hns : s₁.heap.Ns mainGlobals mg) (hb : s₁.heap.Ns builtinsNs mb) (hbb : ∀ x : Str, x ≠ "__name__" → mb x = bootBuiltins x) (hlim : s₁.heap.NoLimit) (hg : s₁.gens = #[])
    (ha : s₁.heap.get? a = some { cls := .type "list", data := .seq vs.toArray }) (hr : Room k callerA)
    (F : ∀ base : Heap, K.In base → base.Ns mainGlobals mg → FnG P w K mg base (L2N.CX P w) k fa fd [x] sp) (hbind : ∀ (s : Shared) (u : Value), BindsTo s fd ⟨[u], []⟩ [(x, u)])
    (hs : sp [.ref a] H (fun v _ => v = .bl true) fun _ _ _ => False) (hok : HOk P w H s₁.heap) (one : ∀ b o, H b = some o → b = a ∧ K.lookup a = none ∧ ∃ u l, o = .frz u l) :
    codeAny (model P w) callerA (.call (.ref fa) ⟨[.ref a], []⟩) (fun r s' => r = .ok (.ret (.bool true)) ∧ OldK s₁.heap s'.heap ∧ s'.os = s₁.os ∧ AllBare s'.gens) s₁ := by
  have see : ∀ {b : Addr} {o : Obj}, s₁.heap.get? b = some o → (b = a → False) → (hidT s₁.heap H).get? b = some o := fun {b o} e n => hidT_get e (by
    cases q : H b with
    | none => rfl
    | some u => exact (n (one b u q).1).elim)
  have ns : ∀ {b : Addr} {m : Str → Option Value}, s₁.heap.Ns b m → (hidT s₁.heap H).Ns b m := by
    rintro b m ⟨o, es, ep, e, d, r⟩
    refine ⟨o, es, ep, see e ?_, d, r⟩
    rintro rfl
    rw [ha] at e
    cases e
    cases d
  have kin : K.In (hidT s₁.heap H) := fun b o e => hidT_get (KX b o e) (by
    cases q : H b with
    | none => rfl
    | some u =>
      obtain ⟨rfl, z, _⟩ := one b u q
      rw [e] at z
      cases z)
  obtain ⟨mc, c1, c2⟩ := hlim
  have md : Mod K mg (hidT s₁.heap H) := ⟨kin, ns hns, ⟨mb, ns hb, hbb⟩, mc, ns c1, c2⟩
  have en : Env0 P w K mg (hidT s₁.heap H) callerA [] s₁ H := ⟨rfl, md, fun _ _ => of_hidT, Nat.le_of_eq (hidT_size _ _), trivial, fun _ z => (nomatch z), hok, .of_eq hg⟩
  have run := (F _ kin (ns hns)).go callerA [] s₁ H ⟨[.ref a], []⟩ [.ref a] [.ref a] _ _ rfl hr en (hbind s₁ (.ref a)) (.cons rfl .nil) hs
  refine codeAny_mono run fun r s' h => ?_
  cases r with
  | error e =>
    obtain ⟨_, _, _, _, _, _, _, _, _, _, _, _, z⟩ := h
    exact z.elim
  | ok fl => cases fl with
    | next => exact (show False from h).elim
    | brk => exact (show False from h).elim
    | cont => exact (show False from h).elim
    | ret u =>
      obtain ⟨v, H', os, bare, un, ok2, rel, q⟩ := h
      obtain rfl : v = .bl true := q
      obtain rfl : u = Value.bool true := rel
      refine ⟨rfl, OldK.of_keep fun b o e => ?_, os, bare⟩
      cases q : H b with
      | none => exact un.keep b o e q (fun z => nomatch z) fun z => nomatch z
      | some u =>
        obtain ⟨_, _, ob, l, rfl⟩ := one b u q
        have z1 := (hok b _ q).1
        have z2 := (ok2 b _ (un.frzs b ob l q)).1
        exact z2.trans (z1.symm.trans e)
theorem walkG {l : PySem.W.OpenLaw} {n k : Nat} {q : Program} {loose : List Str} {XP : (Str → Option Value) → Heap → Prop} {YP : World → Heap → Prop} {d : DefRec} {x : Str} (hn : l.most = some n) (hn2 : n ≤ sizeLine) (hdf : d.params.defaults = []) (hr : Room k callerA)
    (F : ∀ (w : World) (mg : Str → Option Value) (fa : Addr) (h : Heap), YP w h → h.Ns mainGlobals mg → mg d.name = some (.ref fa) → ∃ (K : PySem.W.Frag) (fd : FuncData) (sp : Sp), K.In h ∧ (∀ (s : Shared) (u : Value), BindsTo s fd ⟨[u], []⟩ [(x, u)]) ∧
      (∀ (H : Hp) (a : Addr) (ns : List Int), ns.length ≤ n → (∀ z ∈ ns, Builtin.Int.intBits z ≤ 1048576) → SqL K H a (ns.map V.int) → sp [.ref a] H (fun v _ => v = .bl true) fun _ _ _ => False) ∧
      ∀ base : Heap, K.In base → base.Ns mainGlobals mg → FnG l.prog w K mg base (L2N.CX l.prog w) k fa fd [x] sp) :
    PySem.W.WalkO q loose XP YP l.row.toRowW d [] (fun f vs => PySem.call f vs) := by
  refine Att.attach_callB hn hdf fun w s₀ s₁ mg mb fa o pm cd doc a vs ns G Y ho hd hcd hmg hobj hints hlen hbits hg => ?_
  obtain ⟨K, fd, sp, KX, hb, hsp, hF⟩ := F w mg fa _ Y G.T.g hmg
  have rv := vals_ints hints
  cases look : K.lookup a with
  | some u =>
    have e := (KX a u look).symm.trans hobj
    cases e
    have sq : SqL K (fun _ => none) a (ns.map V.int) := .inr ⟨_, vs.toArray, _, look, rfl, rfl, rfl, by rw [List.size_toArray, hints.length]; exact Nat.le_trans hlen hn2, by simpa using rv⟩
    exact end_core KX G.T.g G.T.b G.T.builtins G.T.nolimit hg hobj hr hF hb (hsp _ a ns hlen hbits sq) (fun _ _ z => nomatch z) fun _ _ z => nomatch z
  | none =>
    let ob : Obj := { cls := .type "list", data := .seq vs.toArray }
    let H0 : Hp := fun b => if b = a then some (.frz ob (.lst (ns.map V.int))) else none
    have at0 : H0 a = some (.frz ob (.lst (ns.map V.int))) := if_pos rfl
    have only : ∀ b o, H0 b = some o → b = a ∧ o = .frz ob (.lst (ns.map V.int)) := fun b o z => by
      by_cases c : b = a
      · subst c
        exact ⟨rfl, Option.some.inj (z.symm.trans at0)⟩
      · cases (if_neg c : H0 b = none).symm.trans z
    refine end_core KX G.T.g G.T.b G.T.builtins G.T.nolimit hg hobj hr hF hb (hsp H0 a ns hlen hbits (.inl (.inr ⟨ob, at0⟩))) (fun b o z => ?_) fun b o z => ?_
    · obtain ⟨rfl, rfl⟩ := only b o z
      exact ⟨hobj, by rw [List.length_map]; exact Nat.le_trans hlen hn2, vs, _, rv, hobj⟩
    · obtain ⟨rfl, rfl⟩ := only b o z
      exact ⟨rfl, look, _, _, rfl⟩
end M
namespace M
open PySem PySem.Spec PyProof.Rows L2
mutual
inductive ReadsV (K : PySem.W.Frag) (H : Hp) : V → PyData → Prop
  | non : ReadsV K H .non .none
  | bl (b : Bool) : ReadsV K H (.bl b) (.bool b)
  | int (i : Int) : ReadsV K H (.int i) (.int i)
  | str (z : Str) : ReadsV K H (.str z) (.str z)
  | lst {a : Addr} {xs : List V} {ds : List PyData} : H a = some (.lst xs) → ReadsVs K H xs ds → ReadsV K H (.ref a) (.list ds)
  | tup {a : Addr} {xs : List V} {ds : List PyData} : SqT K H a xs → ReadsVs K H xs ds → ReadsV K H (.ref a) (.tuple ds)
inductive ReadsVs (K : PySem.W.Frag) (H : Hp) : List V → List PyData → Prop
  | nil : ReadsVs K H [] []
  | cons {v : V} {vs : List V} {d : PyData} {ds : List PyData} : ReadsV K H v d → ReadsVs K H vs ds → ReadsVs K H (v :: vs) (d :: ds)
end
section
variable {X : Cx} {pins : List (Addr × Obj)} {σ : L2.St} {H : Hp} {s : Shared}
mutual
theorem ReadsV.reads (I : Inv X pins σ H s) : ∀ {v : V} {u : Value} {d : PyData}, ReadsV X.K H v d → RelV v u → ∃ as, Reads s.heap u d as
  | _, _, _, .non, r => by
    cases r
    exact ⟨_, .none⟩
  | _, _, _, .bl b, r => by
    cases r
    exact ⟨_, .bool b⟩
  | _, _, _, .int i, r => by
    obtain ⟨t, rfl⟩ := r
    exact ⟨_, .int i t⟩
  | _, _, _, .str z, r => by
    obtain ⟨t, rfl⟩ := r
    exact ⟨_, .str z t⟩
  | _, _, _, .lst h rs, r => by
    cases r
    obtain ⟨its, rv, ⟨o, n, e, hc, _, hd⟩, _⟩ := I.list (.inl (.inl h))
    obtain ⟨as, q⟩ := ReadsVs.reads I rs rv
    exact ⟨_, .list e hc hd q⟩
  | _, _, _, .tup h rs, r => by
    cases r
    obtain ⟨its, rv, ⟨o, e, hc, n, hd⟩, _⟩ := I.tuple h
    obtain ⟨as, q⟩ := ReadsVs.reads I rs rv
    exact ⟨_, .tuple e hc hd q⟩
theorem ReadsVs.reads (I : Inv X pins σ H s) : ∀ {v : List V} {u : List Value} {d : List PyData}, ReadsVs X.K H v d → Vals v u → ∃ as, ReadsAll s.heap u d as
  | _, _, _, .nil, r => by
    cases r
    exact ⟨_, .nil⟩
  | _, _, _, .cons h rs, r => by
    cases r with
    | cons r1 r2 =>
      obtain ⟨as, q⟩ := ReadsV.reads I h r1
      obtain ⟨bs, p⟩ := ReadsVs.reads I rs r2
      exact ⟨_, .cons q p⟩
end
end
mutual
inductive PyJ : J → PyData → Prop
  | non : PyJ .non .none
  | bl (b : Bool) : PyJ (.bl b) (.bool b)
  | int (i : Int) : PyJ (.int i) (.int i)
  | str (z : Str) : PyJ (.str z) (.str z)
  | lst {xs : List J} {ds : List PyData} : PyJs xs ds → PyJ (.lst xs) (.list ds)
  | tup {xs : List J} {ds : List PyData} : PyJs xs ds → PyJ (.tup xs) (.tuple ds)
inductive PyJs : List J → List PyData → Prop
  | nil : PyJs [] []
  | cons {x : J} {xs : List J} {d : PyData} {ds : List PyData} : PyJ x d → PyJs xs ds → PyJs (x :: xs) (d :: ds)
end
section
variable {K : PySem.W.Frag} {G H : Hp}
mutual
theorem PyJ.v (l : ∀ a o, G a = some o → H a = some o) : ∀ {x : J} {v : V} {d : PyData}, PyJ x d → Jp K G v x → ReadsV K H v d
  | _, _, _, .non, j => by cases j; exact .non
  | _, _, _, .bl b, j => by cases j; exact .bl b
  | _, _, _, .int i, j => by cases j; exact .int i
  | _, _, _, .str z, j => by cases j; exact .str z
  | _, _, _, .lst p, j => by
    cases j with | lst h js =>
    exact .lst (l _ _ h) (PyJs.v l p js)
  | _, _, _, .tup p, j => by
    cases j with | tup h js =>
    refine .tup ?_ (PyJs.v l p js)
    exact Le.sqt (fun a o e => ⟨o, l a o e, .inl rfl⟩) h
theorem PyJs.v (l : ∀ a o, G a = some o → H a = some o) : ∀ {x : List J} {v : List V} {d : List PyData}, PyJs x d → Jps K G v x → ReadsVs K H v d
  | _, _, _, .nil, j => by cases j; exact .nil
  | _, _, _, .cons p ps, j => by
    cases j with | cons j js =>
    exact .cons (PyJ.v l p j) (PyJs.v l ps js)
end
end
end M
namespace M
open PySem PySem.Spec PyProof.Rows L2
def jCVal (c : Str) (p : TJ) (d : J) : TJ := fun ρ s Q R => p ρ s (fun x s1 => x = .cls c ∧ Q d s1) R
theorem y_cval {c : Str} {p : TJ} {d : J} {ρ : Rho} {s : Sto} {Q : QJ} {R : XJ} (h : p ρ s (fun x s1 => x = .cls c ∧ Q d s1) R) : jCVal c p d ρ s Q R := h
theorem y_clsv {c : Str} {P : Prop} (q : P) : J.cls c = .cls c ∧ P := ⟨rfl, q⟩
end M
namespace M
open PySem PySem.Spec PyProof.Rows L2
mutual
def wtJ : J → Nat
  | .int i => if i.natAbs.log2 < 1920 then 1921 else 100000000
  | .str z => 10 * z.length + 2
  | .lst l => wtJs l + 2
  | .tup l => wtJs l + 3
  | _ => 5
def wtJs : List J → Nat
  | [] => 0
  | x :: l => wtJ x + 2 + wtJs l
end
theorem textFrom_wt : ∀ (ts : List Str) (k : Nat) (acc : Str), (textFrom k acc ts).length ≤ acc.length + piled ts
  | [], k, acc => Nat.le_add_right _ _
  | t :: r, k, acc => by
    have ih := textFrom_wt r (k + 1) (acc ++ (if k > 0 then ", " else "" : String) ++ t)
    have e : (acc ++ (if k > 0 then ", " else "" : String) ++ t).length ≤ acc.length + 2 + t.length := by
      rw [strLen_append, strLen_append]
      have : ((if k > 0 then ", " else "" : String) : Str).length ≤ 2 := by split <;> decide +kernel
      omega
    rw [piled_cons]
    show (textFrom (k + 1) _ r).length ≤ _
    omega
theorem listText_wt (ts : List Str) : (listText ts).length ≤ piled ts + 2 := by
  unfold listText
  rw [strLen_append]
  have := textFrom_wt ts 0 "["
  have e1 : (("[" : String) : Str).length = 1 := rfl
  have e2 : (("]" : String) : Str).length = 1 := rfl
  omega
theorem tupleText_wt (ts : List Str) : (tupleText ts).length ≤ piled ts + 3 := by
  have e3 : (((if ts.length == 1 then ",)" else ")" : String) : Str)).length ≤ 2 := by split <;> decide +kernel
  have e1 : (("(" : String) : Str).length = 1 := rfl
  unfold tupleText
  rw [strLen_append, strLen_append]
  by_cases h : ts = []
  · subst h
    have : (Str.join ", " ([] : List Str)).length = 0 := by decide +kernel
    omega
  · have := join_length_add ts h
    omega
mutual
theorem shw_tree : ∀ {n : Nat} {x : J}, J.okd n x = true → wtJ x < 100000000 → ∃ d : PyData, PyJ x d ∧ d.showable = true ∧ d.hasDict = false ∧ d.depth ≤ n ∧ d.shown.length ≤ wtJ x
  | n, .non, _, _ => ⟨.none, .non, by simp [PyData.showable], by simp [PyData.hasDict], by simp [PyData.depth], by unfold wtJ; simp only [PyData.shown]; decide +kernel⟩
  | n, .bl b, _, _ => ⟨.bool b, .bl b, by simp [PyData.showable], by simp [PyData.hasDict], by simp [PyData.depth], by unfold wtJ; simp only [PyData.shown]; cases b <;> decide +kernel⟩
  | n, .int i, _, w => by
    unfold wtJ at w
    have h : i.natAbs.log2 < 1920 := by
      by_cases h : i.natAbs.log2 < 1920
      · exact h
      · rw [if_neg h] at w
        omega
    refine ⟨.int i, .int i, by simp [PyData.showable, h], by simp [PyData.hasDict], by simp [PyData.depth], ?_⟩
    unfold wtJ
    rw [if_pos h]
    simp only [PyData.shown]
    exact int_text_len_1921 h
  | n, .str z, o, _ => by
    have o' : (decide (z.length ≤ 100000) && z.cps.all (· < 0x110000)) = true := by
      unfold J.okd at o
      exact o
    rw [Bool.and_eq_true] at o'
    refine ⟨.str z, .str z, by simp [PyData.showable], by simp [PyData.hasDict], by simp [PyData.depth], ?_⟩
    unfold wtJ
    simp only [PyData.shown]
    refine PySem.StrLaws.reprText_len z fun c hc => ?_
    have h2 := o'.2
    rw [Array.all_eq_true'] at h2
    have := h2 c (by simpa using hc)
    have := of_decide_eq_true this
    omega
  | 0, .lst l, o, _ => by unfold J.okd at o; cases o
  | n + 1, .lst l, o, w => by
    have o' : J.oks n l = true := by unfold J.okd at o; exact o
    unfold wtJ at w
    obtain ⟨ds, h1, h2, h3, h4, h5⟩ := shw_trees o' (by omega)
    refine ⟨.list ds, .lst h1, by simpa [PyData.showable] using h2, by simpa [PyData.hasDict] using h3, by simp only [PyData.depth]; omega, ?_⟩
    simp only [PyData.shown]
    unfold wtJ
    have := listText_wt (PyData.shownAll ds)
    omega
  | 0, .tup l, o, _ => by unfold J.okd at o; cases o
  | n + 1, .tup l, o, w => by
    have o' : J.oks n l = true := by unfold J.okd at o; exact o
    unfold wtJ at w
    obtain ⟨ds, h1, h2, h3, h4, h5⟩ := shw_trees o' (by omega)
    refine ⟨.tuple ds, .tup h1, by simpa [PyData.showable] using h2, by simpa [PyData.hasDict] using h3, by simp only [PyData.depth]; omega, ?_⟩
    simp only [PyData.shown]
    unfold wtJ
    have := tupleText_wt (PyData.shownAll ds)
    omega
  | n, .dct l, o, _ => by unfold J.okd at o; cases o
  | n, .obj c l, o, _ => by unfold J.okd at o; cases o
  | n, .scr l, o, _ => by unfold J.okd at o; cases o
  | n, .own a, o, _ => by unfold J.okd at o; cases o
  | n, .ty a, o, _ => by unfold J.okd at o; cases o
  | n, .cls a, o, _ => by unfold J.okd at o; cases o
  | n, .exc a b l, o, _ => by unfold J.okd at o; cases o
  | n, .tupN l, o, _ => by unfold J.okd at o; cases o
theorem shw_trees : ∀ {n : Nat} {l : List J}, J.oks n l = true → wtJs l < 100000000 → ∃ ds : List PyData, PyJs l ds ∧ PyData.showableAll ds = true ∧ PyData.hasDictAll ds = false ∧ PyData.depthAll ds ≤ n ∧ piled (PyData.shownAll ds) ≤ wtJs l
  | n, [], _, _ => ⟨[], .nil, by simp [PyData.showableAll], by simp [PyData.hasDictAll], by simp [PyData.depthAll], by simp only [PyData.shownAll]; exact Nat.zero_le _⟩
  | n, x :: l, o, w => by
    have o' : (J.okd n x && J.oks n l) = true := by unfold J.oks at o; exact o
    rw [Bool.and_eq_true] at o'
    unfold wtJs at w
    obtain ⟨d, a1, a2, a3, a4, a5⟩ := shw_tree o'.1 (by omega)
    obtain ⟨ds, b1, b2, b3, b4, b5⟩ := shw_trees o'.2 (by omega)
    refine ⟨d :: ds, .cons a1 b1, by simp [PyData.showableAll, a2, b2], by simp [PyData.hasDictAll, a3, b3], by simp only [PyData.depthAll]; omega, ?_⟩
    simp only [PyData.shownAll]
    rw [piled_cons]
    unfold wtJs
    omega
end
end M
namespace M
open PySem PySem.Spec PyProof.Rows L2
end M
namespace M
open PySem PySem.Spec PyProof.Rows L2
end M

namespace M
open PySem PySem.Spec PyProof.Rows L2
section
variable {X : Cx} {pins : List (Addr × Obj)} {σ : L2.St} {H : Hp} {s : Shared}
end
section
variable {K : PySem.W.Frag} {W : WX} {xa : TA} {qa : AJ}
end
end M

namespace M
open PySem PySem.Spec PyProof.Rows L2
theorem dpAllL {K : PySem.W.Frag} {G H : Hp} (l : Le G H) : ∀ {v : List V} {d : List PyData}, DpAll K G v d → DpAll K H v d
  | _, _, .nil => .nil
  | _, _, .cons a b => .cons (dpL l a) (dpAllL l b)
section
variable {X : Cx}
theorem items_at {pins : List (Addr × Obj)} {σ : L2.St} {H : Hp} {s : Shared} (I : Inv X pins σ H s) (hu : X.A.units + 65 < cLine) {ys : List V} {its : List Value} {ds : List PyData} {y : V} {u : Value} {d : PyData} (rv : Vals ys its) (ha : DpAll X.K H ys ds) (hy : Dp X.K H y d) (ry : RelV y u) (sl : SeqAt.shaped (.list ds) = true) (sd : SeqAt.shaped d = true) :
    its.map (SeqAt.readOf s.heap) = ds ∧ ∀ z, z ∈ its.toArray → SeqAt.EqAt X.A.in1 s z u (PyData.eqv (SeqAt.readOf s.heap z) d) := by
  obtain ⟨bs, r1⟩ := Dp.reads I d y u hy ry
  obtain ⟨as, r4⟩ := Dp.readsAll I ds _ its ha rv
  have hxs : PyData.canLayAll0 ds = true := by
    have := SeqAt.canLay_of_shaped sl
    simpa [PyData.canLay0] using this
  have hdep := SeqAt.depth_of_shaped sd
  refine ⟨SeqAt.readsAll_map ds its as hxs r4, SeqAt.items_eqAt (vs := its.toArray) (show ReadsAll s.heap its.toArray.toList ds as from r4) r1 hxs (SeqAt.canLay_of_shaped sd) ?_⟩
  have := Nat.min_le_right (PyData.depthAll ds) d.depth
  omega
theorem items_eq {pins : List (Addr × Obj)} {σ : L2.St} {H : Hp} {s : Shared} (I : Inv X pins σ H s) (hu : X.A.units + 65 < cLine) {ys : List V} {its : List Value} {ds : List PyData} {y : V} {u : Value} {d : PyData} (rv : Vals ys its) (ha : DpAll X.K H ys ds) (hy : Dp X.K H y d) (ry : RelV y u) (sl : SeqAt.shaped (.list ds) = true) (sd : SeqAt.shaped d = true) :
    SeqAt.ItemsEq X.A.in1 s its (ds.map fun z => PyData.eqv z d) u true := by
  obtain ⟨hm, he⟩ := items_at I hu rv ha hy ry sl sd
  have hl : its.length = ds.length := by rw [← hm, List.length_map]
  refine ⟨by rw [List.length_map]; exact hl, fun j h1 h2 => ?_⟩
  have k := he its[j] (by simp)
  have e : (ds.map fun z => PyData.eqv z d)[j] = PyData.eqv (SeqAt.readOf s.heap its[j]) d := by
    rw [List.getElem_map]
    congr 1
    have : (its.map (SeqAt.readOf s.heap))[j]'(by rw [List.length_map]; exact h1) = ds[j]'(by omega) := by
      simp only [hm]
    rw [← this, List.getElem_map]
  rw [e, Bool.decide_eq_true]
  exact k
/-- l.index(y) -/
def rIdxL (K : PySem.W.Frag) : V → List V → Hp → VK → Prop := fun x xs H Q => ∃ (a : Addr) (y : V) (ys : List V) (ds : List PyData) (d : PyData), x = .ref a ∧ xs = [y] ∧ SqL K H a ys ∧ DpAll K H ys ds ∧ Dp K H y d ∧ SeqAt.shaped (.list ds) = true ∧ SeqAt.shaped d = true ∧
  true ∈ (ds.map fun z => PyData.eqv z d) ∧ Q (.int ((ds.map fun z => PyData.eqv z d).idxOf true : Nat)) H
theorem mt_idxL (hu : X.A.units + 65 < cLine) : MtR X "list.index" (rIdxL X.K) := by
  intro pins s σ H x xs v us Q I rx rxs h
  obtain ⟨a, y, ys, ds, d, rfl, rfl, hs, ha, hy, sl, sd, hm, q⟩ := h
  cases rx
  obtain ⟨u, rfl, ry⟩ := vals1 rxs
  obtain ⟨its, rv, p, hz⟩ := I.list hs
  have he := items_eq I hu rv ha hy ry sl sd
  refine SeqAt.call_list_index p.isList he ?_ hm ⟨.int _, H, I.tok _, ⟨_, rfl⟩, q⟩
  have h1 := he.1
  have h2 := rv.length
  omega
/-- a tuple that has no dict -/
def IsTN (H : Hp) (a : Addr) (ys : List V) : Prop := ∃ ob : Obj, H a = some (.frz ob (.tup ys)) ∧ ob.dict = none
theorem IsTN.sq {K : PySem.W.Frag} {H : Hp} {a : Addr} {ys : List V} (h : IsTN H a ys) : SqT K H a ys := by
  obtain ⟨ob, e, _⟩ := h
  exact .inl (.inr ⟨ob, e⟩)
end
def J.upT : J → J
  | .tupN l => .tup l
  | d => d
theorem Jp.upT {K : PySem.W.Frag} {G : Hp} {v : V} {d : J} (h : Jp K G v d) : Jp K G v d.upT := by
  cases h with
  | tupN e nd r => exact .tup (.inl (.inr ⟨_, e⟩)) r
  | non => exact .non
  | bl b => exact .bl b
  | int b => exact .int b
  | str b => exact .str b
  | lst h r => exact .lst h r
  | tup h r => exact .tup h r
  | dct h c r => exact .dct h c r
  | obj h r => exact .obj h r
  | scr h => exact .scr h
  | own a => exact .own a
  | ty n => exact .ty n
  | cls c => exact .cls c
  | exc h r => exact .exc h r
def jUpT (p : TJ) : TJ := fun ρ s Q R => p ρ s (fun x s1 => Q x.upT s1) R
def idxLJ (x : J) (xs : List J) (s : Sto) (Q : QJ) : Prop := ∃ y l, xs = [y] ∧ lstOf s x = some l ∧ (J.lst l).ok = true ∧ (res s y).ok = true ∧ true ∈ (l.map fun z => eqJ z (res s y)) ∧ Q (.int ((l.map fun z => eqJ z (res s y)).idxOf true : Nat)) s
def jBMT (r : J → List J → Sto → QJ → Prop) (p : TJ) (a : AJ) : TJ := fun ρ s Q R => p ρ s (fun x s1 => (∃ l, x = .tupN l) ∧ a ρ s1 (fun xs s2 => r x xs s2 Q) R) R
theorem pys_map (l : List J) (f : PyData → Bool) : (J.pys l).map f = l.map fun z => f z.py := by
  induction l with
  | nil => unfold J.pys; rfl
  | cons x l ih => unfold J.pys; rw [List.map_cons, List.map_cons, ih]
section
variable {K : PySem.W.Frag} {W : WX} {ta : TE} {pa : TJ} {xa : TA} {qa : AJ}
theorem ok_dps {G : Hp} {xs : List V} {l : List J} (h : Jps K G xs l) (o : (J.lst l).ok = true) {H : Hp} (le : Le G H) : DpAll K H xs (J.pys l) ∧ SeqAt.shaped (.list (J.pys l)) = true := by
  have o2 : J.oks 59 l = true := by unfold J.okd at o; exact o
  refine ⟨dpAllL le (Jps.dp h o2), ?_⟩
  have := shaped_of o
  unfold J.py at this
  exact this
theorem sm_idxL : Sm K (rIdxL K) idxLJ := by
  intro F s H v vs x xs Q QV t jx js hQ h
  obtain ⟨y, l, rfl, e, o1, o2, hm, q⟩ := h
  obtain ⟨u, rfl, jy⟩ := jps1 js
  obtain ⟨a, ys, rfl, h1, r⟩ := jp_list t jx e
  obtain ⟨da, sa⟩ := ok_dps r o1 (H := H) .unmask
  have e1 : ((J.pys l).map fun z => PyData.eqv z (res s y).py) = l.map fun z => eqJ z (res s y) := pys_map l _
  exact ⟨a, u, ys, _, _, rfl, rfl, h1, da, res_dp t jy o2, sa, shaped_of o2, by rw [e1]; exact hm, by rw [e1]; exact hQ _ s q _ H .refl t (.int _)⟩
end
end M

namespace M
open PySem PySem.Spec PyProof.Rows L2
section
variable {X : Cx}
def rGetD : V → List V → Hp → VK → Prop := fun x xs H Q => ∃ (a : Addr) (y : V) (o : Option V), x = .ref a ∧ ((xs = [y] ∧ DGet H a y o ∧ Q (o.getD .non) H) ∨ ∃ d, xs = [y, d] ∧ DGet H a y o ∧ Q (o.getD d) H)
theorem mt_getD (hu : X.A.units + 1 < cLine) : MtR X "dict.get" rGetD := by
  intro pins s σ H x xs v us Q I rx rxs h
  obtain ⟨a, y, o, rfl, h⟩ := h
  cases rx
  rcases h with ⟨rfl, g, q⟩ | ⟨d, rfl, g, q⟩
  · obtain ⟨u, rfl, ry⟩ := vals1 rxs
    exact d_get1 hu I g ry fun w' s' I' rw' => ⟨_, H, I', rw', q⟩
  · obtain ⟨u, r, rfl, ry, rr⟩ := vals2 rxs
    exact d_get2 hu I g ry rr fun w' s' I' rw' => ⟨_, H, I', rw', q⟩
def tBMD (r : V → List V → Hp → VK → Prop) (to : TE) (t : TA) : TE := fun σ H Q => to σ H fun x H1 => (∃ a, x = .ref a ∧ IsD H1 a) ∧ t σ H1 fun xs H2 => r x xs H2 Q
theorem pe_bmD {name : Str} {id : String} {o e : Expr} {es : List Expr} {to : TE} {t : TA} {r : V → List V → Hp → VK → Prop} {apos cpos : Pos} (slot : Slot "dict" name id) (hty : typeOf (.builtin id) = pure (.type "method_descriptor")) (hm : MtR X id r) (ho : PE X o to) (ha : PA X (e :: es) t)
    (hbase : attributeBase o name X.env (eval o X.env) = eval o X.env := by rfl)
    (hfew : ((backTo cpos (starEach (e :: es) X.env)).all (fun x => !x.1) && (backToKw cpos (keywordEach [] X.env)).all (fun x => x.1.isSome) && decide ((e :: es).length + ([] : List Keyword).length + (if ([] : List Keyword).isEmpty then 0 else 1) < 30)) = true := by rfl)
    (hline : (apos.endLine == cpos.line) = true := by rfl) (hs : starEach (e :: es) X.env = (false, eval e X.env) :: starEach es X.env := by rfl) (hplain : (backTo cpos (starEach es X.env)).any (·.1) = false := by rfl) :
    PE X (.Call (.Attribute o name apos) (e :: es) [] cpos) (tBMD r to t) := by
  refine ⟨fun pins s σ H Q I h => wpAny_Call_method_late hbase hfew hline rfl (thn (ho.run pins s σ H _ I h) fun v s1 ⟨x, H1, J, r1, ty, q1⟩ => ?_)⟩
  obtain ⟨a, rfl, d⟩ := ty
  cases r1
  obtain ⟨t1, t2, _⟩ := isD_at J d
  refine ⟨"dict", id, PySem.F.plainAttrs_dict, slot, hty, t1, t2, ?_⟩
  have hA := ha.run cpos pins s1 σ H1 _ J q1
  rw [hs] at hA ⊢
  refine Calls.callWith_builtin (show (false || (backTo cpos (starEach es X.env)).any (·.1)) = false by rw [hplain]; rfl) (Calls.evalArgs_plain (thn hA fun us s2 ⟨vs, H2, J2, r2, q2⟩ => ?_))
  exact hm pins s2 σ H2 (.ref a) vs (.ref a) us Q J2 rfl r2 q2
end
def jBMD (r : J → List J → Sto → QJ → Prop) (p : TJ) (a : AJ) : TJ := fun ρ s Q R => p ρ s (fun x s1 => (∃ l, res s1 x = .dct l) ∧ a ρ s1 (fun xs s2 => r x xs s2 Q) R) R
def getDJ (x : J) (xs : List J) (s : Sto) (Q : QJ) : Prop := ∃ y l k, res s x = .dct l ∧ keyOf y = some k ∧ ((xs = [y] ∧ Q ((valJ l k).getD .non) s) ∨ ∃ d, xs = [y, d] ∧ Q ((valJ l k).getD d) s)
section
variable {K : PySem.W.Frag}
theorem sm_getD : Sm K rGetD getDJ := by
  intro F s H v vs x xs Q QV t jx js hQ h
  obtain ⟨y, l, k, e, hk, h⟩ := h
  rcases h with ⟨rfl, q⟩ | ⟨d, rfl, q⟩
  · obtain ⟨u, rfl, jy⟩ := jps1 js
    obtain ⟨a, o, rfl, g, c⟩ := dget_of t jx e jy hk
    refine ⟨a, u, o, rfl, .inl ⟨rfl, g, ?_⟩⟩
    rcases c with ⟨rfl, c⟩ | ⟨w, y2, rfl, c, j2⟩
    · rw [c] at q
      exact hQ _ s q _ H .refl t .non
    · rw [c] at q
      exact hQ _ s q _ H .refl t j2
  · obtain ⟨u, r, rfl, jy, jr⟩ := jps2 js
    obtain ⟨a, o, rfl, g, c⟩ := dget_of t jx e jy hk
    refine ⟨a, u, o, rfl, .inr ⟨r, rfl, g, ?_⟩⟩
    rcases c with ⟨rfl, c⟩ | ⟨w, y2, rfl, c, j2⟩
    · rw [c] at q
      exact hQ _ s q _ H .refl t jr
    · rw [c] at q
      exact hQ _ s q _ H .refl t j2
theorem se_bmD {W : WX} {ta : TE} {pa : TJ} {xa : TA} {qa : AJ} {r : V → List V → Hp → VK → Prop} {rj : J → List J → Sto → QJ → Prop} (hm : Sm K r rj) (ha : Se K W ta pa) (hx : Sa K W xa qa) : Se K W (tBMD r ta xa) (jBMD rj pa qa) := by
  intro F ρ s σ H Q R QV a hQ hR h
  refine ha F ρ s σ H _ R _ a (fun x s1 h1 v1 H1 l1 st1 j1 => ?_) hR h
  obtain ⟨⟨l, e⟩, h1⟩ := h1
  have k : ∃ b, v1 = .ref b ∧ IsD H1 b := by
    obtain ⟨b, o, xs, rfl, e1, c, _⟩ := jp_dct st1 j1 e
    refine ⟨b, rfl, .inl ⟨xs, ?_⟩⟩
    rcases cor_dK c with rfl | ⟨ob, rfl⟩
    · exact .inl e1
    · exact .inr ⟨ob, e1⟩
  refine ⟨k, ?_⟩
  refine hx F ρ s1 σ H1 _ R _ (a.to l1 st1) (fun xs s2 h2 vs H2 l2 st2 j2 => ?_) (fun c fs s' hr => (hR c fs s' hr).up l1) h1
  exact hm F s2 H2 v1 vs _ xs Q QV st2 (j1.up l2) j2 (fun d s' q => (hQ d s' q).up (l1.trans l2)) h2
end
theorem y_bmD {r : J → List J → Sto → QJ → Prop} {p : TJ} {a : AJ} {ρ : Rho} {s : Sto} {Q : QJ} {R : XJ} (h : p ρ s (fun x s1 => (∃ l, res s1 x = .dct l) ∧ a ρ s1 (fun xs s2 => r x xs s2 Q) R) R) : jBMD r p a ρ s Q R := h
theorem y_tyD {s : Sto} {l : List (Key × J)} {P : Prop} (h : P) : (∃ k, res s (.dct l) = .dct k) ∧ P := ⟨⟨l, rfl⟩, h⟩
theorem y_getD1 {s : Sto} {Q : QJ} {x y : J} {l : List (Key × J)} {k : Key} (e : res s x = .dct l) (hk : keyOf y = some k) (q : Q ((valJ l k).getD .non) s) : getDJ x [y] s Q := ⟨y, l, k, e, hk, .inl ⟨rfl, q⟩⟩
end M

namespace M
open PySem PySem.Spec PyProof.Rows L2
section
variable {prog : Program} {w : World} {A : Around} {R : GenEnd} {Y : Protocol} {n : Nat} {s₀ : Shared} {fs : List Frame} {s : Shared} {env : Env}
end
section
variable {X : Cx}
end
end M

namespace M
open PySem PySem.Spec PyProof.Rows L2
/-- list(o.m()), m a generator -/
def jListG (c m : Str) (w : WJ) (p : TJ) : TJ := fun ρ s Q R => p ρ s (fun x s1 => (∃ fs, objOf s1 x = some (c, fs) ∧ fs.lookup m = none) ∧ w [x] s1 (fun d s2 => ∃ l, d = .lst l ∧ Q (.lst l) s2) No) R
section
variable {X : Cx}
end
theorem y_listG {c m : Str} {w : WJ} {p : TJ} {ρ : Rho} {s : Sto} {Q : QJ} {R : XJ} (h : p ρ s (fun x s1 => ObjX s1 x c m (w [x] s1 (fun d s2 => ∃ l, d = .lst l ∧ Q (.lst l) s2) No)) R) : jListG c m w p ρ s Q R := h
def UpTX (x : J) (P : J → Prop) : Prop := P x.upT
theorem y_upT {p : TJ} {ρ : Rho} {s : Sto} {Q : QJ} {R : XJ} (h : p ρ s (fun x s1 => UpTX x fun y => Q y s1) R) : jUpT p ρ s Q R := h
theorem y_upn {l : List J} {P : J → Prop} (h : P (.tup l)) : UpTX (.tupN l) P := h
theorem y_upt {l : List J} {P : J → Prop} (h : P (.tup l)) : UpTX (.tup l) P := h
theorem y_bmT {r : J → List J → Sto → QJ → Prop} {p : TJ} {a : AJ} {ρ : Rho} {s : Sto} {Q : QJ} {R : XJ} (h : p ρ s (fun x s1 => (∃ l, x = .tupN l) ∧ a ρ s1 (fun xs s2 => r x xs s2 Q) R) R) : jBMT r p a ρ s Q R := h
theorem y_tyN {l : List J} {P : Prop} (h : P) : (∃ k, J.tupN l = .tupN k) ∧ P := ⟨⟨l, rfl⟩, h⟩
end M

namespace L2N
open PySem PySem.Spec PyProof.Rows L2
/-- a clause: its class, the place of its name, its suite -/
abbrev ClV := Value × Option Nat × (Addr → Value → Option Addr → TS)
/-- behind a suite with a name the name is gone -/
def endsAs (i : Nat) (D : Ends) : Ends := { nx := fun t G => D.nx (t.set i none) G, rt := D.rt, bk := fun t G => D.bk (t.set i none) G, ct := fun t G => D.ct (t.set i none) G }
def clRun : Option Nat → Addr → TS → TS
  | none, _, t => t
  | some i, a, t => fun D σ H => t (endsAs i D) (σ.set i (some (.ref a))) H
def wMix (K : PySem.W.Frag) (Wo : WX) (D : Ends) : List ClV → WX
  | [] => Wo
  | (c, o, ts) :: r => fun cls d σ H => ∃ b, PySem.W.exmOne K cls c = some b ∧ (b = true → ∀ a, H a = none → clRun o a (ts a cls d) D σ H) ∧ (b = false → wMix K Wo D r cls d σ H)
inductive MixOk (X : Cx) : List ExceptHandler → List ClV → Prop
  | nil : MixOk X [] []
  | bare {y : Str} {c : Value} {ts : Addr → Value → Option Addr → TS} {s0 : Stmt} {ss : List Stmt} {p1 p2 : Pos} {hs : List ExceptHandler} {l : List ClV} (hc : Names X y c)
      (su : ∀ (a : Addr) (oe : Obj) (cls : Value) (d : Option Addr) (pn : List (Addr × Obj)), Zn cls d oe → (∃ vs, oe.data = .fields vs) → PSs (X.suite a ((a, oe) :: pn)) (s0 :: ss) (ts a cls d)) (r : MixOk X hs l) :
      MixOk X (.ExceptHandler (some (.Name y p1)) none (s0 :: ss) p2 :: hs) ((c, none, ts) :: l)
  | named {y z : Str} {i : Nat} {c : Value} {ts : Addr → Value → Option Addr → TS} {s0 : Stmt} {ss : List Stmt} {p1 p2 : Pos} {hs : List ExceptHandler} {l : List ClV} (nd : X.N.Nodup) (hi : X.N[i]? = some z) (hk : X.env.kindOf z = some .local) (hc : Names X y c)
      (su : ∀ (a : Addr) (oe : Obj) (cls : Value) (d : Option Addr) (pn : List (Addr × Obj)), Zn cls d oe → (∃ vs, oe.data = .fields vs) → PSs (X.suite a ((a, oe) :: pn)) (s0 :: ss) (ts a cls d)) (r : MixOk X hs l) :
      MixOk X (.ExceptHandler (some (.Name y p1)) (some z) (s0 :: ss) p2 :: hs) ((c, some i, ts) :: l)
section
variable {X : Cx} {bd : List Stmt} {hd0 : ExceptHandler} {hs : List ExceptHandler} {l : List ClV} {pos : Pos} {tb : WX → TS} {Wo : WX}
theorem ps_try_mix (ek : X.stack = X.env :: X.outer) (ef : X.env.frame = some X.env.locals) (tk : Takes X Wo)
    (hb : ∀ (W : WX) (pn : List (Addr × Obj)) (xe : Value → Shared → Prop), Takes (X.tr pn xe) W → PassesOwn (model X.prog X.w) X.A X.env xe → PSs (X.tr pn xe) bd (tb W))
    (hh : MixOk X (hd0 :: hs) l) : PS X (.Try bd (hd0 :: hs) [] [] pos) (fun D σ H => tb (wMix X.K Wo D l) D σ H) := by
  refine ⟨fun pins s σ H D I h => ?_⟩
  have ok := I.ok
  have fr0 : X.A.frames = some (X.env :: X.outer) := by rw [ok.frames, ek]
  refine wpAny_Try_except ?_
  have run := (hb (wMix X.K Wo D l) (X.pn ++ pins) (fun e t1 => wpAny (model X.prog X.w) X.A (noteFrame e X.env) (fun _ t2 => wpAny (model X.prog X.w) X.A (setFlight e none) (fun _ t3 =>
    wpAny (model X.prog X.w) X.A (handleBy e X.env (hd0 :: hs)) (SP X pins D) X.xe t3) X.xe t2) X.xe t1) (fun u s' xx => ?_) PassesOwn.looking).run [] s σ H D (I.toTry _) h
  · refine wpAny_mono run (fun f s1 sp => ?_) (fun e s1 he => he)
    cases f with
    | next => obtain ⟨σ1, H1, J1, q⟩ := sp; exact wpAny_execs_nil ⟨σ1, H1, J1.ofTry ok, q⟩
    | brk => obtain ⟨σ1, H1, J1, q⟩ := sp; exact ⟨σ1, H1, J1.ofTry ok, q⟩
    | cont => obtain ⟨σ1, H1, J1, q⟩ := sp; exact ⟨σ1, H1, J1.ofTry ok, q⟩
    | ret u => obtain ⟨v, σ1, H1, J1, r, q⟩ := sp; exact ⟨v, σ1, H1, J1.ofTry ok, r, q⟩
  · obtain ⟨a, B, sI, pins', σ', H', cls, d, rfl, Jt, nb, up, sky, na, os, ag, w⟩ := xx
    have J : Inv X pins σ' H' sI := Jt.ofTry ok
    have sky1 : Sky B (X.env :: X.outer) a (Zn cls d) X.env.locals s'.heap := by rw [← ek]; exact sky
    show wpAny (model X.prog X.w) X.A (noteFrame (.ref a) X.env) _ _ _
    refine Sky.land Zn.steady fr0 ef sky1 fun h3 fl3 up3 => ?_
    have J3 : Inv X pins σ' H' { s' with heap := h3 } := J.landed nb fl3.1 (up.trans up3) os ag
    obtain ⟨oe3, vs3, he3, hz3, hd3⟩ := fl3.there
    have noFr : a ∉ frs (X.env :: X.outer) := fun hm => by
      obtain ⟨_, o', e', hnf⟩ := fl3.2.2.1.mem hm
      rw [he3] at e'
      cases e'
      exact hnf _ hd3
    have nL : a ≠ X.env.locals := fun z => noFr (List.mem_filterMap.mpr ⟨X.env, List.mem_cons_self, by rw [ef, z]⟩)
    have nF : a ∉ X.fs := fun hm => by
      obtain ⟨e, he, q⟩ := List.mem_filterMap.mp hm
      exact noFr (List.mem_filterMap.mpr ⟨e, List.mem_cons_of_mem _ he, q⟩)
    have S3 := J3.suite he3 hd3 na nL nF
    have look : ∀ {y : Str} {p : Pos} {c : Value} {Q : Value → Shared → Prop} {E : Value → Shared → Prop}, Names X y c → Q c { s' with heap := h3 } → wpAny (model X.prog X.w) (X.A.mark (some (.ref a))) (eval (.Name y p) X.env) Q E { s' with heap := h3 } := fun {y p c Q E} hc q => by
      obtain ⟨g1, g2, hm | ⟨hm, hv, hnn⟩⟩ := hc
      · exact ld_glob (X := X.suite a ((a, oe3) :: (X.pn ++ pins))) S3 g1 hm q g2
      · exact ld_blt (X := X.suite a ((a, oe3) :: (X.pn ++ pins))) S3 g1 hm hv q hnn g2
    have LT : PySem.W.Looks (model X.prog X.w) h3 (typeOf (.ref a)) cls := fun A Q E s k q => wpAny_typeOf_ref (k _ _ he3) (by rw [hz3.1]; exact q)
    have go : ∀ {hs' : List ExceptHandler} {l' : List ClV}, MixOk X hs' l' → wMix X.K Wo D l' cls d σ' H' → wpAny (model X.prog X.w) X.A (handleBy (.ref a) X.env hs') (SP X pins D) X.xe { s' with heap := h3 } := by
      intro hs' l' hk
      induction hk with
      | nil =>
        intro w
        refine wpAny_handleBy_nil ?_
        obtain ⟨k1, k2, k3, oe, vs, T, oT, ts', he, hz, hd, h1, hr⟩ := id fl3
        unfold PySem.passOn
        refine wpAny_bind (wpAny_field he hd h1 ?_)
        rw [if_neg (show ¬ ((Value.ref T == Value.none) = true) from by simp)]
        have fin : wpAny (model X.prog X.w) X.A (setFlight (.ref a) X.env.frame) (fun _ s4 => wpAny (model X.prog X.w) X.A (throw (.ref a) : Sem Flow) (SP X pins D) X.xe s4) X.xe { s' with heap := h3 } := by
          rw [ef]
          exact HandSPX.setFlight_upZ fl3 fun h4 hh4 up4 => wpAny_throw (tk _ _ ⟨a, B, sI, pins, σ', H', cls, d, rfl, J, nb, (up.trans up3).trans up4, .inr (.inr (by rw [ek]; exact hh4)), na, os, ag, w⟩)
        first
          | exact wpAny_bind (wpAny_pure (wpAny_bind fin))
          | exact wpAny_bind fin
      | @bare y c ts s0 ss p1 p2 hs2 l2 hc su r ih =>
        intro w
        obtain ⟨b, hb1, yes, no⟩ := w
        refine wpAny_handleBy_cons (codeAny_handlers_test ?_) (by intro q; cases q)
        refine look hc ((PySem.W.exm_one (M := model X.prog X.w) J3.kIn LT hb1).here ?_)
        cases b with
        | true =>
          refine codeAny_handlers_suite (HandSPX.lands_againZ fl3 fun h4 fl4 up4 => ?_)
          have J4 : Inv X pins σ' H' { s' with heap := h4 } := J.landed nb fl4.1 ((up.trans up3).trans up4) os ag
          obtain ⟨oe4, vs4, he4, hz4, hd4⟩ := fl4.there
          refine wpAny_mono ((su a oe4 cls d (X.pn ++ pins) hz4 ⟨_, hd4⟩).run [] _ _ H' _ (J4.suite he4 hd4 na nL nF) (yes rfl a na)) (fun f s6 sp => ?_) (fun _ _ z => False.elim z)
          cases f with
          | next => obtain ⟨σ6, H6, S6, q6⟩ := sp; exact ⟨_, _, S6.unsuite ok, q6⟩
          | brk => obtain ⟨σ6, H6, S6, q6⟩ := sp; exact ⟨_, _, S6.unsuite ok, q6⟩
          | cont => obtain ⟨σ6, H6, S6, q6⟩ := sp; exact ⟨_, _, S6.unsuite ok, q6⟩
          | ret u => obtain ⟨v6, σ6, H6, S6, r6, q6⟩ := sp; exact ⟨_, _, _, S6.unsuite ok, r6, q6⟩
        | false => exact ih (no rfl)
      | @named y z i c ts s0 ss p1 p2 hs2 l2 nd hi hk hc su r ih =>
        intro w
        obtain ⟨b, hb1, yes, no⟩ := w
        refine wpAny_handleBy_cons (codeAny_handlers_test ?_) (by intro q; cases q)
        refine look hc ((PySem.W.exm_one (M := model X.prog X.w) J3.kIn LT hb1).here ?_)
        cases b with
        | true =>
          refine codeAny_handlers_suite_as (HandSPX.lands_againZ fl3 fun h4 fl4 up4 => ?_)
          have J4 : Inv X pins σ' H' { s' with heap := h4 } := J.landed nb fl4.1 ((up.trans up3).trans up4) os ag
          obtain ⟨oe4, vs4, he4, hz4, hd4⟩ := fl4.there
          refine store_ok (X := X.suite a ((a, oe4) :: (X.pn ++ pins))) (v := .ref a) (J4.suite he4 hd4 na nL nF) nd hi (.inl hk) rfl (fun s5 S5 => ?_) (.inr hk)
          refine wpAny_mono ((su a oe4 cls d (X.pn ++ pins) hz4 ⟨_, hd4⟩).run [] s5 _ H' _ S5 (yes rfl a na)) (fun f s6 sp => ?_) (fun _ _ z => False.elim z)
          have gone : ∀ {σ6 : L2.St} {H6 : Hp} {Q : Shared → Prop}, Inv (X.suite a ((a, oe4) :: (X.pn ++ pins))) [] σ6 H6 s6 → (∀ s7, Inv X pins (σ6.set i none) H6 s7 → Q s7) →
              wpAny (model X.prog X.w) X.A (do bindName X.env z .none; unbindBehindTheSuite X.env z p2) (fun _ s7 => Q s7) X.xe s6 := fun {σ6 H6 Q} S6 hq => gone_ok (S6.unsuite ok) nd hi hk hq
          cases f with
          | next => obtain ⟨σ6, H6, S6, q6⟩ := sp; exact gone S6 fun s7 J7 => ⟨_, _, J7, q6⟩
          | brk => obtain ⟨σ6, H6, S6, q6⟩ := sp; exact gone S6 fun s7 J7 => ⟨_, _, J7, q6⟩
          | cont => obtain ⟨σ6, H6, S6, q6⟩ := sp; exact gone S6 fun s7 J7 => ⟨_, _, J7, q6⟩
          | ret u => obtain ⟨v6, σ6, H6, S6, r6, q6⟩ := sp; exact gone S6 fun s7 J7 => ⟨_, _, _, J7, r6, q6⟩
        | false => exact ih (no rfl)
    exact go hh w
end
end L2N
namespace M
open PySem PySem.Spec PyProof.Rows L2
inductive MixH where
  | bare (u : SJ) | nam (i : Nat) (u : Str → Addr → Addr → SJ)
def MixH.run : MixH → EJ → Rho → XJ
  | .bare u, D, ρ => fun _ _ s => u { D with xr := fun _ => No } ρ s
  | .nam i u, D, ρ => fun c fs s => fs ≠ [] ∧ ∀ a dd, s a = none → u c a dd (EJ.mk (fun ρ2 s2 => D.nx (ρ2.set i none) s2) D.rt (fun ρ2 s2 => D.bk (ρ2.set i none) s2) (fun ρ2 s2 => D.ct (ρ2.set i none) s2) (fun _ => No)) (ρ.set i (some (.exc a dd fs))) s
def mixJ : List (List (Str × Bool) × MixH) → EJ → Rho → XJ
  | [], D, ρ => D.xr ρ
  | (tab, h) :: r, D, ρ => fun c fs s => ∃ k, tab.lookup c = some k ∧ if k = true then h.run D ρ c fs s else mixJ r D ρ c fs s
def jTryX (hs : List (List (Str × Bool) × MixH)) (q : SJ) : SJ := fun D ρ s => q { D with xr := fun ρ' => mixJ hs D ρ' } ρ s
inductive Shx (K : PySem.W.Frag) : List L2N.ClV → List (List (Str × Bool) × MixH) → Prop where
  | nil : Shx K [] []
  | bare {x : Str} {tab : List (Str × Bool)} {ts : Addr → Value → Option Addr → TS} {u : SJ} {l : List L2N.ClV} {hs : List (List (Str × Bool) × MixH)}
      (hk : ∀ p ∈ tab, PySem.W.exmOne K (.ref (He.ga K p.1)) (.ref (He.ga K x)) = some p.2) (hu : ∀ a cls d, Ss K W0 (ts a cls d) u) (r : Shx K l hs) : Shx K ((.ref (He.ga K x), none, ts) :: l) ((tab, .bare u) :: hs)
  | named {x : Str} {i : Nat} {tab : List (Str × Bool)} {ts : Addr → Value → Option Addr → TS} {u : Str → Addr → Addr → SJ} {l : List L2N.ClV} {hs : List (List (Str × Bool) × MixH)}
      (hk : ∀ p ∈ tab, PySem.W.exmOne K (.ref (He.ga K p.1)) (.ref (He.ga K x)) = some p.2) (hu : ∀ c a dd, Ss K W0 (ts a (.ref (He.ga K c)) (some dd)) (u c a dd)) (r : Shx K l hs) : Shx K ((.ref (He.ga K x), some i, ts) :: l) ((tab, .nam i u) :: hs)
theorem shx_x {K : PySem.W.Frag} {W : WX} {F G : Hp} {D : EJ} {DV : Ends} {l : List L2N.ClV} {hs : List (List (Str × Bool) × MixH)} (h : Shx K l hs) (e : Er K F W G D DV) {ρ : Rho} {c : Str} {fs : List (Str × J)} {s : Sto} {σ : L2.St} {d : Option Addr} {H' : Hp} :
    mixJ hs D ρ c fs s → Le G (mask F s H') → At K F ρ s σ H' → XD K (mask F s H') d fs → L2N.wMix K W DV l (.ref (He.ga K c)) d σ H' := by
  intro q lg at' xd
  induction h with
  | nil => exact e.xr ρ c fs s σ q d H' lg at' xd
  | bare hk hu r ih =>
    obtain ⟨k, e1, q⟩ := q
    refine ⟨k, hk _ (lookup_mem e1), ?_, ?_⟩
    · rintro rfl b hb
      exact hu b _ d F { D with xr := fun _ => No } _ ρ s σ H' at' (er_no (e.up lg)) q
    · rintro rfl
      exact ih q
  | @named x i tab ts u l hs hk hu r ih =>
    obtain ⟨k, e1, q⟩ := q
    refine ⟨k, hk _ (lookup_mem e1), ?_, ?_⟩
    · rintro rfl b hb
      obtain ⟨ne, q⟩ := q
      cases d with
      | none => exact absurd xd ne
      | some dd =>
        obtain ⟨vs, e2, rr⟩ := xd
        have st := at'.st
        refine hu c b dd F (EJ.mk (fun ρ2 s2 => D.nx (ρ2.set i none) s2) D.rt (fun ρ2 s2 => D.bk (ρ2.set i none) s2) (fun ρ2 s2 => D.ct (ρ2.set i none) s2) (fun _ => No)) _ _ s _ H' ⟨at'.rs.set i (.exc (a := b) e2 rr), st⟩ ⟨?_, ?_, ?_, ?_, ?_⟩ (q b dd (st.fresh hb).1)
        · intro ρ2 s2 σ2 H2 h2 l2 a2
          exact e.nx _ s2 _ H2 h2 (lg.trans l2) ⟨a2.rs.set0 i, a2.st⟩
        · intro d2 s2 h2
          exact (e.rt d2 s2 h2).up lg
        · intro ρ2 s2 σ2 H2 h2 l2 a2
          exact e.bk _ s2 _ H2 h2 (lg.trans l2) ⟨a2.rs.set0 i, a2.st⟩
        · intro ρ2 s2 σ2 H2 h2 l2 a2
          exact e.ct _ s2 _ H2 h2 (lg.trans l2) ⟨a2.rs.set0 i, a2.st⟩
        · intro _ _ _ _ _ z
          exact z.elim
    · rintro rfl
      exact ih q
theorem ss_tryX {K : PySem.W.Frag} {W : WX} {tb : WX → TS} {q : SJ} {l : List L2N.ClV} {hs : List (List (Str × Bool) × MixH)} (h : Shx K l hs) (hb : ∀ W', Ss K W' (tb W') q) :
    Ss K W (fun D σ H => tb (L2N.wMix K W D l) D σ H) (jTryX hs q) := by
  intro F D DV ρ s σ H a e z
  refine hb _ F { D with xr := fun ρ' => mixJ hs D ρ' } DV ρ s σ H a ⟨e.nx, e.rt, e.bk, e.ct, ?_⟩ z
  intro ρ' c fs s' σ' hx d H' l' a' xd
  exact shx_x h e hx l' a' xd
section
variable {hs r : List (List (Str × Bool) × MixH)} {b u : SJ} {n bk ct : Rho → Sto → Prop} {rt : QJ} {xr : Rho → XJ} {ρ : Rho} {s : Sto} {tab : List (Str × Bool)} {c : Str} {fs : List (Str × J)} {D : EJ}
theorem y_tryX (h : b (EJ.mk n rt bk ct (fun ρ' => mixJ hs (EJ.mk n rt bk ct xr) ρ')) ρ s) : jTryX hs b (EJ.mk n rt bk ct xr) ρ s := h
theorem y_mix_n {i : Nat} {v : Str → Addr → Addr → SJ} {f : Str} {d : J} (h : ∀ a dd, s a = none → v c a dd (EJ.mk (fun ρ2 s2 => n (ρ2.set i none) s2) rt (fun ρ2 s2 => bk (ρ2.set i none) s2) (fun ρ2 s2 => ct (ρ2.set i none) s2) (fun _ => No)) (ρ.set i (some (.exc a dd [(f, d)]))) s)
    (e : tab.lookup c = some true := by with_unfolding_all rfl) : mixJ ((tab, .nam i v) :: r) (EJ.mk n rt bk ct xr) ρ c [(f, d)] s := ⟨true, e, by rw [if_pos rfl]; exact ⟨by simp, h⟩⟩
theorem y_mix_f {m : MixH} (h : mixJ r D ρ c fs s) (e : tab.lookup c = some false := by with_unfolding_all rfl) : mixJ ((tab, m) :: r) D ρ c fs s := ⟨false, e, by rw [if_neg (by decide)]; exact h⟩
end
end M

namespace M
open PySem PySem.Spec PyProof.Rows L2
def rPopD : V → List V → Hp → VK → Prop := fun x xs H Q => ∃ (a : Addr) (kvs : List (Key × V)) (k : Key) (v : V), x = .ref a ∧ xs = [kV k] ∧ H a = some (.dK kvs) ∧ valV kvs k = some v ∧ Q v (upd H a (.dK (dropK kvs k)))
theorem mt_popD {X : Cx} : MtR X "dict.pop" rPopD := by
  intro pins s σ H x xs v us Q I rx rxs h
  obtain ⟨a, kvs, k, w, rfl, rfl, e, l, q⟩ := h
  cases rx
  obtain ⟨u, rfl, ry⟩ := vals1 rxs
  exact d_pop I e ry l (.inl rfl) fun w' s' I' rw' => ⟨_, _, I', rw', q⟩
def dropJ (l : List (Key × J)) (k : Key) : List (Key × J) := l.filter fun kv => decide (kv.1 ≠ k)
def popDJ (x : J) (xs : List J) (s : Sto) (Q : QJ) : Prop := ∃ a l y k d, x = .own a ∧ xs = [y] ∧ s a = some (.dct l) ∧ keyOf y = some k ∧ valJ l k = some d ∧ Q d (put s a (.dct (dropJ l k)))
section
variable {K : PySem.W.Frag}
theorem Jpd.drop {G : Hp} {k : Key} : ∀ {xs : List (Key × V)} {l : List (Key × J)}, Jpd K G xs l → Jpd K G (dropK xs k) (dropJ l k)
  | _, _, .nil => .nil
  | _, _, .cons (k := k') (v := v) (d := d) h t => by
    have ih := Jpd.drop (k := k) t
    unfold dropK dropJ at *
    rw [List.filter_cons, List.filter_cons]
    by_cases c : k' = k
    · rw [if_neg (by simp [c]), if_neg (by simp [c])]
      exact ih
    · rw [if_pos (by simp [c]), if_pos (by simp [c])]
      exact .cons h ih
theorem sm_popD : Sm K rPopD popDJ := by
  intro F s H v vs x xs Q QV t jx js hQ h
  obtain ⟨a, l, y, k, d, rfl, rfl, e, hk, hv, q⟩ := h
  obtain ⟨u, rfl, jy⟩ := jps1 js
  cases jx
  obtain ⟨zs, h1, r⟩ := t.dct e
  rcases r.val (k := k) with ⟨_, z⟩ | ⟨w, y2, e1, e2, j2⟩
  · rw [z] at hv; cases hv
  · rw [e2] at hv
    cases hv
    refine ⟨a, zs, k, w, rfl, by rw [keyOf_v jy hk], h1, e1, hQ _ _ q _ _ (mask_w e) (t.write e (Jpd.drop r)) ?_⟩
    rw [mask_write e]
    exact j2
end
theorem y_popD {s : Sto} {Q : QJ} {a : Addr} {l : List (Key × J)} {y d : J} {k : Key} (e : s a = some (.dct l)) (hk : keyOf y = some k) (hv : valJ l k = some d) (q : Q d (put s a (.dct (dropJ l k)))) : popDJ (.own a) [y] s Q := ⟨a, l, y, k, d, rfl, rfl, e, hk, hv, q⟩
section
variable {prog : Program} {w : World} {A : Around} {E : Value → Shared → Prop} {s : Shared} {r d : Addr} {n : Nat} {P : Nat → Value → Prop} {OK : Heap → Prop}
open Sem (wp) in
theorem tup_new_src {Q1 : Value → Shared → Prop} (S : PySem.W.KdlSrc prog w "dict" r d n P OK) (hh : A.handled = none) (ok : OK s.heap) (hn : n ≤ sizeLine)
    (q : ∀ (h' : Heap) (tk : Nat) (acc : Array Value), (∀ b o, s.heap.get? b = some o → h'.get? b = some o) → ItemsOf P acc n → Q1 (.ref h'.objs.size) { s with heap := h'.push { cls := .type "tuple", data := .seq acc }, toks := tk }) :
    codeAny (model prog w) A (.call (.builtin "tuple.__new__") ⟨[.type "tuple", .ref r], []⟩) (wants Q1 E) s := by
  refine codeAny_of_tree ?_
  show wpAny _ A.in1 (do checkBuiltinCall "tuple.__new__" ⟨[.type "tuple", .ref r], []⟩; again (.builtin "tuple.__new__" ⟨[.type "tuple", .ref r], []⟩)) _ _ s
  refine wpAny_bind (wpAny_of_eq (F.newCall_tuple_1 _) (wpAny_pure ⟨plainId_quiet F.plain_tuple_new _, codeAny_builtin F.entry_tuple_new ?_⟩))
  rw [Around.under_plainId F.plain_tuple_new _]
  have g1 := sub_tuple_self
  have g2 := init_tuple_lookup
  have g3 := madeHere_tuple
  have g4 := S.type _ ok
  have g5 : A.in1.handled = none := hh
  wp_walk using wpAny_typeOf g4, PySem.W.kdu_collect (A := A.in1) S g5 ok hn
  intro h' tk acc hk hacc
  show wpAny _ _ (Builtin.Tuple.tupleExact acc.toList.toArray >>= fun v => ret v) _ _ _
  unfold Builtin.Tuple.tupleExact
  refine wpAny_bind (wpAny_newObj_type ?_ (by show acc.toList.toArray.size ≤ sizeLine; simp only [Array.toArray_toList]; rw [hacc.1]; exact hn))
  have e : acc.toList.toArray = acc := by simp
  rw [e]
  exact wpAny_pure (q h' tk acc hk hacc)
theorem tup_src {Q : Value → Shared → Prop} (S : PySem.W.KdlSrc prog w "dict" r d n P OK) (hh : A.handled = none) (ok : OK s.heap) (hn : n ≤ sizeLine)
    (q : ∀ (h' : Heap) (tk : Nat) (acc : Array Value), (∀ b o, s.heap.get? b = some o → h'.get? b = some o) → ItemsOf P acc n → Q (.ref h'.objs.size) { s with heap := h'.push { cls := .type "tuple", data := .seq acc }, toks := tk }) :
    wpAny (model prog w) A (call (.type "tuple") [.ref r]) Q E s := by
  refine callType_codes (Q₁ := fun o1 s1 => s1.TypeIs o1 "tuple" ∧ Q o1 s1) F.called_tuple (F.typeCall_tuple_1 _) F.entry_object_init
    (tup_new_src (A := A.in1) S hh ok hn fun h' tk acc hk hacc => ⟨⟨_, Heap.get?_push_size _ rfl, rfl⟩, q h' tk acc hk hacc⟩) fun o1 s1 h1 => ?_
  exact ⟨h1.1, F.args_object_init_2 o1 _, object_init_meets F.called_tuple.init.lookup F.called_tuple.made (by decide) prog w A.in1 _ s1 ⟨h1.1, rfl, h1.2⟩⟩
end
def uTupD : List V → Hp → VK → Prop := fun xs H Q => ∃ (a : Addr) (kvs : List (Key × V)), xs = [.ref a] ∧ Rd H a (.dK kvs) ∧ ∀ p, H p = none → Q (.ref p) (upd H p (.tup (kvs.map fun kv => kV kv.1)))
theorem call_tupD {X : Cx} (hc : X.calm = true) : CallR X (.type "tuple") uTupD := by
  intro pins s σ H xs us Q I r q
  obtain ⟨a, kvs, rfl, hd, q⟩ := q
  obtain ⟨u, rfl, rx⟩ := vals1 r
  cases rx
  obtain ⟨z, lo, vs, rel, dd⟩ := dk_rd I.hok hd
  obtain ⟨ep, hat⟩ := dd.dictAt
  have ek : (kvs.map fun kv => kV kv.1) = vs.map fun p => kV p.1 := by
    have e := congrArg (List.map kV) rel.keys
    rw [List.map_map, List.map_map] at e
    exact e
  have zl : vs.length ≤ sizeLine := by rw [← rel.length]; exact z
  refine tup_src (PySem.W.kdl_dict (knd := mixKind X.prog X.w) (kvs := vs) (ep := ep) lo) (I.ok.hd hc) hat zl fun h' tk acc hk hacc => ?_
  have hv : Vals (vs.map fun p => kV p.1) acc.toList := keys_at (by rw [Array.length_toList]; exact hacc.1) fun j v e => hacc.2 j v (by rw [← Array.getElem?_toList]; exact e)
  have I1 : Inv X pins σ H { s with heap := h', toks := tk } := I.kept (t' := tk) hk
  have ea : acc.toList.toArray = acc := by simp
  have I2 : Inv X pins σ (upd H h'.objs.size (.tup (vs.map fun p => kV p.1))) { s with heap := h'.push { cls := .type "tuple", data := .seq acc }, toks := tk } :=
    I1.laid (t' := tk) (fun b o e => Heap.get?_push_of_some _ e) (Nat.le_refl _) (show ObjOk X.prog X.w _ _ _ (.tup (vs.map fun p => kV p.1)) from ⟨by rw [List.length_map]; exact zl, acc.toList, hv, by have := IsTup.new h' acc.toList.toArray; rw [ea] at this ⊢; exact this⟩)
  rw [ek] at q
  exact ⟨.ref h'.objs.size, _, I2, rfl, q _ (I1.hok.fresh (Nat.le_refl _))⟩
def jTupD (xs : List J) (s : Sto) (Q : QJ) : Prop := ∃ d kvs, xs = [d] ∧ res s d = .dct kvs ∧ Q (.tup (kvs.map fun kv => kJ kv.1)) s
theorem y_tupD {s : Sto} {Q : QJ} {d : J} {kvs : List (Key × J)} (e : res s d = .dct kvs) (q : Q (.tup (kvs.map fun kv => kJ kv.1)) s) : jTupD [d] s Q := ⟨_, _, rfl, e, q⟩
theorem sf_tupD {K : PySem.W.Frag} : Sf K uTupD jTupD := by
  intro F s H v x Q QV t js hQ h
  obtain ⟨d, kvs, rfl, e, q⟩ := h
  obtain ⟨u, rfl, j⟩ := jps1 js
  obtain ⟨a, h, xs, rfl, e1, c1, r1⟩ := jp_dct t j e
  exact ⟨a, xs, rfl, rd_dct e1 c1, fun p hp => hQ _ s q _ _ (.new hp) (t.new hp) (.tup (.inl (.inl (mask_new t hp))) ((keys_J r1).up (.new hp)))⟩
open Sem (wp) in
set_option maxHeartbeats 1000000 in
theorem meets_enum1 {v : Value} {o : Obj} {Hh : Heap → Prop} (B : Begins v o Hh) :
    Meets (Builtin.«enumerate.__new__» ⟨[.type "enumerate", v], []⟩) (fun _ R s => Hh s.heap ∧
      R (.ok (.ret (.ref (s.heap.push o).objs.size))) { s with heap := (s.heap.push o).push { cls := .type "enumerate", data := .fields #[.none, .bool false, .ref s.heap.objs.size, rawInt 0, .none, .none] } }) :=
  .of_wp fun prog w A R s h => by
    obtain ⟨hp, g, d, tk, os⟩ := s; obtain ⟨h1, h⟩ := h
    have k1 := sub_enumerate
    have go : ∀ {A' : Around} {E : Value → Shared → Prop} {Q : Value → Shared → Prop}, Q (.ref hp.objs.size) ⟨hp.push o, g, d, tk, os⟩ → wpAny (model prog w) A' (pyIter v) Q E ⟨hp, g, d, tk, os⟩ :=
      fun q => B.iter prog w _ _ ⟨hp, g, d, tk, os⟩ _ h1 q
    wp_walk using go
    refine wpAny_stack_any fun st => wpAny_pure ?_
    split
    · rename_i c _ _ _ _ _
      cases (c == Value.type "enumerate")
      · wp_walk using go
        exact ⟨_, rfl, h⟩
      · wp_walk using go
        exact ⟨_, rfl, h⟩
    · wp_walk using go
      exact ⟨_, rfl, h⟩
end M

namespace M
open PySem PySem.Spec PyProof.Rows L2
section
variable {X : Cx} {k j : Nat} {f C : Addr} {ps : List Str} {sp : Sp} {dvs : List V} {x : Str} {p pos : Pos} {e : Expr} {es : List Expr} {t : TA} {W : WX} {fd : FuncData} {ds : List Value}
end
end M

namespace M
open PySem PySem.Spec PyProof.Rows L2
open Sem (wp)
def aEnt (hs : NestedKey → Int) (x : NX) : DictEntry := ⟨hs x.1, x.2.1, x.2.2⟩
def AKey (h : Heap) (k : NestedKey) (v : Value) : Prop := NestedIs h k v ∧ k.depth ≤ 8
def ADict (w : World) (h : Heap) (d : Addr) (xs : List NX) : Prop :=
  ∃ o es ep, h.get? d = some o ∧ o.ExactDict ∧ o.data = .dict es ep ∧ es.toList = xs.map (aEnt (NestedKey.hash w)) ∧ (∀ x ∈ xs, AKey h x.1 x.2.1) ∧ (xs.map (·.1)).Nodup
def atY (xs : List NX) (k : NestedKey) : Option (Value × Value) := (xs.find? fun x => decide (x.1 = k)).map (·.2)
def putY (xs : List NX) (k : NestedKey) (b u : Value) : List NX :=
  if (atY xs k).isSome = true then xs.map (fun x => if x.1 = k then (x.1, x.2.1, u) else x) else xs ++ [(k, b, u)]
section
variable {P : Program} {w : World} {A : Around} {E : Value → Shared → Prop} {s : Shared} {d : Addr} {o : Obj} {es : Array DictEntry} {ep : Nat} {xs : List NX} {k : NestedKey} {v : Value}
theorem ADict.ty (hm : ADict w s.heap d xs) : s.TypeIs (.ref d) "dict" := by
  obtain ⟨o, es, ep, eo, ex, _⟩ := hm
  exact ⟨o, eo, ex.1⟩
end
end M

namespace M
open PySem PySem.Spec PyProof.Rows L2
mutual
theorem nkJ_is {X : Cx} {pins : List (Addr × Obj)} {σ : L2.St} {H : Hp} {s : Shared} (I : Inv X pins σ H s) : ∀ (k : NestedKey) (v : V) (u : Value), Jp X.K H v (nkJ k) → RelV v u → NestedIs s.heap k u
  | .none, v, u, j, r => by
    unfold nkJ at j
    cases j
    obtain rfl : u = Value.none := r
    exact .none
  | .num i, v, u, j, r => by
    unfold nkJ at j
    cases j
    obtain ⟨t, rfl⟩ : ∃ t, u = Value.int i t := r
    exact .int i t
  | .text x, v, u, j, r => by
    unfold nkJ at j
    cases j
    obtain ⟨t, rfl⟩ : ∃ t, u = Value.str x t := r
    exact .text x t
  | .tup ks, v, u, j, r => by
    unfold nkJ at j
    cases j with | tup h js =>
    rename_i a xs
    obtain rfl : u = Value.ref a := r
    obtain ⟨its, r1, ⟨o, h1, h2, n, h3⟩, _⟩ := I.tuple h
    exact .tup h1 h2 h3 (nkJs_is I ks xs its js r1)
theorem nkJs_is {X : Cx} {pins : List (Addr × Obj)} {σ : L2.St} {H : Hp} {s : Shared} (I : Inv X pins σ H s) : ∀ (ks : List NestedKey) (v : List V) (u : List Value), Jps X.K H v (nkJs ks) → Vals v u → NestedAll s.heap ks u
  | [], v, u, j, r => by
    unfold nkJs at j
    cases j
    cases r
    exact .nil
  | k :: ks, v, u, j, r => by
    unfold nkJs at j
    cases j with | cons j js =>
    cases r with | cons r rs =>
    exact .cons (nkJ_is I k _ _ j r) (nkJs_is I ks _ _ js rs)
end
def dnO (w : World) (a : Addr) (xs : List NX) : HO := .ext (NR a (nEs (NestedKey.hash w) xs))
def DNv (K : PySem.W.Frag) (w : World) (H : Hp) (a : Addr) (xs : List NX) : Prop :=
  H a = some (dnO w a xs) ∧ xs.length ≤ 100000 ∧ (a == sysModules) = false ∧ (xs.map (·.1)).Nodup ∧ ∀ x ∈ xs, ∃ kv, RelV kv x.2.1 ∧ Jp K H kv (nkJ x.1) ∧ x.1.depth ≤ 8
section
variable {X : Cx} {pins : List (Addr × Obj)} {σ : L2.St} {H : Hp} {s : Shared} {a : Addr} {xs : List NX} {A : Around} {E : Value → Shared → Prop} {k : NestedKey} {b : Value} {v : V} {u : Value}
theorem DNv.dict (I : Inv X pins σ H s) (d : DNv X.K X.w H a xs) : ADict X.w s.heap a xs := by
  obtain ⟨e, _, _, nd, kk⟩ := d
  obtain ⟨⟨o, ep, h1, h2, h3⟩, _, _⟩ := I.hok a _ e
  refine ⟨o, _, ep, h1, h2, h3, rfl, fun x hx => ?_, nd⟩
  obtain ⟨kv, rk, jk, dk⟩ := kk x hx
  exact ⟨nkJ_is I _ _ _ jk rk, dk⟩
end
section
variable {X : Cx}
end
section
variable {X : Cx}
end
def valN (l : List (NestedKey × J)) (k : NestedKey) : Option J := (l.find? fun x => decide (x.1 = k)).map (·.2)
def putN (l : List (NestedKey × J)) (k : NestedKey) (y : J) : List (NestedKey × J) := if (valN l k).isSome = true then l.map (fun x => if x.1 = k then (x.1, y) else x) else l ++ [(k, y)]
section
variable {K : PySem.W.Frag} {G : Hp} {xs : List NX} {l : List (NestedKey × J)} {k : NestedKey} {b : Value} {kv : V} {u : Value} {v : V} {y : J}
theorem NKs.length (h : NKs K G xs l) : xs.length = l.length := by
  induction h with
  | nil => rfl
  | cons _ _ _ _ _ _ ih => rw [List.length_cons, List.length_cons, ih]
theorem NKs.keys (h : NKs K G xs l) : ∀ x ∈ xs, ∃ kv, RelV kv x.2.1 ∧ Jp K G kv (nkJ x.1) ∧ x.1.depth ≤ 8 := by
  induction h with
  | nil => intro x hx; cases hx
  | cons rk j e _ _ _ ih =>
    intro x hx
    rcases List.mem_cons.mp hx with rfl | hx
    · exact ⟨_, rk, j, e⟩
    · exact ih x hx
theorem NKs.val (h : NKs K G xs l) (k : NestedKey) : (atY xs k = none ∧ valN l k = none) ∨ ∃ p v y, atY xs k = some p ∧ valN l k = some y ∧ RelV v p.2 ∧ Jp K G v y := by
  induction h with
  | nil => exact .inl ⟨rfl, rfl⟩
  | cons rk j e r jv _ ih =>
    rename_i k' b kv u v y xs l _
    unfold atY valN
    by_cases c : k' = k
    · rw [List.find?_cons_of_pos (by simpa using c), List.find?_cons_of_pos (by simpa using c)]
      exact .inr ⟨_, _, _, rfl, rfl, r, jv⟩
    · rw [List.find?_cons_of_neg (by simpa using c), List.find?_cons_of_neg (by simpa using c)]
      exact ih
theorem NKs.some (h : NKs K G xs l) (k : NestedKey) : (atY xs k).isSome = (valN l k).isSome := by
  rcases h.val k with ⟨a, b⟩ | ⟨p, v, y, a, b, _⟩ <;> rw [a, b] <;> rfl
theorem NKs.put (h : NKs K G xs l) (rk : RelV kv b) (j : Jp K G kv (nkJ k)) (hd : k.depth ≤ 8) (r : RelV v u) (jv : Jp K G v y) : NKs K G (putY xs k b u) (putN l k y) := by
  unfold putY putN
  rw [h.some k]
  split
  · rename_i z
    clear z
    induction h with
    | nil => exact .nil
    | cons rk' j' e' r' jv' _ ih =>
      rename_i k' b' kv' u' v' y' xs l _
      rw [List.map_cons, List.map_cons]
      by_cases c : k' = k
      · rw [if_pos c, if_pos c]
        exact .cons rk' j' e' r jv ih
      · rw [if_neg c, if_neg c]
        exact .cons rk' j' e' r' jv' ih
  · rename_i z
    clear z
    induction h with
    | nil => exact .cons rk j hd r jv .nil
    | cons rk' j' e' r' jv' _ ih => exact .cons rk' j' e' r' jv' ih
end
theorem Stt.dN {K : PySem.W.Frag} {F : Hp} {s : Sto} {H : Hp} {a b : Addr} {hs : NestedKey → Int} {l : List (NestedKey × J)} (t : Stt K F s H) (e : s a = some (.dN hs b l)) :
    ∃ xs, H a = some (.ext (NR b (nEs hs xs))) ∧ xs.length ≤ 100000 ∧ (b == sysModules) = false ∧ (xs.map (·.1)).Nodup ∧ NKs K (mask F s H) xs l := by
  obtain ⟨h1, h2, h3, h4⟩ := t.sk a _ e
  unfold Oh at h4
  split at h4
  · rename_i q; cases q
  · rename_i q; cases q
  · rename_i q; cases q
  · rename_i q
    cases q
    obtain ⟨xs, rfl, z⟩ := h4
    exact ⟨xs, h3, z⟩
  · exact h4.elim
section
variable {K : PySem.W.Frag} {w : World}
end
section
variable {K : PySem.W.Frag} {w : World} {W : WX}
end
section
variable {X : Cx}
end
section
variable {K : PySem.W.Frag} {w : World} {W : WX} {tk tv : TE} {pk pv : TJ} {tt : TT} {pt : BJ} {g : TG} {gj : GJ} {ti : TI} {pi : IJ} {vs : List Nat}
end
end M

namespace M
open PySem PySem.Spec PyProof.Rows L2
theorem three {c a1 a2 a3 a4 a5 a6 : Addr} (h : c ∉ [a1, a2, a3, a4, a5, a6]) : c ≠ a1 ∧ c ≠ a2 ∧ c ≠ a3 ∧ c ≠ a4 ∧ c ≠ a5 ∧ c ≠ a6 := by
  simp only [List.mem_cons, List.not_mem_nil, or_false, not_or] at h
  exact h
section
variable {K : PySem.W.Frag} {W : WX} {xa : TA} {qa : AJ}
end
end M

namespace M
open PySem PySem.Spec PyProof.Rows L2
def iKeysL (td : TE) : TI := fun σ H R => td σ H fun x H1 => ∃ d kvs, x = .ref d ∧ ((∃ o, H1 d = some (.frz o (.dK kvs)) ∧ R (Itk d o kvs) H1) ∨ (H1 d = some (.dK kvs) ∧ ∀ o, R (Itk d o kvs) (upd H1 d (.frz o (.dK kvs)))))
theorem pi_keysL {X : Cx} {tg e : Expr} {td : TE} (he : PE X e td) : PI X tg e (iKeysL td) := by
  refine ⟨fun pins s σ H R I h => thn (he.run pins s σ H _ I h) fun u s1 h1 => ?_⟩
  obtain ⟨x, H1, I1, rx, d, kvs, rfl, q⟩ := h1
  obtain rfl : u = Value.ref d := rx
  have fin : ∀ (o : Obj) (H2 : Hp), Inv X pins σ H2 s1 → H2 d = some (.frz o (.dK kvs)) → R (Itk d o kvs) H2 → wpAny (model X.prog X.w) X.A (pyIter (.ref d)) (PIE X pins σ tg R) X.xe s1 := fun o H2 I2 hd q => by
    obtain ⟨hs, hgd, hx, es, ep, vs, hdt, hsz, kv, hm⟩ := I2.frzK hd
    refine iter_keys hs hgd hx hdt (pi_one (tk := s1.toks) I2 _ (turn_keys _ hdt) ⟨_, Heap.get?_push_size _ rfl, rfl, ?_⟩ q)
    rw [hsz] <;> rfl
  rcases q with ⟨o, hd, q⟩ | ⟨hd, q⟩
  · exact fin o H1 I1 hd q
  · obtain ⟨o, I2⟩ := I1.lock hd True.intro
    exact fin o _ I2 upd_same (q o)
def jKeys (p : TJ) : IJ := fun ρ s Q R => p ρ s (fun x s1 => ∃ l : List (Key × J), x = .dct l ∧ Q ⟨l.map fun kv => kJ kv.1, fun _ => True⟩ s1) R
section
variable {K : PySem.W.Frag} {W : WX} {F : Hp} {s : Sto} {H : Hp} {d : Addr} {o : Obj} {kvs : List (Key × V)} {l : List (Key × J)}
theorem Le.frz {G G' : Hp} (e : Le G G') {u : HO} (h : G d = some (.frz o u)) : G' d = some (.frz o u) := by
  obtain ⟨h', e1, k⟩ := e _ _ h
  rw [e1, k.frz]
theorem it_keys (h : mask F s H d = some (.frz o (.dK kvs))) (r : Jpd K (mask F s H) kvs l) : ItRel K (mask F s H) ⟨l.map fun kv => kJ kv.1, fun _ => True⟩ (Itk d o kvs) := by
  intro F' i s' H' le st _
  have h' := (of_mask (le.frz h)).2.2
  have ln := r.length
  refine ⟨fun hi => ⟨⟨h', by rw [List.length_map] at hi; omega⟩, fun x H2 y => ?_⟩, fun hi => ⟨h', by rw [List.length_map] at hi; omega⟩⟩
  obtain ⟨rfl, k, v, ek, rfl⟩ := y
  refine ⟨.refl, st, ?_⟩
  obtain ⟨dd, e1, e2⟩ := (keys_J (r.up le)).get' (u := kV k) (i := i) (by rw [List.getElem?_map, ek]; rfl)
  exact ⟨dd, e1, e2⟩
theorem Le.locks (h : mask F s H d = some (.dK kvs)) : Le (mask F s H) (mask F s (upd H d (.frz o (.dK kvs)))) ∧ mask F s (upd H d (.frz o (.dK kvs))) d = some (.frz o (.dK kvs)) := by
  obtain ⟨f1, f2, f3⟩ := of_mask h
  refine ⟨fun a u q => ?_, by rw [mask_none f1 f2, upd_same]⟩
  obtain ⟨h1, h2, h3⟩ := of_mask q
  by_cases e : a = d
  · subst e
    rw [f3] at h3
    cases h3
    exact ⟨_, by rw [mask_none h1 h2, upd_same], .inr ⟨o, kvs, rfl, rfl⟩⟩
  · exact ⟨u, by rw [mask_none h1 h2, upd_ne e]; exact h3, .inl rfl⟩
theorem Stt.locks (t : Stt K F s H) (h : mask F s H d = some (.dK kvs)) : Stt K F s (upd H d (.frz o (.dK kvs))) := by
  obtain ⟨f1, f2, f3⟩ := of_mask h
  refine ⟨fun a u q => ?_, fun a u q => ?_⟩
  · obtain ⟨h1, h2, h3, h4⟩ := t.sk a u q
    have ne : a ≠ d := fun e => by rw [e, f2] at q; cases q
    exact ⟨h1, h2, by rw [upd_ne ne]; exact h3, h4.up (Le.locks h).1⟩
  · have ne : a ≠ d := fun e => by rw [e, f1] at q; cases q
    rw [upd_ne ne]
    exact t.fr a u q
theorem si_keys {td : TE} {pd : TJ} (hd : Se K W td pd) : Si K W (iKeysL td) (jKeys pd) := by
  intro F ρ s σ H Q R QV a hQ hR h
  refine hd F ρ s σ H _ R _ a (fun x s1 h1 v H1 l1 st1 j1 => ?_) hR h
  obtain ⟨l, rfl, q⟩ := h1
  cases j1 with | dct e c r =>
  rename_i d hh xs
  rcases cor_dK c with rfl | ⟨o, rfl⟩
  · refine ⟨d, xs, rfl, .inr ⟨(of_mask e).2.2, fun o => ?_⟩⟩
    obtain ⟨le, e2⟩ := Le.locks (o := o) e
    exact hQ _ s1 q _ _ (l1.trans le) (st1.locks e) (it_keys e2 (r.up le))
  · exact ⟨d, xs, rfl, .inl ⟨o, (of_mask e).2.2, hQ _ s1 q _ _ l1 st1 (it_keys e r)⟩⟩
end
theorem y_keys {pd : TJ} {ρ : Rho} {s : Sto} {Q : ItJ → Sto → Prop} {R : XJ} (h : pd ρ s (fun x s1 => ∃ l : List (Key × J), x = .dct l ∧ Q ⟨l.map fun kv => kJ kv.1, fun _ => True⟩ s1) R) : jKeys pd ρ s Q R := h
end M

namespace M
open PySem PySem.Spec PyProof.Rows L2
end M

namespace M
open PySem PySem.Spec PyProof.Rows L2
section
variable {K : PySem.W.Frag}
end
end M

namespace M
open PySem PySem.Spec PyProof.Rows L2
end M

namespace M
open PySem PySem.Spec PyProof.Rows L2
section
variable {X : Cx} {k j n : Nat} {f C : Addr} {fd : FuncData} {ps ks : List Str} {sp : Sp} {x : Str} {p pos : Pos} {e : Expr} {es : List Expr} {kws : List Keyword} {t tk : TA} {W : WX} {sel : List (Nat × Nat)} {ms : List V}
end
section
variable {K : PySem.W.Frag} {W : WX} {ta te : TE} {pa pe : TJ} {xa xk : TA} {qa qk : AJ} {w : WJ} {dvs : List V} {dj : List J}
end
section
variable {K : PySem.W.Frag} {W : WX} {ta te : TE} {pa pe : TJ} {w : WJ}
end
section
variable {K : PySem.W.Frag} {F : Hp} {s : Sto} {H : Hp} {a d : Addr} {c f : Str} {fs : List (Str × J)} {l : List (Key × J)}
end
end M
namespace M
open PySem PySem.Spec PyProof.Rows L2
end M

namespace M
open PySem PySem.Spec PyProof.Rows L2
section
variable {K : PySem.W.Frag} {W : WX} {F : Hp} {s : Sto} {H : Hp} {d : Addr} {o : Obj} {kvs : List (Key × V)} {l : List (Key × J)}
end
end M
namespace M
open PySem PySem.Spec PyProof.Rows L2
section
variable {K : PySem.W.Frag} {s : Sto} {x : J} {Q : QJ}
end
end M
namespace M
open PySem PySem.Spec PyProof.Rows L2
section
variable {K : PySem.W.Frag} {F : Hp} {s : Sto} {H : Hp} {d : Addr} {G : Hp}
end
section
variable {s : Sto} {ρ : Rho} {D : EJ} {p : SJ} {i : Nat} {d : Addr}
end
end M

namespace M
open PySem PySem.Spec PyProof.Rows L2
def keyPy : Key → PyData
  | .inl i => .int i
  | .inr z => .str z
mutual
inductive ReadsT (K : PySem.W.Frag) (H : Hp) : V → PyData → Prop
  | non : ReadsT K H .non .none
  | bl (b : Bool) : ReadsT K H (.bl b) (.bool b)
  | int (i : Int) : ReadsT K H (.int i) (.int i)
  | str (z : Str) : ReadsT K H (.str z) (.str z)
  | tup {a : Addr} {xs : List V} {ds : List PyData} : SqT K H a xs → ReadsTs K H xs ds → ReadsT K H (.ref a) (.tuple ds)
inductive ReadsTs (K : PySem.W.Frag) (H : Hp) : List V → List PyData → Prop
  | nil : ReadsTs K H [] []
  | cons {v : V} {vs : List V} {d : PyData} {ds : List PyData} : ReadsT K H v d → ReadsTs K H vs ds → ReadsTs K H (v :: vs) (d :: ds)
end
inductive ReadsTd (K : PySem.W.Frag) (H : Hp) : List (Key × V) → List (PyData × PyData) → Prop
  | nil : ReadsTd K H [] []
  | cons {k : Key} {v : V} {vs : List (Key × V)} {d : PyData} {ds : List (PyData × PyData)} : ReadsT K H v d → ReadsTd K H vs ds → ReadsTd K H ((k, v) :: vs) ((keyPy k, d) :: ds)
section
variable {X : Cx} {pins : List (Addr × Obj)} {σ : L2.St} {H : Hp} {s : Shared}
mutual
theorem ReadsT.reads (I : Inv X pins σ H s) : ∀ {v : V} {u : Value} {d : PyData}, ReadsT X.K H v d → RelV v u → Reads s.heap u d []
  | _, _, _, .non, r => by
    cases r
    exact .none
  | _, _, _, .bl b, r => by
    cases r
    exact .bool b
  | _, _, _, .int i, r => by
    obtain ⟨t, rfl⟩ := r
    exact .int i t
  | _, _, _, .str z, r => by
    obtain ⟨t, rfl⟩ := r
    exact .str z t
  | _, _, _, .tup h rs, r => by
    cases r
    obtain ⟨its, rv, ⟨o, e, hc, n, hd⟩, _⟩ := I.tuple h
    exact .tuple e hc hd (ReadsTs.reads I rs rv)
theorem ReadsTs.reads (I : Inv X pins σ H s) : ∀ {v : List V} {u : List Value} {d : List PyData}, ReadsTs X.K H v d → Vals v u → ReadsAll s.heap u d []
  | _, _, _, .nil, r => by
    cases r
    exact .nil
  | _, _, _, .cons h rs, r => by
    cases r with
    | cons r1 r2 => exact .cons (as := []) (bs := []) (ReadsT.reads I h r1) (ReadsTs.reads I rs r2)
end
theorem key_reads {h : Heap} {k : Key} {u : Value} (e : keyIs k u = true) : Reads h u (keyPy k) [] := by
  rcases keyIs_shape e with ⟨i, t, rfl, rfl⟩ | ⟨x, t, rfl, rfl⟩
  · exact .int i t
  · exact .str x t
theorem ReadsTd.reads (I : Inv X pins σ H s) : ∀ {xs : List (Key × V)} {ds : List (PyData × PyData)}, ReadsTd X.K H xs ds → ∀ {vs : List (Key × Value)} {es : List DictEntry}, KV xs vs → Pairs (mixKind X.prog X.w) es vs →
    ReadsAll s.heap (es.map (·.key)) (ds.map (·.1)) [] ∧ ReadsAll s.heap (es.map (·.val)) (ds.map (·.2)) []
  | _, _, .nil, _, _, kv, ps => by
    cases kv
    cases ps
    exact ⟨.nil, .nil⟩
  | _, _, .cons h rs, _, _, kv, ps => by
    cases kv with
    | cons a r =>
      cases ps with
      | cons k e t =>
        obtain ⟨q1, q2⟩ := ReadsTd.reads I rs r t
        obtain ⟨a1, a2⟩ := a
        dsimp only at a1 a2
        rw [← a1] at k
        rw [← e] at a2
        exact ⟨.cons (as := []) (bs := []) (key_reads k) q1, .cons (as := []) (bs := []) (ReadsT.reads I h a2) q2⟩
end
/-- a dict that can be shown -/
def rShowD (K : PySem.W.Frag) : List V → Hp → VK → Prop := fun xs H Q => ∃ a kvs ds, xs = [.ref a] ∧ Rd H a (.dK kvs) ∧ ReadsTd K H kvs ds ∧ (PyData.dict ds).showable = true ∧ (PyData.dict ds).depth ≤ 60 ∧ (PyData.dict ds).shown.length ≤ sizeLine ∧ Q (.str (PyData.dict ds).shown) H
theorem call_strDct {X : Cx} (gd : X.A.guards = some []) (hu : X.A.units + 65 < cLine) : CallR X (.type "str") (rShowD X.K) := by
  intro pins s σ H xs us Q I r h
  obtain ⟨a, kvs, ds, rfl, e, rd, sh, dp, sz, q⟩ := h
  obtain ⟨u, rfl, rv⟩ := vals1 r
  obtain rfl : u = Value.ref a := rv
  obtain ⟨_, hd, vs, rel, dd⟩ := dk_rd I.hok e
  obtain ⟨o, es, ep, h1, h2, h3, _, h4, _⟩ := dd
  obtain ⟨r1, r2⟩ := ReadsTd.reads I rd rel h4
  have rr : Reads s.heap (.ref a) (.dict ds) (a :: [] ++ []) := .dict h1 h2.1 h3 r1 r2
  refine str_of_reads rr sh (fun _ z => ?_) gd (by omega) (fun _ _ e => e) (fun h' t tk k => ⟨.str (PyData.dict ds).shown, H, I.kept k, ⟨t, rfl⟩, q⟩) sz
  rcases List.mem_cons.mp z with z | z
  · rw [← z] at hd
    simp at hd
  · cases z
mutual
inductive PyT : J → PyData → Prop
  | non : PyT .non .none
  | bl (b : Bool) : PyT (.bl b) (.bool b)
  | int (i : Int) : PyT (.int i) (.int i)
  | str (z : Str) : PyT (.str z) (.str z)
  | tup {xs : List J} {ds : List PyData} : PyTs xs ds → PyT (.tup xs) (.tuple ds)
inductive PyTs : List J → List PyData → Prop
  | nil : PyTs [] []
  | cons {x : J} {xs : List J} {d : PyData} {ds : List PyData} : PyT x d → PyTs xs ds → PyTs (x :: xs) (d :: ds)
end
inductive PyTd : List (Key × J) → List (PyData × PyData) → Prop
  | nil : PyTd [] []
  | cons {k : Key} {x : J} {xs : List (Key × J)} {d : PyData} {ds : List (PyData × PyData)} : PyT x d → PyTd xs ds → PyTd ((k, x) :: xs) ((keyPy k, d) :: ds)
section
variable {K : PySem.W.Frag} {G H : Hp}
mutual
theorem PyT.v (l : ∀ a o, G a = some o → H a = some o) : ∀ {x : J} {v : V} {d : PyData}, PyT x d → Jp K G v x → ReadsT K H v d
  | _, _, _, .non, j => by cases j; exact .non
  | _, _, _, .bl b, j => by cases j; exact .bl b
  | _, _, _, .int i, j => by cases j; exact .int i
  | _, _, _, .str z, j => by cases j; exact .str z
  | _, _, _, .tup p, j => by
    cases j with | tup h js =>
    refine .tup ?_ (PyTs.v l p js)
    exact Le.sqt (fun a o e => ⟨o, l a o e, .inl rfl⟩) h
theorem PyTs.v (l : ∀ a o, G a = some o → H a = some o) : ∀ {x : List J} {v : List V} {d : List PyData}, PyTs x d → Jps K G v x → ReadsTs K H v d
  | _, _, _, .nil, j => by cases j; exact .nil
  | _, _, _, .cons p ps, j => by
    cases j with | cons j js =>
    exact .cons (PyT.v l p j) (PyTs.v l ps js)
end
theorem PyTd.v (l : ∀ a o, G a = some o → H a = some o) : ∀ {x : List (Key × J)} {v : List (Key × V)} {d : List (PyData × PyData)}, PyTd x d → Jpd K G v x → ReadsTd K H v d
  | _, _, _, .nil, j => by cases j; exact .nil
  | _, _, _, .cons p ps, j => by
    cases j with | cons j js =>
    exact .cons (PyT.v l p j) (PyTd.v l ps js)
end
structure ShwD (l : List (Key × J)) (ds : List (PyData × PyData)) : Prop where
  py : PyTd l ds
  sh : (PyData.dict ds).showable = true
  dp : (PyData.dict ds).depth ≤ 60
  sz : (PyData.dict ds).shown.length ≤ sizeLine
def showDJ (xs : List J) (s : Sto) (Q : QJ) : Prop := ∃ x l ds, xs = [x] ∧ res s x = .dct l ∧ ShwD l ds ∧ Q (.str (PyData.dict ds).shown) s
theorem sf_showD {K : PySem.W.Frag} : Sf K (rShowD K) showDJ := by
  intro F s H v x Q QV t js hQ h
  obtain ⟨d, l, ds, rfl, e, w, q⟩ := h
  obtain ⟨u, rfl, j⟩ := jps1 js
  obtain ⟨a, h, xs, rfl, h1, c, r⟩ := jp_dct t j e
  refine ⟨a, xs, ds, rfl, ?_, w.py.v (fun a o e => (of_mask e).2.2) r, w.sh, w.dp, w.sz, hQ _ s q _ H .refl t (.str _)⟩
  rcases cor_dK c with rfl | ⟨o, rfl⟩
  · exact .inl h1
  · exact .inr ⟨o, h1⟩
theorem y_showD {x : J} {l : List (Key × J)} {ds : List (PyData × PyData)} {s : Sto} {Q : QJ} (e : res s x = .dct l) (w : ShwD l ds) (q : Q (.str (PyData.dict ds).shown) s) : showDJ [x] s Q := ⟨x, l, ds, rfl, e, w, q⟩
end M

namespace M
open PySem PySem.Spec PyProof.Rows L2 PySem.W
theorem setName {prog : Program} {w : World} {A : Around} {E : Value → Shared → Prop} {d : Addr} {s : Shared} {es : List DictEntry} {n : Nat} {k : Str} {v : Value} {Q : Unit → Shared → Prop} (D : s.heap.get? d = some (dictOf es n))
    (hs : ∀ e ∈ es, e.key.isStr k = false) (hr : ∀ e ∈ es, e.refKey = false)
    (h : ∀ h', h'.objs.size = s.heap.objs.size → (∀ b, b ≠ d → h'.get? b = s.heap.get? b) → h'.get? d = some (dictOf (es ++ [⟨PyData.keyHash w.params k, .str k s.toks, v⟩]) (n + 1)) → Q () { s with heap := h', toks := s.toks + 1 }) :
    wpAny (model prog w) A (nsSet d k v) Q E s := by
  have e1 : es.any (·.key.isStr k) = false := by
    cases q : es.any (·.key.isStr k) with
    | false => rfl
    | true => obtain ⟨e, he, z⟩ := List.any_eq_true.mp q; rw [hs e he] at z; cases z
  have e2 : es.any (·.refKey) = false := by
    cases q : es.any (·.refKey) with
    | false => rfl
    | true => obtain ⟨e, he, z⟩ := List.any_eq_true.mp q; rw [hr e he] at z; cases z
  have e : Obj.putName k (PyData.keyHash w.params k) (.str k s.toks) v (dictOf es n) = dictOf (es ++ [⟨PyData.keyHash w.params k, .str k s.toks, v⟩]) (n + 1) := by
    rw [putName_dict, putL_new hs]
    show dictOf _ (if es.any (·.key.isStr k) then n else n + 1) = _
    rw [e1, if_neg Bool.false_ne_true]
  have c : aRefKeyMayBeTheName k es.toArray = false := by
    rw [aRefKeyMayBeTheName_at, ← Array.any_toList, ← Array.any_toList]
    show (!es.any (·.key.isStr k) && es.any (·.refKey)) = false
    rw [e2, Bool.and_false]
  unfold nsSet
  refine wpAny_bind (wpAny_bind (wpAny_askSetting (wpAny_pure (wpAny_bind (wpAny_mkText (wpAny_bind (wpAny_loadPart D ?_)))))))
  dsimp only
  rw [c]
  refine wpAny_updatePart D (h _ (Heap.size_update _ _ _) (fun b hb => Heap.get?_update_other _ _ (Ne.symm hb)) ?_)
  show (s.heap.update d (Obj.putName k (PyData.keyHash w.params k) (.str k s.toks) v)).get? d = _
  rw [Heap.get?_update_self _ D (by rw [e]; rfl), e]
theorem fillNames {prog : Program} {w : World} {A : Around} {E : Value → Shared → Prop} {d : Addr} {Q : PUnit → Shared → Prop} : ∀ (ex : List (Str × Value)) (s : Shared) (es : List DictEntry) (n : Nat), s.heap.get? d = some (dictOf es n) →
    (∀ e ∈ es, ∀ x ∈ ex, e.key.isStr x.1 = false) → (∀ e ∈ es, e.refKey = false) → (ex.map (·.1)).Nodup →
    (∀ h' tk, h'.objs.size = s.heap.objs.size → (∀ b, b ≠ d → h'.get? b = s.heap.get? b) → h'.get? d = some (dictOf (es ++ kwEs w.params s.toks ex) (n + ex.length)) → Q ⟨⟩ { s with heap := h', toks := tk }) →
    wpAny (model prog w) A (forIn ex PUnit.unit fun x _ => (nsSet d x.1 x.2 >>= fun _ => pure (ForInStep.yield PUnit.unit))) Q E s
  | [], s, es, n, D, _, _, _, h => by
    rw [List.forIn_nil]
    refine wpAny_pure (h s.heap s.toks rfl (fun _ _ => rfl) ?_)
    show s.heap.get? d = some (dictOf (es ++ []) n)
    rw [List.append_nil]
    exact D
  | x :: r, s, es, n, D, hs, hr, hn, h => by
    obtain ⟨hn1, hn2⟩ := List.nodup_cons.mp (show (x.1 :: r.map (·.1)).Nodup from hn)
    rw [List.forIn_cons]
    refine wpAny_bind (wpAny_bind (setName D (fun e he => hs e he x (.head _)) hr fun h' z1 z2 D' => wpAny_pure ?_))
    show wpAny (model prog w) A (forIn r PUnit.unit fun x _ => (nsSet d x.1 x.2 >>= fun _ => pure (ForInStep.yield PUnit.unit))) Q E { s with heap := h', toks := s.toks + 1 }
    refine fillNames r { s with heap := h', toks := s.toks + 1 } _ _ D' (fun e he y hy => ?_) (fun e he => ?_) hn2 fun h'' tk y1 y2 D'' => ?_
    · rcases List.mem_append.mp he with he | he
      · exact hs e he y (.tail _ hy)
      · obtain rfl := List.mem_singleton.mp he
        show (x.1 == y.1) = false
        exact beq_eq_false_iff_ne.mpr fun q => hn1 (by rw [q]; exact List.mem_map_of_mem hy)
    · rcases List.mem_append.mp he with he | he
      · exact hr e he
      · obtain rfl := List.mem_singleton.mp he
        rfl
    · refine h h'' tk (y1.trans z1) (fun b hb => (y2 b hb).trans (z2 b hb)) ?_
      have t2 : n + 1 + r.length = n + (r.length + 1) := by omega
      rw [t2, List.append_assoc] at D''
      exact D''
theorem cxUpN {P : Program} {w : World} : StX.CXUp (L2N.CX P w) := by
  rintro outer s H s2 H2 E e s' un kp ho ⟨a, B, H', cls, d, ea, fl, hok, ub, na, os, ag, he⟩
  refine ⟨a, B, H', cls, d, ea, fl, hok, ⟨fun b o q n hb => ub.keep b o (kp b o q) (un.free b o q n (by simp)) hb, fun b o q hb => ub.slot b o (kp b o q) hb, fun b o q n => ub.free b o (kp b o q) (un.free b o q n (by simp)),
    fun b o q hb => ub.there b o (kp b o q) hb, fun b xs q => ub.tups b xs (un.tups b xs q), fun b o xs q => ub.frzs b o xs (un.frzs b o xs q), fun b ps q => ?_⟩, na, os.trans ho, ag, he⟩
  obtain ⟨m1, e1⟩ := un.tbls b ps q
  obtain ⟨m2, e2⟩ := ub.tbls b _ e1
  exact ⟨m1 ++ m2, by rw [e2, Array.append_assoc]⟩
/-- peek at a term up to its first object -/
theorem peek_alloc {α : Type} {K : PySem.W.Frag} {M : Model} {A : Around} {E : Value → Shared → Prop} {Q : α → Shared → Prop} {s : Shared} {o : Obj} (X : K.In s.heap) :
    ∀ (t : Sem α) (g : Addr → Sem α), peekA K ⟨M.prog, M.w.params⟩ t = some (o, g) → wpAny M A (g s.heap.objs.size) Q E { s with heap := s.heap.push o } → wpAny M A t Q E s := by
  intro t
  induction t with
  | rule _ k ih => intro g e q Γ p hΓ; exact ih () g e q Γ p hΓ
  | point _ k ih => intro g e q Γ p hΓ; exact ih () g e q Γ p hΓ
  | ask k ih => intro g e q Γ p hΓ; exact ih _ g e q Γ p hΓ
  | load a _ k ih =>
    intro g e q Γ p hΓ
    simp only [peekA] at e
    split at e
    · rename_i ob ho; exact ⟨ob, X _ _ ho, ih ob g e q Γ p hΓ⟩
    · cases e
  | alloc ob k _ =>
    intro g e q
    have e : some (ob, k) = some (o, g) := e
    obtain ⟨e1, e2⟩ := Prod.mk.inj (Option.some.inj e)
    subst e1
    subst e2
    show wpAny M A (alloc ob >>= k) Q E s
    exact wpAny_bind (wpAny_alloc q)
  | _ => intro g e; cases e
def kwDict (ks : List Str) (vs : List V) : List (Key × V) := (ks.map Sum.inr).zip vs
theorem kw_pairs {P : Program} {w : World} : ∀ (ks : List Str) (us : List Value) (t : Tok), us.length = ks.length → Pairs (mixKind P w) (kwEs w.params t (ks.zip us)) ((ks.map (Sum.inr : Str → Key)).zip us)
  | [], [], _, _ => .nil
  | k :: ks, u :: us, t, h => .cons (keyIs_str k t) rfl (kw_pairs ks us (t + 1) (by simpa using h))
theorem kw_kv : ∀ (ks : List Str) {vs : List V} {us : List Value}, Vals vs us → KV (kwDict ks vs) ((ks.map (Sum.inr : Str → Key)).zip us)
  | [], _, _, _ => .nil
  | _ :: _, _, _, .nil => .nil
  | _ :: ks, _, _, .cons a r => .cons ⟨rfl, a⟩ (kw_kv ks r)
/-- what the binding of such a call does -/
structure KwB (K : PySem.W.Frag) (fd : FuncData) (p1 pd : Str) (ks : List Str) : Prop where
  nd : ks.Nodup
  few : ks.length ≤ 100
  pk : ∀ (S : Setting) (u : Value) (us : List Value), us.length = ks.length → ∃ g : Addr → Sem (List (Str × Value)), peekA K S (bindArgs fd ⟨[u], ks.zip us⟩) = some (dictOf [] 0, g) ∧
    ∀ D, g D = (forIn (ks.zip us) PUnit.unit (fun x _ => (nsSet D x.1 x.2 >>= fun _ => pure (ForInStep.yield PUnit.unit))) >>= fun _ => pure [(p1, u), (pd, Value.ref D)])
theorem bnd_kw {P : Program} {w : World} {K : PySem.W.Frag} {mg : Str → Option Value} {base : Heap} {fd : FuncData} {p1 pd : Str} {ks : List Str} {A : Around} {outer : List Env} {s : Shared} {H : Hp} {E : XK} {u : Value} {v : V} {us : List Value} {vs : List V}
    (B : KwB K fd p1 pd ks) (e0 : Env0 P w K mg base A outer s H) (rv : RelV v u) (r : Vals vs us) (hl : vs.length = ks.length) :
    StX.Bnd (L2N.CX P w) P w K mg base fd ⟨[u], ks.zip us⟩ [p1, pd] A outer s H E fun xs H2 => ∃ d, H d = none ∧ xs = [v, .ref d] ∧ H2 = upd H d (.dK (kwDict ks vs)) := by
  intro A' Ex Q h
  have KX : K.In s.heap := e0.mod.kin.keeps fun b o e => (e0.bs b o e).1
  have lu : us.length = ks.length := by rw [← r.length]; exact hl
  obtain ⟨g, hg, hk⟩ := B.pk ⟨(model P w).prog, (model P w).w.params⟩ u us lu
  refine peek_alloc KX _ g hg ?_
  rw [hk]
  have hn : H s.heap.objs.size = none := e0.hok.fresh (Nat.le_refl _)
  refine wpAny_bind (fillNames (ks.zip us) { s with heap := s.heap.push (dictOf [] 0) } [] 0 (Heap.get?_push_size _ rfl) (fun _ h => nomatch h) (fun _ h => nomatch h) ?_ fun h' tk z1 z2 D => wpAny_pure ?_)
  · rw [List.map_fst_zip (by omega)]
    exact B.nd
  · have kp : ∀ b x, s.heap.get? b = some x → h'.get? b = some x := fun b x e => by
      rw [z2 b (Nat.ne_of_lt (Heap.lt_size e))]
      exact Heap.get?_push_of_some _ e
    have sz : h'.objs.size = s.heap.objs.size + 1 := z1.trans (Heap.size_push _ _)
    have new : ObjOk P w (upd H s.heap.objs.size (.dK (kwDict ks vs))) h' s.heap.objs.size (.dK (kwDict ks vs)) := by
      refine ⟨?_, beq_eq_false_iff_ne.mpr (Ne.symm (Nat.ne_of_lt (StX.env0_big e0))), _, kw_kv ks r, dictOf (kwEs w.params s.toks (ks.zip us)) (0 + (ks.zip us).length), (kwEs w.params s.toks (ks.zip us)).toArray, 0 + (ks.zip us).length, ?_, ⟨rfl, rfl, rfl⟩, rfl, fun e he => ?_, kw_pairs ks us s.toks lu, ?_⟩
      · unfold kwDict
        rw [List.length_zip, List.length_map, sizeLine_eq]
        have := B.few
        omega
      · exact D
      · obtain ⟨k, t, hk, hh⟩ := kwEs_key _ _ e (List.mem_toArray.mp he)
        exact ⟨.inr k, by rw [hk]; exact keyIs_str k t, hh⟩
      · rw [List.map_fst_zip (by rw [List.length_map]; omega)]
        exact List.pairwise_map.mpr (B.nd.imp fun n e => n (Sum.inr.inj e))
    have en : Env0 P w K mg base A outer { s with heap := h', toks := tk } (upd H s.heap.objs.size (.dK (kwDict ks vs))) := by
      refine ⟨e0.frames, e0.mod, fun b x e => ⟨kp b x (e0.bs b x e).1, ?_⟩, ?_, Heap.FunFrames.of_keeps (fun b x e _ => ⟨x, kp b x e, rfl⟩) e0.funs, fun b hb => ?_, e0.hok.laid kp (Nat.le_refl _) new, e0.bare⟩
      · rw [upd_ne (Nat.ne_of_lt (Heap.lt_size (e0.bs b x e).1))]
        exact (e0.bs b x e).2
      · show base.objs.size ≤ h'.objs.size
        rw [sz]
        exact Nat.le_succ_of_le e0.bsz
      · obtain ⟨_, x, hx, _⟩ := e0.funs.mem hb
        rw [upd_ne (Nat.ne_of_lt (Heap.lt_size hx))]
        exact e0.frf b hb
    have un : Un (frs outer) [] H (upd H s.heap.objs.size (.dK (kwDict ks vs))) s.heap h' := Un.laid kp (Nat.le_refl _) hn
    exact h _ _ [v, .ref s.heap.objs.size] [u, .ref s.heap.objs.size] en un rfl (fun e s' => cxUpN outer s H _ _ E e s' un kp rfl) (.cons rv (.cons rfl .nil)) rfl ⟨_, hn, rfl, rfl⟩
/-- a def (self, **d) as it stands behind the top, called by keywords -/
structure OkW (P : Program) (w : World) (K : PySem.W.Frag) (mg : Str → Option Value) (base : Heap) (k : Nat) (f : Addr) (x qual : Str) (params : Arguments) (body : List Stmt) (scope : Scope) (p1 pd : Str) (sp : Sp) : Prop where
  ex : ∃ fd, FunD K x qual params body scope [] [] f fd ∧ ∀ (ks : List Str), KwB K fd p1 pd ks → ∀ (A : Around) (outer : List Env) (s : Shared) (H : Hp) (u : Value) (v : V) (us : List Value) (vs : List V) (Q : VK) (E : XK), Room k A → Env0 P w K mg base A outer s H → RelV v u → Vals vs us → vs.length = ks.length →
    (∀ d, H d = none → sp [v, .ref d] (upd H d (.dK (kwDict ks vs))) Q E) → codeAny (model P w) A (.call (.ref f) ⟨[u], ks.zip us⟩) (CR (L2N.CX P w) outer P w H s Q E) s
theorem okW_of {P : Program} {w : World} {K : PySem.W.Frag} {mg : Str → Option Value} {base : Heap} {k : Nat} {f : Addr} {x qual : Str} {params : Arguments} {body : List Stmt} {scope : Scope} {p1 pd : Str} {sp : Sp} {N : List Str} {fd : FuncData} (F : FunD K x qual params body scope [] [] f fd) (S : FnScope N [p1, pd] scope)
    (hbody : ∀ (cdv : Value) (A : Around) (outer : List Env) (s : Shared) (H : Hp) (vs : List V) (Q : VK) (E : XK), Room k (A.deeper (envOfC qual scope s.heap.objs.size f cdv)) → sp vs H Q E →
      ∃ t, PSs (cxOf (L2N.CX P w) P w K mg base N qual scope f cdv A outer s H E) body t ∧ t { nx := fun _ H' => Q .non H', rt := Q } (start N vs) H) : OkW P w K mg base (k + 1) f x qual params body scope p1 pd sp := by
  refine ⟨fd, F, fun ks B A outer s H u v us vs Q E hr e0 rv r hl h => ?_⟩
  obtain ⟨oc, od, dV, kV, doc, pm, an, cdv, ct, osl, rfl, lk, hcd, _, _⟩ := F.ex
  refine StX.run_bnd lk hcd S hr e0 (bnd_kw B e0 rv r hl) fun s2 H2 xs ⟨d, hd, ex, eH⟩ hr' => ?_
  subst ex eH
  exact hbody cdv A outer s2 _ _ Q E hr' (h d hd)
theorem kwb_of {K : PySem.W.Frag} {f : Addr} {fd : FuncData} {x qual : Str} {params : Arguments} {body : List Stmt} {scope : Scope} {p1 pd : Str} {ks : List Str} (F : FunD K x qual params body scope [] [] f fd) (nd : ks.Nodup) (few : ks.length ≤ 100)
    (h : ∀ (kV doc pm : Value) (an : Option Addr) (cdv ct : Value) (S : Setting) (u : Value) (us : List Value), us.length = ks.length → ∃ g : Addr → Sem (List (Str × Value)), peekA K S (bindArgs (PySem.W.fnOf x qual params body scope .none kV doc pm an cdv ct) ⟨[u], ks.zip us⟩) = some (dictOf [] 0, g) ∧
      ∀ D, g D = (forIn (ks.zip us) PUnit.unit (fun x _ => (nsSet D x.1 x.2 >>= fun _ => pure (ForInStep.yield PUnit.unit))) >>= fun _ => pure [(p1, u), (pd, Value.ref D)])) : KwB K fd p1 pd ks := by
  obtain ⟨oc, od, dV, kV, doc, pm, an, cdv, ct, osl, rfl, lk, hcd, hD, hK⟩ := F.ex
  rcases hD with ⟨_, rfl⟩ | ⟨e, _⟩
  · exact ⟨nd, few, h kV doc pm an cdv ct⟩
  · exact absurd rfl e
def tMethW (C : Addr) (m : Str) (ks : List Str) (sp : Sp) (E : L2.St → XK) (ta : TE) (t : TA) : TE := fun σ H Q => ta σ H fun x H1 => ∃ a dx fs, x = .ref a ∧ H1 a = some (.ins C dx fs) ∧ fs.lookup m = none ∧
  t σ H1 fun vs H2 => vs.length = ks.length ∧ ∀ d, H2 d = none → sp [.ref a, .ref d] (upd H2 d (.dK (kwDict ks vs))) Q (E σ)
section
variable {X : Cx} {W : WX} {k j : Nat} {C f : Addr} {m x qual : Str} {params : Arguments} {body : List Stmt} {scope : Scope} {p1 pd : Str} {sp : Sp} {o : Expr} {ta : TE} {t : TA} {ks : List Str} {kws : List Keyword} {apos pos : Pos}
theorem run_kw {pins : List (Addr × Obj)} {σ : L2.St} {H : Hp} {s : Shared} {Q : VK} {u : Value} {v : V} {us : List Value} {vs : List V} (h : OkW X.prog X.w X.K X.mg X.base k f x qual params body scope p1 pd sp) (hb : ∀ fd, FunD X.K x qual params body scope [] [] f fd → KwB X.K fd p1 pd ks) (hr : Room k X.A) (tk : L2N.Takes X W)
    (I : Inv X pins σ H s) (rv : RelV v u) (r : Vals vs us) (hl : vs.length = ks.length) (q : ∀ d, H d = none → sp [v, .ref d] (upd H d (.dK (kwDict ks vs))) Q (WE W σ)) : wpAny (model X.prog X.w) X.A (call (.ref f) [u] (ks.zip us)) (EP X pins σ Q) X.xe s := by
  obtain ⟨fd, F, run⟩ := h.ex
  refine wpAny_call (codeAny_mono (run ks (hb fd F) X.A X.stack s H u v us vs Q _ hr I.env0 rv r hl q) fun r s' hq => ?_)
  cases r with
  | error e => exact L2N.passAt tk σ pins H s e s' I hq
  | ok fl =>
    cases fl with
    | ret u => exact I.after hq
    | next => exact False.elim hq
    | brk => exact False.elim hq
    | cont => exact False.elim hq
theorem pe_mW {pl : Sem Bool} (h : OkW X.prog X.w X.K X.mg X.base k f x qual params body scope p1 pd sp) (hb : ∀ fd, FunD X.K x qual params body scope [] [] f fd → KwB X.K fd p1 pd ks) (hr : Room j X.A) (hj : k ≤ j) (c : Cls X.K C) (hm : Meth X.K C m f) (tk : L2N.Takes X W) (ho : PE X o ta) (hkw : PK X kws t)
    (hall : (backToKw pos (keywordEach kws X.env)).all (·.1.isSome) = true := by rfl) (hks : (backToKw pos (keywordEach kws X.env)).filterMap (·.1) = ks := by rfl)
    (hpl : ((backTo pos (starEach [] X.env)).any (·.1) || (backToKw pos (keywordEach kws X.env)).any (·.1.isNone)) = false := by rfl)
    (ht : eval (.Call (.Attribute o m apos) [] kws pos) X.env = (do
      let ov ← eval o X.env
      standAt apos.atName
      let (f, first) ← holding [ov] (getMethod ov m pl)
      callWith pos f first (backTo pos (starEach [] X.env)) (backToKw pos (keywordEach kws X.env))) := by rfl) :
    PE X (.Call (.Attribute o m apos) [] kws pos) (tMethW C m ks sp (WE W) ta t) := by
  refine ⟨fun pins s σ H Q I h' => ?_⟩
  refine PySem.W.methodCall_KW (pl := pl) (thn (ho.run pins s σ H _ I h') fun u s1 ⟨y, H1, I1, rx, a, dx, fs, ex, ea, l, q⟩ => ?_) ht
  subst ex
  obtain rfl : u = Value.ref a := rx
  refine getmeth_ok I1 ea c hm l ?_
  refine PySem.W.callWith_KW0 (first := [.ref a]) (h₀ := X.base) I.ok.mod.kin hm.kp hall (thn (hkw.run pos pins s1 σ H1 _ I1 q) fun us s2 ⟨vs, H2, I2, r, l2, q2⟩ => ⟨I2.kIn, ?_⟩) hpl
  rw [hks]
  exact run_kw (v := .ref a) h hb (hr.mono hj) tk I2 rfl r l2 q2
end
def jMethW (c m : Str) (ks : List Str) (w : WJ) (p : TJ) (a : AJ) : TJ := fun ρ s Q R => p ρ s (fun x s1 => (∃ fs, objOf s1 x = some (c, fs) ∧ fs.lookup m = none) ∧
  a ρ s1 (fun ds s2 => ds.length = ks.length ∧ w [x, .dct ((ks.map Sum.inr).zip ds)] s2 Q R) R) R
theorem jpd_zip {K : PySem.W.Frag} {G : Hp} : ∀ (ks : List Str) {vs : List V} {ds : List J}, Jps K G vs ds → Jpd K G (kwDict ks vs) ((ks.map (Sum.inr : Str → Key)).zip ds)
  | [], _, _, _ => .nil
  | _ :: _, _, _, .nil => .nil
  | _ :: ks, _, _, .cons j r => .cons j (jpd_zip ks r)
theorem se_methW {K : PySem.W.Frag} {W : WX} {ta : TE} {pa : TJ} {xa : TA} {qa : AJ} {c m : Str} {ks : List Str} {w : WJ} (ha : Se K W ta pa) (hx : Sa K W xa qa) : Se K W (tMethW (He.ga K c) m ks (spJ K w) (WE W) ta xa) (jMethW c m ks w pa qa) := by
  intro F ρ s σ H Q R QV a hQ hR h
  refine ha F ρ s σ H _ R _ a (fun x s1 h1 v1 H1 l1 st1 j1 => ?_) hR h
  obtain ⟨⟨fs, e, el⟩, h1⟩ := h1
  obtain ⟨b, dx, xs, rfl, eb, r⟩ := jp_obj st1 j1 e
  refine ⟨b, dx, xs, rfl, eb, r.look_none el, ?_⟩
  refine hx F ρ s1 σ H1 _ R _ (a.to l1 st1) (fun ds s2 h2 vs H2 l2 st2 j2 => ?_) (fun c fs s' hr => (hR c fs s' hr).up l1) h1
  obtain ⟨hl, h2⟩ := h2
  refine ⟨by rw [j2.length]; exact hl, fun d hd => ?_⟩
  have l3 : Le (mask F s2 H2) (mask F s2 (upd H2 d (.dK (kwDict ks vs)))) := .new hd
  exact ⟨F, _, [x, .dct ((ks.map Sum.inr).zip ds)], Q, R, .cons ((j1.up l2).up l3) (.cons (.dct (mask_new st2 hd) rfl ((jpd_zip ks j2).up l3)) .nil), st2.new hd, fun v s' q => (hQ v s' q).up ((l1.trans l2).trans l3), fun c fs s' hr => (hR c fs s' hr).up ((l1.trans l2).trans l3), h2⟩
theorem y_methW {c m : Str} {ks : List Str} {w : WJ} {pa : TJ} {qa : AJ} {ρ : Rho} {s : Sto} {Q : QJ} {R : XJ} (h : pa ρ s (fun x s1 => ObjX s1 x c m (qa ρ s1 (fun ds s2 => ds.length = ks.length ∧ w [x, .dct ((ks.map Sum.inr).zip ds)] s2 Q R) R)) R) : jMethW c m ks w pa qa ρ s Q R := h
end M

namespace T
open PySem PySem.Spec PyProof.Rows L2 M
local macro_rules | `(tactic| walk_at "sd") => `(tactic| first | assumption | omega)
local macro_rules | `(tactic| walk_at "st") => `(tactic| first
  | assumption
  | (with_reducible exact put_same)
  | (rw [put_ne (by first | assumption | (intro z; subst z; simp_all))]; walk_at "st"))
local macro_rules | `(tactic| walk_at "yS") => `(tactic| first
  | with_reducible refine y_seq ?_ | with_reducible refine y_asg ?_ | with_reducible refine y_ifS ?_ | with_reducible refine y_ret ?_ | with_reducible refine y_next ?_ | with_reducible refine y_drop ?_
  | with_reducible refine y_for ?_ | with_reducible refine y_par ?_ | with_reducible refine y_setF ?_ | with_reducible refine y_raise1 ?_ | with_reducible refine y_try ?_
  | with_reducible refine y_par3 ?_ | with_reducible refine y_retN ?_ | with_reducible refine y_break ?_ | with_reducible refine y_cont ?_
  | (with_reducible refine is_jAug ?_; with_reducible refine y_aug ?_))
local macro_rules | `(tactic| walk_at "yT") => `(tactic| first
  | (with_reducible refine is_jVar ?_; with_reducible refine y_var ?_) | with_reducible refine y_c ?_ | with_reducible refine y_op ?_ | with_reducible refine y_call0 ?_ | with_reducible refine y_cb ?_ | with_reducible refine y_fld ?_ | with_reducible refine y_tup ?_
  | with_reducible refine y_lst ?_ | with_reducible refine y_lstO ?_ | with_reducible refine y_meth0 ?_ | with_reducible refine y_make ?_ | with_reducible refine y_bm ?_ | with_reducible refine y_bmD ?_ | with_reducible refine y_listG ?_ | with_reducible refine y_upT ?_ | with_reducible refine y_bmT ?_ | with_reducible refine y_bm0 ?_ | with_reducible refine y_sl ?_
  | with_reducible refine y_if ?_ | with_reducible refine y_isN ?_ | with_reducible refine y_notN ?_ | with_reducible refine y_andV ?_ | with_reducible refine y_orV ?_ | with_reducible refine y_notV ?_ | with_reducible refine y_chain ?_
  | with_reducible refine y_lc ?_ | with_reducible refine y_un ?_ | with_reducible refine y_con ?_ | with_reducible refine y_dct0 ?_ | with_reducible refine y_dct0O ?_ | with_reducible refine y_disp ?_ | with_reducible refine y_rev ?_ | with_reducible refine y_xf ?_ | with_reducible refine y_cval ?_)
local macro_rules | `(tactic| walk_at "yB") => `(tactic| first
  | with_reducible refine y_test ?_ | with_reducible refine y_not ?_ | with_reducible refine y_truth ?_ | with_reducible refine y_and ?_ | with_reducible refine y_or ?_ | with_reducible refine y_yes ?_)
local macro_rules | `(tactic| walk_at "yI") => `(tactic| first
  | with_reducible refine y_iU ?_ | with_reducible refine y_rng1 ?_ | with_reducible refine y_enum ?_)
local macro_rules | `(tactic| walk_at "yO") => `(tactic| first
  | with_reducible refine y_eq_i ?_ | with_reducible refine y_ne_i ?_ | with_reducible refine y_cmp ?_ | with_reducible refine y_add_i ?_ | with_reducible refine y_sub ?_
  | with_reducible refine y_eq_s ?_ | with_reducible refine y_ne_s ?_ | with_reducible refine y_eq_b ?_ | with_reducible refine y_ne_b ?_ | with_reducible refine y_is ?_
  | (with_reducible refine is_ix ?_; first
    | (with_reducible refine is_ixl ?_; with_reducible refine y_ix_l (by with_unfolding_all rfl) ?_)
    | (with_reducible refine is_ixt ?_; with_reducible refine y_ix_t (by with_unfolding_all rfl) ?_)
    | (with_reducible refine is_ixo ?_; with_reducible refine y_ix_o (by walk_at "st") (by with_unfolding_all rfl) ?_))
  | (with_reducible refine is_mul ?_; with_reducible refine y_mul ?_ (by walk_at "sd") (by walk_at "sd"))
  | (with_reducible refine is_div ?_; with_reducible refine y_div ?_ (by walk_at "sd") (by walk_at "sd"))
  | (with_reducible refine is_mod ?_; with_reducible refine y_mod ?_ (by walk_at "sd"))
  | (with_reducible refine is_pow ?_; with_reducible refine y_pow (by walk_at "sd") ?_)
  | with_reducible refine y_in_c ?_)
local macro_rules | `(tactic| walk_at "yL") => `(tactic| first
  | with_reducible refine y_len_l ?_ | with_reducible refine y_len_t ?_ | with_reducible refine y_int1 ?_ | with_reducible refine y_int1b ?_ | with_reducible refine y_abs ?_
  | with_reducible refine y_tuple_l ?_ | with_reducible refine y_tuple_t ?_ | with_reducible refine y_list_l ?_ | with_reducible refine y_list_t ?_ | with_reducible refine y_max2 ?_ | with_reducible refine y_min2 ?_ | with_reducible refine y_str_s ?_
  | with_reducible refine y_dict_d ?_ | with_reducible refine y_len_d ?_ | with_reducible refine y_len_c ?_
  | (with_reducible refine is_isi ?_; with_reducible refine y_isi (by with_unfolding_all rfl) ?_)
  | (with_reducible refine is_lenO ?_; with_reducible refine y_len_o (by walk_at "st") ?_)
  | (with_reducible refine is_isXJ ?_; with_reducible refine y_isX ?_))
local macro_rules | `(tactic| walk_at "yX") => `(tactic| first
  | (with_reducible refine is_New ?_; with_reducible refine y_newJ ?_)
  | (with_reducible refine is_Fld ?_; first
    | (with_reducible refine is_FldO ?_; with_reducible refine y_fldO (by walk_at "st") ?_)
    | with_reducible refine y_fldX ?_)
  | (with_reducible refine is_It ?_; first | with_reducible refine y_it_l ?_ | with_reducible refine y_it_t ?_ | with_reducible refine y_it_s ?_)
  | (with_reducible refine is_Obj ?_; first
    | (with_reducible refine is_ObjO ?_; with_reducible refine y_objO (by walk_at "st") ?_)
    | with_reducible refine y_objX ?_)
  | (with_reducible refine is_Tru ?_; first | with_reducible refine y_tru_b ?_ | with_reducible refine y_tru_i ?_ | with_reducible refine y_tru_n ?_)
  | with_reducible refine y_tyS ?_
  | with_reducible refine y_tyD ?_
  | with_reducible refine y_upn ?_
  | with_reducible refine y_upt ?_
  | with_reducible refine y_tyN ?_
  | (with_reducible refine is_tyO ?_; with_reducible refine y_tyL (by walk_at "st") ?_)
  | (with_reducible refine is_Con ?_; first
    | (with_reducible refine is_ConO ?_; with_reducible refine y_conO (by walk_at "st") ?_)
    | with_reducible refine y_conX ?_)
  | (with_reducible refine is_En ?_; with_reducible refine y_en_l ?_)
  | (with_reducible refine is_SetO ?_; with_reducible refine y_set_l (by walk_at "st") ?_)
  | with_reducible refine y_pn ?_ | with_reducible refine y_pc ?_
  | (with_reducible refine is_Kv ?_; with_reducible refine y_kv ?_)
  | with_reducible refine y_rev_l ?_ | with_reducible refine y_xf1 ?_ | with_reducible refine y_clsv ?_)
local macro_rules | `(tactic| walk_at "y") => `(tactic| (repeat (first
  | (with_reducible refine is_S ?_; walk_at "yS")
  | (with_reducible refine is_T ?_; walk_at "yT")
  | (with_reducible refine is_A ?_; first | with_reducible refine y_cons ?_ | with_reducible refine y_nil ?_)
  | (with_reducible refine is_B ?_; walk_at "yB")
  | (with_reducible refine is_Ex ?_; first | with_reducible refine y_bl ?_ | with_reducible refine y_two ?_ | with_reducible refine y_one ?_ | with_reducible refine y_int ?_ | with_reducible refine y_three ?_)
  | (with_reducible refine is_If ?_; first | with_reducible refine ite_t ?_ | with_reducible refine ite_f ?_ | with_reducible refine ite_T (by with_unfolding_all rfl) ?_ | with_reducible refine ite_F (by with_unfolding_all rfl) ?_)
  | (with_reducible refine is_G ?_; first | with_reducible refine y_name ?_ | (with_reducible refine is_jgTup ?_; with_reducible refine y_gtup ?_) | with_reducible refine y_gsub ?_)
  | (with_reducible refine is_O ?_; walk_at "yO")
  | (with_reducible refine is_L ?_; walk_at "yL")
  | (with_reducible refine is_Gs ?_; first | with_reducible refine y_gcons ?_ | with_reducible refine y_gnil ?_)
  | (with_reducible refine is_P ?_; first | with_reducible refine y_noPart ?_ | with_reducible refine y_part ?_)
  | (with_reducible refine is_I ?_; walk_at "yI")
  | (with_reducible refine is_M ?_; with_reducible refine y_startswith ?_)
  | (with_reducible refine is_O1 ?_; with_reducible refine y_neg ?_)
  | walk_at "yX"
  | with_reducible refine y_sl_t ?_
  | with_reducible refine y_sl_l ?_)))

def top (i : Nat) : Stmt := PySem.Challenge.pw_mendrounds_k07_fillings.main.body.getD i (.Pass ⟨0, 0, 0, 0⟩)
abbrev s_BadLayout__init : Stmt := inClass (top 2) 0
abbrev N_BadLayout__init : List Str := ["self", "at"]
theorem sc_BadLayout__init : FnScope N_BadLayout__init ["self", "at"] (defScope s_BadLayout__init) := ⟨rfl, rfl, rfl, by decide +kernel, rfl, by decide +kernel, by decide +kernel⟩
abbrev s_BadField__init : Stmt := inClass (top 3) 0
abbrev N_BadField__init : List Str := ["self", "name"]
theorem sc_BadField__init : FnScope N_BadField__init ["self", "name"] (defScope s_BadField__init) := ⟨rfl, rfl, rfl, by decide +kernel, rfl, by decide +kernel, by decide +kernel⟩
abbrev s_BadValue__init : Stmt := inClass (top 4) 0
abbrev N_BadValue__init : List Str := ["self", "name"]
theorem sc_BadValue__init : FnScope N_BadValue__init ["self", "name"] (defScope s_BadValue__init) := ⟨rfl, rfl, rfl, by decide +kernel, rfl, by decide +kernel, by decide +kernel⟩
abbrev s_common_divisor : Stmt := top 7
abbrev N_common_divisor : List Str := ["one", "other", "low", "high"]
theorem sc_common_divisor : FnScope N_common_divisor ["one", "other"] (defScope s_common_divisor) := ⟨rfl, rfl, rfl, by decide +kernel, rfl, by decide +kernel, by decide +kernel⟩
abbrev s_is_integer : Stmt := top 8
abbrev N_is_integer : List Str := ["thing"]
theorem sc_is_integer : FnScope N_is_integer ["thing"] (defScope s_is_integer) := ⟨rfl, rfl, rfl, by decide +kernel, rfl, by decide +kernel, by decide +kernel⟩
abbrev s_is_number : Stmt := top 9
abbrev N_is_number : List Str := ["thing"]
theorem sc_is_number : FnScope N_is_number ["thing"] (defScope s_is_number) := ⟨rfl, rfl, rfl, by decide +kernel, rfl, by decide +kernel, by decide +kernel⟩
abbrev s_is_word : Stmt := top 10
abbrev N_is_word : List Str := ["thing", ".0", "sign"]
theorem sc_is_word : FnScope N_is_word ["thing"] (defScope s_is_word) := ⟨rfl, rfl, rfl, by decide +kernel, rfl, by decide +kernel, by decide +kernel⟩
abbrev s_is_name : Stmt := top 13
abbrev N_is_name : List Str := ["thing"]
theorem sc_is_name : FnScope N_is_name ["thing"] (defScope s_is_name) := ⟨rfl, rfl, rfl, by decide +kernel, rfl, by decide +kernel, by decide +kernel⟩
abbrev s_is_field : Stmt := top 14
abbrev N_is_field : List Str := ["thing"]
theorem sc_is_field : FnScope N_is_field ["thing"] (defScope s_is_field) := ⟨rfl, rfl, rfl, by decide +kernel, rfl, by decide +kernel, by decide +kernel⟩
abbrev s_is_value : Stmt := top 15
abbrev N_is_value : List Str := ["thing", "kind"]
theorem sc_is_value : FnScope N_is_value ["thing", "kind"] (defScope s_is_value) := ⟨rfl, rfl, rfl, by decide +kernel, rfl, by decide +kernel, by decide +kernel⟩
abbrev s_may_stand : Stmt := top 16
abbrev N_may_stand : List Str := ["thing", "kind"]
theorem sc_may_stand : FnScope N_may_stand ["thing", "kind"] (defScope s_may_stand) := ⟨rfl, rfl, rfl, by decide +kernel, rfl, by decide +kernel, by decide +kernel⟩
abbrev s_Layout__init : Stmt := inClass (top 17) 1
abbrev N_Layout__init : List Str := ["self", "fields", "at", "field", ".0", "name", "kind"]
theorem sc_Layout__init : FnScope N_Layout__init ["self", "fields"] (defScope s_Layout__init) := ⟨rfl, rfl, rfl, by decide +kernel, rfl, by decide +kernel, by decide +kernel⟩
abbrev s_Layout_fill : Stmt := inClass (top 17) 6
abbrev N_Layout_fill : List Str := ["self", "values", "name", ".0"]
theorem sc_Layout_fill : FnScope N_Layout_fill ["self", "values"] (defScope s_Layout_fill) := ⟨rfl, rfl, rfl, by decide +kernel, rfl, by decide +kernel, by decide +kernel⟩
abbrev s_Layout_is_filling : Stmt := inClass (top 17) 7
abbrev N_Layout_is_filling : List Str := ["self", "thing", ".0", "name"]
theorem sc_Layout_is_filling : FnScope N_Layout_is_filling ["self", "thing"] (defScope s_Layout_is_filling) := ⟨rfl, rfl, rfl, by decide +kernel, rfl, by decide +kernel, by decide +kernel⟩
abbrev s_lbag : Stmt := top 19
abbrev N_lbag : List Str := ["_law_script", "_law_at", "_law_cell", "_law_large"]
theorem sc_lbag : FnScope N_lbag ["_law_script", "_law_at"] (defScope s_lbag) := ⟨rfl, rfl, rfl, by decide +kernel, rfl, by decide +kernel, by decide +kernel⟩
abbrev s_ltake : Stmt := top 20
abbrev N_ltake : List Str := ["_law_bag_here", "_law_many", "_law_digit", "_law_mixed"]
theorem sc_ltake : FnScope N_ltake ["_law_bag_here", "_law_many"] (defScope s_ltake) := ⟨rfl, rfl, rfl, by decide +kernel, rfl, by decide +kernel, by decide +kernel⟩
abbrev s_lof : Stmt := top 21
abbrev N_lof : List Str := ["_law_bag_here", "_law_some"]
theorem sc_lof : FnScope N_lof ["_law_bag_here", "_law_some"] (defScope s_lof) := ⟨rfl, rfl, rfl, by decide +kernel, rfl, by decide +kernel, by decide +kernel⟩
abbrev s_lword : Stmt := top 22
abbrev N_lword : List Str := ["_law_bag_here", ".0", "_law_turn"]
theorem sc_lword : FnScope N_lword ["_law_bag_here"] (defScope s_lword) := ⟨rfl, rfl, rfl, by decide +kernel, rfl, by decide +kernel, by decide +kernel⟩
abbrev s_lvalue : Stmt := top 23
abbrev N_lvalue : List Str := ["_law_p", "_law_q", "_law_low", "_law_high"]
theorem sc_lvalue : FnScope N_lvalue ["_law_p", "_law_q"] (defScope s_lvalue) := ⟨rfl, rfl, rfl, by decide +kernel, rfl, by decide +kernel, by decide +kernel⟩
abbrev s_lnumber : Stmt := top 24
abbrev N_lnumber : List Str := ["_law_bag_here"]
theorem sc_lnumber : FnScope N_lnumber ["_law_bag_here"] (defScope s_lnumber) := ⟨rfl, rfl, rfl, by decide +kernel, rfl, by decide +kernel, by decide +kernel⟩
abbrev s_lturned : Stmt := top 25
abbrev N_lturned : List Str := ["_law_filling", ".0", "_law_label"]
theorem sc_lturned : FnScope N_lturned ["_law_filling"] (defScope s_lturned) := ⟨rfl, rfl, rfl, by decide +kernel, rfl, by decide +kernel, by decide +kernel⟩
abbrev s_lworths : Stmt := top 26
abbrev N_lworths : List Str := ["_law_bag_here", "_law_kind", ".0", "_law_turn"]
theorem sc_lworths : FnScope N_lworths ["_law_bag_here", "_law_kind"] (defScope s_lworths) := ⟨rfl, rfl, rfl, by decide +kernel, rfl, by decide +kernel, by decide +kernel⟩
abbrev s_lwrong : Stmt := top 27
abbrev N_lwrong : List Str := ["_law_bag_here", "_law_kind", "_law_odd"]
theorem sc_lwrong : FnScope N_lwrong ["_law_bag_here", "_law_kind"] (defScope s_lwrong) := ⟨rfl, rfl, rfl, by decide +kernel, rfl, by decide +kernel, by decide +kernel⟩
abbrev s_lsaid : Stmt := top 28
abbrev N_lsaid : List Str := ["_law_layout", "_law_way", "_law_one", "_law_two", "e"]
theorem sc_lsaid : FnScope N_lsaid ["_law_layout", "_law_way", "_law_one", "_law_two"] (defScope s_lsaid) := ⟨rfl, rfl, rfl, by decide +kernel, rfl, by decide +kernel, by decide +kernel⟩
abbrev s_lis_new : Stmt := top 29
abbrev N_lis_new : List Str := ["_law_layout", "_law_one", "_law_two", "_law_found", "_law_due", "_law_again"]
theorem sc_lis_new : FnScope N_lis_new ["_law_layout", "_law_one", "_law_two"] (defScope s_lis_new) := ⟨rfl, rfl, rfl, by decide +kernel, rfl, by decide +kernel, by decide +kernel⟩
abbrev s_ltakes : Stmt := top 30
abbrev N_ltakes : List Str := ["_law_bag_here", "_law_layout", "_law_kinds", "_law_filling", "_law_name", "_law_wrong_here", "_law_more", "_law_less", "_law_few", "_law_thing", "_law_blank"]
theorem sc_ltakes : FnScope N_ltakes ["_law_bag_here", "_law_layout", "_law_kinds", "_law_filling"] (defScope s_ltakes) := ⟨rfl, rfl, rfl, by decide +kernel, rfl, by decide +kernel, by decide +kernel⟩
abbrev s_law : Stmt := top 31
abbrev N_law : List Str := ["_law_script", "_law_at", "_law_bag_here", "_law_kinds", "_law_layout", "_law_worths_here", "_law_wrong_here", "_law_filling", ".0", "_law_turn", "_law_kind"]
theorem sc_law : FnScope N_law ["_law_script"] (defScope s_law) := ⟨rfl, rfl, rfl, by decide +kernel, rfl, by decide +kernel, by decide +kernel⟩
def dd_BadLayout__init : He.DefD := ⟨("BadLayout", some "__init__"), "__init__", "BadLayout.__init__", defArgs s_BadLayout__init, defBody s_BadLayout__init, defScope s_BadLayout__init, [], []⟩
def dd_BadField__init : He.DefD := ⟨("BadField", some "__init__"), "__init__", "BadField.__init__", defArgs s_BadField__init, defBody s_BadField__init, defScope s_BadField__init, [], []⟩
def dd_BadValue__init : He.DefD := ⟨("BadValue", some "__init__"), "__init__", "BadValue.__init__", defArgs s_BadValue__init, defBody s_BadValue__init, defScope s_BadValue__init, [], []⟩
def dd_common_divisor : He.DefD := ⟨("common_divisor", none), "common_divisor", "common_divisor", defArgs s_common_divisor, defBody s_common_divisor, defScope s_common_divisor, [], []⟩
def dd_is_integer : He.DefD := ⟨("is_integer", none), "is_integer", "is_integer", defArgs s_is_integer, defBody s_is_integer, defScope s_is_integer, [], []⟩
def dd_is_number : He.DefD := ⟨("is_number", none), "is_number", "is_number", defArgs s_is_number, defBody s_is_number, defScope s_is_number, [], []⟩
def dd_is_word : He.DefD := ⟨("is_word", none), "is_word", "is_word", defArgs s_is_word, defBody s_is_word, defScope s_is_word, [], []⟩
def dd_is_name : He.DefD := ⟨("is_name", none), "is_name", "is_name", defArgs s_is_name, defBody s_is_name, defScope s_is_name, [], []⟩
def dd_is_field : He.DefD := ⟨("is_field", none), "is_field", "is_field", defArgs s_is_field, defBody s_is_field, defScope s_is_field, [], []⟩
def dd_is_value : He.DefD := ⟨("is_value", none), "is_value", "is_value", defArgs s_is_value, defBody s_is_value, defScope s_is_value, [], []⟩
def dd_may_stand : He.DefD := ⟨("may_stand", none), "may_stand", "may_stand", defArgs s_may_stand, defBody s_may_stand, defScope s_may_stand, [], []⟩
def dd_Layout__init : He.DefD := ⟨("Layout", some "__init__"), "__init__", "Layout.__init__", defArgs s_Layout__init, defBody s_Layout__init, defScope s_Layout__init, [], []⟩
def dd_Layout_fill : He.DefD := ⟨("Layout", some "fill"), "fill", "Layout.fill", defArgs s_Layout_fill, defBody s_Layout_fill, defScope s_Layout_fill, [], []⟩
def dd_Layout_is_filling : He.DefD := ⟨("Layout", some "is_filling"), "is_filling", "Layout.is_filling", defArgs s_Layout_is_filling, defBody s_Layout_is_filling, defScope s_Layout_is_filling, [], []⟩
def dd_lbag : He.DefD := ⟨("_law_bag", none), "_law_bag", "_law_bag", defArgs s_lbag, defBody s_lbag, defScope s_lbag, [], []⟩
def dd_ltake : He.DefD := ⟨("_law_take", none), "_law_take", "_law_take", defArgs s_ltake, defBody s_ltake, defScope s_ltake, [], []⟩
def dd_lof : He.DefD := ⟨("_law_of", none), "_law_of", "_law_of", defArgs s_lof, defBody s_lof, defScope s_lof, [], []⟩
def dd_lword : He.DefD := ⟨("_law_word", none), "_law_word", "_law_word", defArgs s_lword, defBody s_lword, defScope s_lword, [], []⟩
def dd_lvalue : He.DefD := ⟨("_law_value", none), "_law_value", "_law_value", defArgs s_lvalue, defBody s_lvalue, defScope s_lvalue, [], []⟩
def dd_lnumber : He.DefD := ⟨("_law_number", none), "_law_number", "_law_number", defArgs s_lnumber, defBody s_lnumber, defScope s_lnumber, [], []⟩
def dd_lturned : He.DefD := ⟨("_law_turned", none), "_law_turned", "_law_turned", defArgs s_lturned, defBody s_lturned, defScope s_lturned, [], []⟩
def dd_lworths : He.DefD := ⟨("_law_worths", none), "_law_worths", "_law_worths", defArgs s_lworths, defBody s_lworths, defScope s_lworths, [], []⟩
def dd_lwrong : He.DefD := ⟨("_law_wrong", none), "_law_wrong", "_law_wrong", defArgs s_lwrong, defBody s_lwrong, defScope s_lwrong, [], []⟩
def dd_lsaid : He.DefD := ⟨("_law_said", none), "_law_said", "_law_said", defArgs s_lsaid, defBody s_lsaid, defScope s_lsaid, [], []⟩
def dd_lis_new : He.DefD := ⟨("_law_is_new", none), "_law_is_new", "_law_is_new", defArgs s_lis_new, defBody s_lis_new, defScope s_lis_new, [], []⟩
def dd_ltakes : He.DefD := ⟨("_law_takes", none), "_law_takes", "_law_takes", defArgs s_ltakes, defBody s_ltakes, defScope s_ltakes, [], []⟩
def dd_law : He.DefD := ⟨("law", none), "law", "law", defArgs s_law, defBody s_law, defScope s_law, [], []⟩
def fn : List He.DefD := [dd_BadLayout__init, dd_BadField__init, dd_BadValue__init, dd_common_divisor, dd_is_integer, dd_is_number, dd_is_word, dd_is_name, dd_is_field, dd_is_value, dd_may_stand, dd_Layout__init, dd_Layout_fill, dd_Layout_is_filling, dd_lbag, dd_ltake, dd_lof, dd_lword, dd_lvalue, dd_lnumber, dd_lturned, dd_lworths, dd_lwrong, dd_lsaid, dd_lis_new, dd_ltakes, dd_law]
def fa : List He.Fa := [.glo "BadField", .glo "BadLayout", .glo "BadValue", .str "LETTERS" "abcdefghijklmnopqrstuvwxyz", .glo "Layout", .glo "MendroundsError", .glo "RESERVED", .glo "_law_bag", .glo "_law_is_new", .glo "_law_number", .glo "_law_of", .glo "_law_said", .glo "_law_take", .glo "_law_takes", .glo "_law_turned", .glo "_law_value", .glo "_law_word", .glo "_law_worths", .glo "_law_wrong", .glo "common_divisor", .glo "is_field", .glo "is_integer", .glo "is_name", .glo "is_number", .glo "is_value", .glo "is_word", .glo "law", .glo "may_stand", .free "abs", .free "all", .free "bool", .free "dict", .free "enumerate", .free "int", .free "isinstance", .free "len", .free "list", .free "max", .free "min", .free "range", .free "str", .free "tuple", .cls "Layout", .mkr "Layout", .meth "Layout" "fill", .meth "Layout" "is_filling", .noat "Layout" "_kinds", .noat "Layout" "names"]
def tab_BadField : List (Str × Bool) := [("BadLayout", false), ("BadField", true), ("BadValue", false)]
def tab_BadValue : List (Str × Bool) := [("BadLayout", false), ("BadField", false), ("BadValue", true)]
def tab_MendroundsError : List (Str × Bool) := [("BadLayout", true), ("BadField", true), ("BadValue", true)]
def exs : List (PySem.W.Frag → Bool) := [fun K => errB K (He.ga K "BadLayout") "at", fun K => errB K (He.ga K "BadField") "name", fun K => errB K (He.ga K "BadValue") "name", fun K => tab_BadField.all fun p => decide (PySem.W.exmOne K (.ref (He.ga K p.1)) (.ref (He.ga K "BadField")) = some p.2), fun K => tab_BadValue.all fun p => decide (PySem.W.exmOne K (.ref (He.ga K p.1)) (.ref (He.ga K "BadValue")) = some p.2), fun K => tab_MendroundsError.all fun p => kxB K (He.ga K p.1) && (xfB K (He.ga K p.1) && decide (PySem.W.kitOne K (.ref (He.ga K p.1)) (.ref (He.ga K "MendroundsError")) = some p.2)), fun K => ktupB K (He.ga K "RESERVED") [V.str "and", V.str "or", V.str "not", V.str "in", V.str "given", V.str "true", V.str "false", V.str "blank", V.str "number", V.str "word", V.str "needs", V.str "instead", V.str "after", V.str "blames", V.str "check", V.str "guard", V.str "barrier", V.str "repair", V.str "default", V.str "exit", V.str "self"], fun K => conB K (He.ga K "Layout") "MOST" (V.int 5)]
def ex (K : PySem.W.Frag) : Bool := exs.all fun b => b K
theorem exs_ok {K : PySem.W.Frag} (h : ex K = true) (i : Nat) {b : PySem.W.Frag → Bool} (e : exs[i]? = some b) : b K = true := List.all_eq_true.mp h b (List.mem_of_getElem? e)
structure Txt (w : World) (K : PySem.W.Frag) (mg : Str → Option Value) : Prop where
  g_BadField : mg "BadField" = some (.ref (He.ga K "BadField"))
  g_BadLayout : mg "BadLayout" = some (.ref (He.ga K "BadLayout"))
  g_BadValue : mg "BadValue" = some (.ref (He.ga K "BadValue"))
  s_LETTERS : ∃ t, mg "LETTERS" = some (.str "abcdefghijklmnopqrstuvwxyz" t)
  g_Layout : mg "Layout" = some (.ref (He.ga K "Layout"))
  g_MendroundsError : mg "MendroundsError" = some (.ref (He.ga K "MendroundsError"))
  g_RESERVED : mg "RESERVED" = some (.ref (He.ga K "RESERVED"))
  g__law_bag : mg "_law_bag" = some (.ref (He.ga K "_law_bag"))
  g__law_is_new : mg "_law_is_new" = some (.ref (He.ga K "_law_is_new"))
  g__law_number : mg "_law_number" = some (.ref (He.ga K "_law_number"))
  g__law_of : mg "_law_of" = some (.ref (He.ga K "_law_of"))
  g__law_said : mg "_law_said" = some (.ref (He.ga K "_law_said"))
  g__law_take : mg "_law_take" = some (.ref (He.ga K "_law_take"))
  g__law_takes : mg "_law_takes" = some (.ref (He.ga K "_law_takes"))
  g__law_turned : mg "_law_turned" = some (.ref (He.ga K "_law_turned"))
  g__law_value : mg "_law_value" = some (.ref (He.ga K "_law_value"))
  g__law_word : mg "_law_word" = some (.ref (He.ga K "_law_word"))
  g__law_worths : mg "_law_worths" = some (.ref (He.ga K "_law_worths"))
  g__law_wrong : mg "_law_wrong" = some (.ref (He.ga K "_law_wrong"))
  g_common_divisor : mg "common_divisor" = some (.ref (He.ga K "common_divisor"))
  g_is_field : mg "is_field" = some (.ref (He.ga K "is_field"))
  g_is_integer : mg "is_integer" = some (.ref (He.ga K "is_integer"))
  g_is_name : mg "is_name" = some (.ref (He.ga K "is_name"))
  g_is_number : mg "is_number" = some (.ref (He.ga K "is_number"))
  g_is_value : mg "is_value" = some (.ref (He.ga K "is_value"))
  g_is_word : mg "is_word" = some (.ref (He.ga K "is_word"))
  g_law : mg "law" = some (.ref (He.ga K "law"))
  g_may_stand : mg "may_stand" = some (.ref (He.ga K "may_stand"))
  n_abs : mg "abs" = none
  n_all : mg "all" = none
  n_bool : mg "bool" = none
  n_dict : mg "dict" = none
  n_enumerate : mg "enumerate" = none
  n_int : mg "int" = none
  n_isinstance : mg "isinstance" = none
  n_len : mg "len" = none
  n_list : mg "list" = none
  n_max : mg "max" = none
  n_min : mg "min" = none
  n_range : mg "range" = none
  n_str : mg "str" = none
  n_tuple : mg "tuple" = none
  c_Layout : Cls K (He.ga K "Layout")
  k_Layout : Mk K (He.ga K "Layout") (He.ma K (He.ga K "Layout") "__init__")
  m_Layout_fill : Meth K (He.ga K "Layout") "fill" (He.ma K (He.ga K "Layout") "fill")
  m_Layout_is_filling : Meth K (He.ga K "Layout") "is_filling" (He.ma K (He.ga K "Layout") "is_filling")
  a_Layout__kinds : NoAttr K (He.ga K "Layout") "_kinds"
  a_Layout_names : NoAttr K (He.ga K "Layout") "names"
  e_BadLayout : Err K (He.ga K "BadLayout") "at"
  e_BadField : Err K (He.ga K "BadField") "name"
  e_BadValue : Err K (He.ga K "BadValue") "name"
  h_BadField : ∀ p ∈ tab_BadField, PySem.W.exmOne K (.ref (He.ga K p.1)) (.ref (He.ga K "BadField")) = some p.2
  h_BadValue : ∀ p ∈ tab_BadValue, PySem.W.exmOne K (.ref (He.ga K p.1)) (.ref (He.ga K "BadValue")) = some p.2
  kx_MendroundsError : ∀ p ∈ tab_MendroundsError, kxB K (He.ga K p.1) = true ∧ XfC K (He.ga K p.1) ∧ PySem.W.kitOne K (.ref (He.ga K p.1)) (.ref (He.ga K "MendroundsError")) = some p.2
  t_RESERVED : ∀ H, SqT K H (He.ga K "RESERVED") [V.str "and", V.str "or", V.str "not", V.str "in", V.str "given", V.str "true", V.str "false", V.str "blank", V.str "number", V.str "word", V.str "needs", V.str "instead", V.str "after", V.str "blames", V.str "check", V.str "guard", V.str "barrier", V.str "repair", V.str "default", V.str "exit", V.str "self"]
  v_Layout_MOST : ∃ u, Con K (He.ga K "Layout") "MOST" (V.int 5) u
  f_BadLayout__init : ∃ fd, FunD K "__init__" "BadLayout.__init__" (defArgs s_BadLayout__init) (defBody s_BadLayout__init) (defScope s_BadLayout__init) [] [] (He.ma K (He.ga K "BadLayout") "__init__") fd
  f_BadField__init : ∃ fd, FunD K "__init__" "BadField.__init__" (defArgs s_BadField__init) (defBody s_BadField__init) (defScope s_BadField__init) [] [] (He.ma K (He.ga K "BadField") "__init__") fd
  f_BadValue__init : ∃ fd, FunD K "__init__" "BadValue.__init__" (defArgs s_BadValue__init) (defBody s_BadValue__init) (defScope s_BadValue__init) [] [] (He.ma K (He.ga K "BadValue") "__init__") fd
  f_common_divisor : ∃ fd, FunD K "common_divisor" "common_divisor" (defArgs s_common_divisor) (defBody s_common_divisor) (defScope s_common_divisor) [] [] (He.ga K "common_divisor") fd
  f_is_integer : ∃ fd, FunD K "is_integer" "is_integer" (defArgs s_is_integer) (defBody s_is_integer) (defScope s_is_integer) [] [] (He.ga K "is_integer") fd
  f_is_number : ∃ fd, FunD K "is_number" "is_number" (defArgs s_is_number) (defBody s_is_number) (defScope s_is_number) [] [] (He.ga K "is_number") fd
  f_is_word : ∃ fd, FunD K "is_word" "is_word" (defArgs s_is_word) (defBody s_is_word) (defScope s_is_word) [] [] (He.ga K "is_word") fd
  f_is_name : ∃ fd, FunD K "is_name" "is_name" (defArgs s_is_name) (defBody s_is_name) (defScope s_is_name) [] [] (He.ga K "is_name") fd
  f_is_field : ∃ fd, FunD K "is_field" "is_field" (defArgs s_is_field) (defBody s_is_field) (defScope s_is_field) [] [] (He.ga K "is_field") fd
  f_is_value : ∃ fd, FunD K "is_value" "is_value" (defArgs s_is_value) (defBody s_is_value) (defScope s_is_value) [] [] (He.ga K "is_value") fd
  f_may_stand : ∃ fd, FunD K "may_stand" "may_stand" (defArgs s_may_stand) (defBody s_may_stand) (defScope s_may_stand) [] [] (He.ga K "may_stand") fd
  f_Layout__init : ∃ fd, FunD K "__init__" "Layout.__init__" (defArgs s_Layout__init) (defBody s_Layout__init) (defScope s_Layout__init) [] [] (He.ma K (He.ga K "Layout") "__init__") fd
  f_Layout_fill : ∃ fd, FunD K "fill" "Layout.fill" (defArgs s_Layout_fill) (defBody s_Layout_fill) (defScope s_Layout_fill) [] [] (He.ma K (He.ga K "Layout") "fill") fd
  f_Layout_is_filling : ∃ fd, FunD K "is_filling" "Layout.is_filling" (defArgs s_Layout_is_filling) (defBody s_Layout_is_filling) (defScope s_Layout_is_filling) [] [] (He.ma K (He.ga K "Layout") "is_filling") fd
  f_lbag : ∃ fd, FunD K "_law_bag" "_law_bag" (defArgs s_lbag) (defBody s_lbag) (defScope s_lbag) [] [] (He.ga K "_law_bag") fd
  f_ltake : ∃ fd, FunD K "_law_take" "_law_take" (defArgs s_ltake) (defBody s_ltake) (defScope s_ltake) [] [] (He.ga K "_law_take") fd
  f_lof : ∃ fd, FunD K "_law_of" "_law_of" (defArgs s_lof) (defBody s_lof) (defScope s_lof) [] [] (He.ga K "_law_of") fd
  f_lword : ∃ fd, FunD K "_law_word" "_law_word" (defArgs s_lword) (defBody s_lword) (defScope s_lword) [] [] (He.ga K "_law_word") fd
  f_lvalue : ∃ fd, FunD K "_law_value" "_law_value" (defArgs s_lvalue) (defBody s_lvalue) (defScope s_lvalue) [] [] (He.ga K "_law_value") fd
  f_lnumber : ∃ fd, FunD K "_law_number" "_law_number" (defArgs s_lnumber) (defBody s_lnumber) (defScope s_lnumber) [] [] (He.ga K "_law_number") fd
  f_lturned : ∃ fd, FunD K "_law_turned" "_law_turned" (defArgs s_lturned) (defBody s_lturned) (defScope s_lturned) [] [] (He.ga K "_law_turned") fd
  f_lworths : ∃ fd, FunD K "_law_worths" "_law_worths" (defArgs s_lworths) (defBody s_lworths) (defScope s_lworths) [] [] (He.ga K "_law_worths") fd
  f_lwrong : ∃ fd, FunD K "_law_wrong" "_law_wrong" (defArgs s_lwrong) (defBody s_lwrong) (defScope s_lwrong) [] [] (He.ga K "_law_wrong") fd
  f_lsaid : ∃ fd, FunD K "_law_said" "_law_said" (defArgs s_lsaid) (defBody s_lsaid) (defScope s_lsaid) [] [] (He.ga K "_law_said") fd
  f_lis_new : ∃ fd, FunD K "_law_is_new" "_law_is_new" (defArgs s_lis_new) (defBody s_lis_new) (defScope s_lis_new) [] [] (He.ga K "_law_is_new") fd
  f_ltakes : ∃ fd, FunD K "_law_takes" "_law_takes" (defArgs s_ltakes) (defBody s_ltakes) (defScope s_ltakes) [] [] (He.ga K "_law_takes") fd
  f_law : ∃ fd, FunD K "law" "law" (defArgs s_law) (defBody s_law) (defScope s_law) [] [] (He.ga K "law") fd
theorem txt_of {w : World} {K : PySem.W.Frag} {h : Heap} {mg : Str → Option Value} (X : K.In h) (G : h.Ns mainGlobals mg) (c : He.SaysD fa fn K) (c2 : ex K = true) : Txt w K mg :=
  { g_BadField := He.glo_ok X G (c.fact 0 (f := .glo "BadField") rfl),
    g_BadLayout := He.glo_ok X G (c.fact 1 (f := .glo "BadLayout") rfl),
    g_BadValue := He.glo_ok X G (c.fact 2 (f := .glo "BadValue") rfl),
    s_LETTERS := He.str_ok X G (c.fact 3 (f := .str "LETTERS" "abcdefghijklmnopqrstuvwxyz") rfl),
    g_Layout := He.glo_ok X G (c.fact 4 (f := .glo "Layout") rfl),
    g_MendroundsError := He.glo_ok X G (c.fact 5 (f := .glo "MendroundsError") rfl),
    g_RESERVED := He.glo_ok X G (c.fact 6 (f := .glo "RESERVED") rfl),
    g__law_bag := He.glo_ok X G (c.fact 7 (f := .glo "_law_bag") rfl),
    g__law_is_new := He.glo_ok X G (c.fact 8 (f := .glo "_law_is_new") rfl),
    g__law_number := He.glo_ok X G (c.fact 9 (f := .glo "_law_number") rfl),
    g__law_of := He.glo_ok X G (c.fact 10 (f := .glo "_law_of") rfl),
    g__law_said := He.glo_ok X G (c.fact 11 (f := .glo "_law_said") rfl),
    g__law_take := He.glo_ok X G (c.fact 12 (f := .glo "_law_take") rfl),
    g__law_takes := He.glo_ok X G (c.fact 13 (f := .glo "_law_takes") rfl),
    g__law_turned := He.glo_ok X G (c.fact 14 (f := .glo "_law_turned") rfl),
    g__law_value := He.glo_ok X G (c.fact 15 (f := .glo "_law_value") rfl),
    g__law_word := He.glo_ok X G (c.fact 16 (f := .glo "_law_word") rfl),
    g__law_worths := He.glo_ok X G (c.fact 17 (f := .glo "_law_worths") rfl),
    g__law_wrong := He.glo_ok X G (c.fact 18 (f := .glo "_law_wrong") rfl),
    g_common_divisor := He.glo_ok X G (c.fact 19 (f := .glo "common_divisor") rfl),
    g_is_field := He.glo_ok X G (c.fact 20 (f := .glo "is_field") rfl),
    g_is_integer := He.glo_ok X G (c.fact 21 (f := .glo "is_integer") rfl),
    g_is_name := He.glo_ok X G (c.fact 22 (f := .glo "is_name") rfl),
    g_is_number := He.glo_ok X G (c.fact 23 (f := .glo "is_number") rfl),
    g_is_value := He.glo_ok X G (c.fact 24 (f := .glo "is_value") rfl),
    g_is_word := He.glo_ok X G (c.fact 25 (f := .glo "is_word") rfl),
    g_law := He.glo_ok X G (c.fact 26 (f := .glo "law") rfl),
    g_may_stand := He.glo_ok X G (c.fact 27 (f := .glo "may_stand") rfl),
    n_abs := He.free_ok X G (c.fact 28 (f := .free "abs") rfl),
    n_all := He.free_ok X G (c.fact 29 (f := .free "all") rfl),
    n_bool := He.free_ok X G (c.fact 30 (f := .free "bool") rfl),
    n_dict := He.free_ok X G (c.fact 31 (f := .free "dict") rfl),
    n_enumerate := He.free_ok X G (c.fact 32 (f := .free "enumerate") rfl),
    n_int := He.free_ok X G (c.fact 33 (f := .free "int") rfl),
    n_isinstance := He.free_ok X G (c.fact 34 (f := .free "isinstance") rfl),
    n_len := He.free_ok X G (c.fact 35 (f := .free "len") rfl),
    n_list := He.free_ok X G (c.fact 36 (f := .free "list") rfl),
    n_max := He.free_ok X G (c.fact 37 (f := .free "max") rfl),
    n_min := He.free_ok X G (c.fact 38 (f := .free "min") rfl),
    n_range := He.free_ok X G (c.fact 39 (f := .free "range") rfl),
    n_str := He.free_ok X G (c.fact 40 (f := .free "str") rfl),
    n_tuple := He.free_ok X G (c.fact 41 (f := .free "tuple") rfl),
    c_Layout := He.cls_ok (c.fact 42 (f := .cls "Layout") rfl),
    k_Layout := He.mkr_ok (c.fact 43 (f := .mkr "Layout") rfl),
    m_Layout_fill := He.meth_ok (c.fact 44 (f := .meth "Layout" "fill") rfl),
    m_Layout_is_filling := He.meth_ok (c.fact 45 (f := .meth "Layout" "is_filling") rfl),
    a_Layout__kinds := He.noat_ok (c.fact 46 (f := .noat "Layout" "_kinds") rfl),
    a_Layout_names := He.noat_ok (c.fact 47 (f := .noat "Layout" "names") rfl),
    e_BadLayout := errB_ok (exs_ok c2 0 rfl),
    e_BadField := errB_ok (exs_ok c2 1 rfl),
    e_BadValue := errB_ok (exs_ok c2 2 rfl),
    h_BadField := tabB (exs_ok c2 3 rfl) fun _ h => of_decide_eq_true h,
    h_BadValue := tabB (exs_ok c2 4 rfl) fun _ h => of_decide_eq_true h,
    kx_MendroundsError := tabB (exs_ok c2 5 rfl) fun _ h => by rw [Bool.and_eq_true, Bool.and_eq_true] at h; exact ⟨h.1, xfB_ok h.2.1, of_decide_eq_true h.2.2⟩,
    t_RESERVED := ktupB_ok (exs_ok c2 6 rfl),
    v_Layout_MOST := conB_ok (exs_ok c2 7 rfl),
    f_BadLayout__init := c.def_ 0 (d := dd_BadLayout__init) rfl,
    f_BadField__init := c.def_ 1 (d := dd_BadField__init) rfl,
    f_BadValue__init := c.def_ 2 (d := dd_BadValue__init) rfl,
    f_common_divisor := c.def_ 3 (d := dd_common_divisor) rfl,
    f_is_integer := c.def_ 4 (d := dd_is_integer) rfl,
    f_is_number := c.def_ 5 (d := dd_is_number) rfl,
    f_is_word := c.def_ 6 (d := dd_is_word) rfl,
    f_is_name := c.def_ 7 (d := dd_is_name) rfl,
    f_is_field := c.def_ 8 (d := dd_is_field) rfl,
    f_is_value := c.def_ 9 (d := dd_is_value) rfl,
    f_may_stand := c.def_ 10 (d := dd_may_stand) rfl,
    f_Layout__init := c.def_ 11 (d := dd_Layout__init) rfl,
    f_Layout_fill := c.def_ 12 (d := dd_Layout_fill) rfl,
    f_Layout_is_filling := c.def_ 13 (d := dd_Layout_is_filling) rfl,
    f_lbag := c.def_ 14 (d := dd_lbag) rfl,
    f_ltake := c.def_ 15 (d := dd_ltake) rfl,
    f_lof := c.def_ 16 (d := dd_lof) rfl,
    f_lword := c.def_ 17 (d := dd_lword) rfl,
    f_lvalue := c.def_ 18 (d := dd_lvalue) rfl,
    f_lnumber := c.def_ 19 (d := dd_lnumber) rfl,
    f_lturned := c.def_ 20 (d := dd_lturned) rfl,
    f_lworths := c.def_ 21 (d := dd_lworths) rfl,
    f_lwrong := c.def_ 22 (d := dd_lwrong) rfl,
    f_lsaid := c.def_ 23 (d := dd_lsaid) rfl,
    f_lis_new := c.def_ 24 (d := dd_lis_new) rfl,
    f_ltakes := c.def_ 25 (d := dd_ltakes) rfl,
    f_law := c.def_ 26 (d := dd_law) rfl }
def loose0 : List Str := ["MendroundsError", "BadLayout", "BadField", "BadValue", "LETTERS", "common_divisor", "is_integer", "is_number", "is_word", "RESERVED", "is_name", "is_field", "is_value", "may_stand", "Layout", "_law_bag", "_law_take", "_law_of", "_law_word", "_law_value", "_law_number", "_law_turned", "_law_worths", "_law_wrong", "_law_said", "_law_is_new", "_law_takes"]
abbrev loose : List Str := loose0
abbrev Ro : PySem.W.OpenRow := PySem.W.OpenLaw.row PySem.Challenge.rw_mendrounds_k07_fillings
abbrev hk : PySem.W.Hook := He.hookX 4 fa fn [] [] ex
def ob (s : PySem.W.SharedT) : He.AlX := He.obsX 4 fa fn [] [] ex (HandSHeadRun.getT s)
theorem ob_eq (s : PySem.W.SharedT) : ob s = hk.obs s.abs := He.obsX_eq (HandSHeadRun.getT_eq s)
abbrev RunW (w : World) : Prop := HandSHeadRun.RunEq Ro (PySem.W.view Ro.prog [31]) hk ob 12000 loose w
theorem map3 {σ α β γ : Type} {o : Option σ} {f : σ → α} {g : σ → β} {h : σ → γ} {a : α} {b : β} {c : γ} (h1 : o.map f = some a) (h2 : o.map g = some b) (h3 : o.map h = some c) : o.map (fun s => (f s, g s, h s)) = some (a, b, c) := by
  cases o with
  | none => cases h1
  | some s =>
    cases h1
    cases h2
    cases h3
    rfl
open HandSHeadRun PySem.W in
theorem run1 (w : World) : ∀ os : OsState, (endF (stepQ (denQ tabQ) Ro.prog w) 12000 Ro.prog w os).map (fun s => looksF Ro.prog (boot_heap w.params) s.abs) = some (true) := by
  intro os
  kernel_rfl
open HandSHeadRun PySem.W in
theorem run2 (w : World) : ∀ os : OsState, (endF (stepQ (denQ tabQ) Ro.prog w) 12000 Ro.prog w os).map (fun s => seenQ (PySem.W.view Ro.prog [31]) loose (importedModules Ro.prog.main.body) (fun s => xlAt (PySem.W.view Ro.prog [31]) [] s && recOk Ro.toRowW.records s) s.abs) = some (openGood (PySem.W.view Ro.prog [31]) loose) := by
  intro os
  kernel_rfl
open HandSHeadRun PySem.W in
theorem run3 (w : World) : ∀ os : OsState, (endF (stepQ (denQ tabQ) Ro.prog w) 12000 Ro.prog w os).map (fun s => ob s) = some (hk.val w) := by
  intro os
  kernel_rfl
theorem run_ (w : World) : RunW w := fun os => map3 (run1 w os) (run2 w os) (run3 w os)
theorem run (w : World) : RunW w := run_ w

abbrev b0_lbag : SJ :=
  (jRet (jLstO (jCons (jVar 3) (jCons (jOp addJ (jOp addJ (jOp mulJ (jOp modJ (jCB jInt (jCons (jVar 2) jNil)) (jC (.int 2305843009213693951))) (jC (.int 7))) (jOp mulJ (jC (.int 9176)) (jVar 1))) (jC (.int 7001))) (jCons (jC (.int 0)) jNil)))))
abbrev b1_lbag : SJ :=
  (jSeq (jAsg (jIf (jTest (jOp geJ (jCB jAbs (jCons (jVar 2) jNil)) (jOp powJ (jC (.int 10)) (jC (.int 18))))) (jCB jAbs (jCons (jVar 2) jNil)) (jC (.int 0))) (jgName 3))
  b0_lbag)
def q_lbag : SJ :=
  (jSeq (jAsg (jIf (jTest (jOp ltJ (jVar 1) (jCB lenJ (jCons (jVar 0) jNil)))) (jOp ixJ (jVar 0) (jVar 1)) (jC (.int 0))) (jgName 2))
  b1_lbag)
def qf_lbag : SJ :=
  (jSeq (jAsg (jIf (jTest (jOp ltJ (jVar 1) (jCB lenJ (jCons (jVar 0) jNil)))) (jOp ixJ (jVar 0) (jVar 1)) (jC (.int 0))) (jgName 2))
  (jSeq (jAsg (jIf (jTest (jOp geJ (jCB jAbs (jCons (jVar 2) jNil)) (jOp powJ (jC (.int 10)) (jC (.int 18))))) (jCB jAbs (jCons (jVar 2) jNil)) (jC (.int 0))) (jgName 3))
  (jRet (jLstO (jCons (jVar 3) (jCons (jOp addJ (jOp addJ (jOp mulJ (jOp modJ (jCB jInt (jCons (jVar 2) jNil)) (jC (.int 2305843009213693951))) (jC (.int 7))) (jOp mulJ (jC (.int 9176)) (jVar 1))) (jC (.int 7001))) (jCons (jC (.int 0)) jNil)))))))
theorem qe_lbag : qf_lbag = q_lbag := rfl
def w_lbag : WJ := wOf 2 4 q_lbag
theorem len_lbag {K : PySem.W.Frag} : ∀ vs H Q E, spJ K w_lbag vs H Q E → vs.length = 2 := len_J fun _ _ _ _ h => h.1
theorem fn_lbag {P : Program} {w : World} {K : PySem.W.Frag} {mg : Str → Option Value} {base : Heap} (T : Txt w K mg) {fd : FuncData} (F : FunD K "_law_bag" "_law_bag" (defArgs s_lbag) (defBody s_lbag) (defScope s_lbag) [] [] (He.ga K "_law_bag") fd) : FnOk P w K mg base (L2N.CX P w) 1 (He.ga K "_law_bag") fd ["_law_script", "_law_at"] (spJ K w_lbag) := by
  refine F.ok (k := 0) sc_lbag len_lbag fun cdv A outer s H vs Q E hr h => ?_
  have key : ∃ t, PSs (cxOf (L2N.CX P w) P w K mg base N_lbag "_law_bag" (defScope s_lbag) (He.ga K "_law_bag") cdv A outer s H E) (defBody s_lbag) t ∧ Ss K (WE' E) t qf_lbag := by
    exact ex_of ((pss_cons (ps_set (i := 2) sc_lbag.nd rfl (Or.inl rfl) (pe_ifExp (pt_cmpR op_lt (pv 1) (pe_callB call_lenU (by rfl) T.n_len (by decide +kernel) (pa_cons (pv 0) pa_nil)) (nomark _)) (pe_ix (ix_U (hu_of hr)) (pv 0) (pv 1) (fun _ _ => rfl)) pe_int))
  (pss_cons (ps_set (i := 3) sc_lbag.nd rfl (Or.inl rfl) (pe_ifExp (pt_cmpR op_ge (pe_callB call_abs (by rfl) T.n_abs (by decide +kernel) (pa_cons (pv 2) pa_nil)) (pe_op op_pow pe_int pe_int) (nomark _)) (pe_callB call_abs (by rfl) T.n_abs (by decide +kernel) (pa_cons (pv 2) pa_nil)) pe_int))
  (pss_one (ps_ret (pe_lst (pa_cons (pv 3) (pa_cons (pe_op op_addU (pe_op op_addU (pe_op op_mulU (pe_op op_mod (pe_callTy call_int1 (by rfl) T.n_int (by decide +kernel) (pa_cons (pv 2) pa_nil)) pe_int) pe_int) (pe_op op_mulU pe_int (pv 1))) pe_int) (pa_cons pe_int pa_nil)))))))))
      ((ss_seq (ss_asg (se_if (sb_test (se_op so_cmp se_var (se_cb sf_len (sa_cons se_var sa_nil)))) (se_op so_ix se_var se_var) (se_c fun _ => .int _)) sg_name)
  (ss_seq (ss_asg (se_if (sb_test (se_op so_cmp (se_cb sf_abs (sa_cons se_var sa_nil)) (se_op so_pow (se_c fun _ => .int _) (se_c fun _ => .int _)))) (se_cb sf_abs (sa_cons se_var sa_nil)) (se_c fun _ => .int _)) sg_name)
  (ss_ret (se_lstO (sa_cons se_var (sa_cons (se_op so_add (se_op so_add (se_op so_mul (se_op so_mod (se_cb sf_int (sa_cons se_var sa_nil)) (se_c fun _ => .int _)) (se_c fun _ => .int _)) (se_op so_mul (se_c fun _ => .int _) se_var)) (se_c fun _ => .int _)) (sa_cons (se_c fun _ => .int _) sa_nil))))))))
  obtain ⟨t, h1, h2⟩ := key
  rw [qe_lbag] at h2
  exact ⟨t, h1, rd_J (n := 2) (N := N_lbag) h2 h⟩
theorem ok_lbag {P : Program} {w : World} {K : PySem.W.Frag} {mg : Str → Option Value} {base : Heap} (T : Txt w K mg) : Ok P w K mg base 1 (He.ga K "_law_bag") ["_law_script", "_law_at"] [] (spJ K w_lbag) := by
  obtain ⟨fd, F⟩ := T.f_lbag
  exact ⟨fd, [], fn_lbag T F, F.kp, .nil, F.bindsN fun _ _ _ _ _ _ us hl => match us, hl with | [_, _], _ => rfl⟩
theorem len_BadLayout__init {K : PySem.W.Frag} : ∀ vs H Q E, spErr K (He.ga K "BadLayout") "at" vs H Q E → vs.length = 2 := by
  rintro vs H Q E ⟨a, y, rfl, _⟩
  rfl
theorem ok_BadLayout__init {P : Program} {w : World} {K : PySem.W.Frag} {mg : Str → Option Value} {base : Heap} (T : Txt w K mg) : Ok P w K mg base 1 (He.ma K (He.ga K "BadLayout") "__init__") ["self", "at"] [] (spErr K (He.ga K "BadLayout") "at") :=
  okF T.f_BadLayout__init sc_BadLayout__init len_BadLayout__init (fun _ _ _ _ _ _ us hl => match us, hl with | [_, _], _ => rfl) (t := fun E => tOst K "at" (tVar 0) (tVar 1)) (fun f cdv A outer s H E hr => (pss_one (ps_ost (pv 0) (pv 1)))) (by
    rintro vs H Q E ⟨a, y, rfl, ha, T, nf, q⟩
    exact ⟨_, rfl, _, rfl, a, _, rfl, T, nf, .inl ⟨ha, fun dx h1 h2 => q dx h1 h2⟩⟩)
abbrev b0_is_word : SJ :=
  (jSeq (jIfS (jOr (jNot (jTruth (jCB isiJ (jCons (jVar 0) (jCons (jC (.ty "str")) jNil))))) (jNot (jTest (jChain leJ leJ (jC (.int 1)) (jCB lenJ (jCons (jVar 0) jNil)) (jC (.int 8))))))
  (jRet (jC (.bl false)))
  jNext)
  (jRet (jCB jAll (jCons (jLc (jIU (jVar 0)) (jgName 2) jYes (jOp inRJ (jVar 2) (jC (.str "abcdefghijklmnopqrstuvwxyz"))) [1, 2]) jNil))))
def q_is_word : SJ :=
  b0_is_word
def qf_is_word : SJ :=
  (jSeq (jIfS (jOr (jNot (jTruth (jCB isiJ (jCons (jVar 0) (jCons (jC (.ty "str")) jNil))))) (jNot (jTest (jChain leJ leJ (jC (.int 1)) (jCB lenJ (jCons (jVar 0) jNil)) (jC (.int 8))))))
  (jRet (jC (.bl false)))
  jNext)
  (jRet (jCB jAll (jCons (jLc (jIU (jVar 0)) (jgName 2) jYes (jOp inRJ (jVar 2) (jC (.str "abcdefghijklmnopqrstuvwxyz"))) [1, 2]) jNil))))
theorem qe_is_word : qf_is_word = q_is_word := rfl
def w_is_word : WJ := wOf 1 3 q_is_word
theorem len_is_word {K : PySem.W.Frag} : ∀ vs H Q E, spJ K w_is_word vs H Q E → vs.length = 1 := len_J fun _ _ _ _ h => h.1
theorem fn_is_word {P : Program} {w : World} {K : PySem.W.Frag} {mg : Str → Option Value} {base : Heap} (T : Txt w K mg) {fd : FuncData} (F : FunD K "is_word" "is_word" (defArgs s_is_word) (defBody s_is_word) (defScope s_is_word) [] [] (He.ga K "is_word") fd) : FnOk P w K mg base (L2N.CX P w) 1 (He.ga K "is_word") fd ["thing"] (spJ K w_is_word) := by
  refine F.ok (k := 0) sc_is_word len_is_word fun cdv A outer s H vs Q E hr h => ?_
  have key : ∃ t, PSs (cxOf (L2N.CX P w) P w K mg base N_is_word "is_word" (defScope s_is_word) (He.ga K "is_word") cdv A outer s H E) (defBody s_is_word) t ∧ Ss K (WE' E) t qf_is_word := by
    exact ex_of ((pss_cons (ps_if (PW.pt (pw_or (pt_not (pt_tru (pe_callB call_isi (by rfl) T.n_isinstance (by decide +kernel) (pa_cons (pv 0) (pa_cons (pe_ty T.n_str (by decide +kernel)) pa_nil))))) (pw_or1 (pt_not (pt_chain op_le op_le pe_int (pe_callB call_lenU (by rfl) T.n_len (by decide +kernel) (pa_cons (pv 0) pa_nil)) pe_int)))))
  (pss_one (ps_ret pe_bl))
  pss_nil)
  (pss_one (ps_ret (pe_callB (cr_all rfl) (by rfl) T.n_all (by decide +kernel) (pa_cons (pe_lc (own := [(".0", 1), ("sign", 2)]) rfl sc_is_word.nd (pi_U (pv 0)) (blkOk_by (own := [(".0", 1), ("sign", 2)]) (N := N_is_word) (sc := defScope s_is_word) (by decide +kernel)) (fun _ _ _ _ _ => (pg_name (i := 2) sc_is_word.nd rfl (Or.inl rfl))) (fun _ _ _ _ _ => pts_nil) (fun _ _ _ _ _ => (pe_cmpR (op_inU (hu65 hr)) (pv 2) (pe_gstr T.s_LETTERS) rfl))) pa_nil))))))
      ((ss_seq (ss_if (sb_or (sb_not (sb_truth (se_cb sf_isi (sa_cons se_var (sa_cons (se_c fun _ => .ty _) sa_nil))))) (sb_not (sb_test (se_chain so_cmp so_cmp (se_c fun _ => .int _) (se_cb sf_len (sa_cons se_var sa_nil)) (se_c fun _ => .int _)))))
  (ss_ret (se_c fun _ => .bl _))
  ss_next)
  (ss_ret (se_cb sf_all (sa_cons (se_lc (vs := [1, 2]) (si_U se_var) (sgw_name (by decide)) sb_yes (se_op so_in se_var (se_c fun _ => .str _))) sa_nil)))))
  obtain ⟨t, h1, h2⟩ := key
  rw [qe_is_word] at h2
  exact ⟨t, h1, rd_J (n := 1) (N := N_is_word) h2 h⟩
theorem ok_is_word {P : Program} {w : World} {K : PySem.W.Frag} {mg : Str → Option Value} {base : Heap} (T : Txt w K mg) : Ok P w K mg base 1 (He.ga K "is_word") ["thing"] [] (spJ K w_is_word) := by
  obtain ⟨fd, F⟩ := T.f_is_word
  exact ⟨fd, [], fn_is_word T F, F.kp, .nil, F.bindsN fun _ _ _ _ _ _ us hl => match us, hl with | [_], _ => rfl⟩
abbrev b0_is_name : SJ :=
  (jRet (jAndV (jCall w_is_word [] (jCons (jVar 0) jNil)) (jOp notInRJ (jVar 0) (jC (.tup [.str "and", .str "or", .str "not", .str "in", .str "given", .str "true", .str "false", .str "blank", .str "number", .str "word", .str "needs", .str "instead", .str "after", .str "blames", .str "check", .str "guard", .str "barrier", .str "repair", .str "default", .str "exit", .str "self"])))))
def q_is_name : SJ :=
  b0_is_name
def qf_is_name : SJ :=
  (jRet (jAndV (jCall w_is_word [] (jCons (jVar 0) jNil)) (jOp notInRJ (jVar 0) (jC (.tup [.str "and", .str "or", .str "not", .str "in", .str "given", .str "true", .str "false", .str "blank", .str "number", .str "word", .str "needs", .str "instead", .str "after", .str "blames", .str "check", .str "guard", .str "barrier", .str "repair", .str "default", .str "exit", .str "self"])))))
theorem qe_is_name : qf_is_name = q_is_name := rfl
def w_is_name : WJ := wOf 1 1 q_is_name
theorem len_is_name {K : PySem.W.Frag} : ∀ vs H Q E, spJ K w_is_name vs H Q E → vs.length = 1 := len_J fun _ _ _ _ h => h.1
theorem fn_is_name {P : Program} {w : World} {K : PySem.W.Frag} {mg : Str → Option Value} {base : Heap} (T : Txt w K mg) {fd : FuncData} (F : FunD K "is_name" "is_name" (defArgs s_is_name) (defBody s_is_name) (defScope s_is_name) [] [] (He.ga K "is_name") fd) : FnOk P w K mg base (L2N.CX P w) 2 (He.ga K "is_name") fd ["thing"] (spJ K w_is_name) := by
  refine F.ok (k := 1) sc_is_name len_is_name fun cdv A outer s H vs Q E hr h => ?_
  have key : ∃ t, PSs (cxOf (L2N.CX P w) P w K mg base N_is_name "is_name" (defScope s_is_name) (He.ga K "is_name") cdv A outer s H E) (defBody s_is_name) t ∧ Ss K (WE' E) t qf_is_name := by
    exact ex_of ((pss_one (ps_ret (pe_and (pe_cU (ok_is_word T) hr (by decide) T.g_is_word (L2N.takes_of rfl rfl rfl rfl) (pa_cons (pv 0) pa_nil)) (pe_one (pe_cmpR (op_notInU (hu65 hr)) (pv 0) (pe_gref T.g_RESERVED) rfl))))))
      ((ss_ret (se_andV (se_callU (fun _ => .nil) (sa_cons se_var sa_nil)) (se_op so_notIn se_var (se_c fun G => .tup (T.t_RESERVED G) (.cons (.str _) (.cons (.str _) (.cons (.str _) (.cons (.str _) (.cons (.str _) (.cons (.str _) (.cons (.str _) (.cons (.str _) (.cons (.str _) (.cons (.str _) (.cons (.str _) (.cons (.str _) (.cons (.str _) (.cons (.str _) (.cons (.str _) (.cons (.str _) (.cons (.str _) (.cons (.str _) (.cons (.str _) (.cons (.str _) (.cons (.str _) (.nil)))))))))))))))))))))))))))
  obtain ⟨t, h1, h2⟩ := key
  rw [qe_is_name] at h2
  exact ⟨t, h1, rd_J (n := 1) (N := N_is_name) h2 h⟩
theorem ok_is_name {P : Program} {w : World} {K : PySem.W.Frag} {mg : Str → Option Value} {base : Heap} (T : Txt w K mg) : Ok P w K mg base 2 (He.ga K "is_name") ["thing"] [] (spJ K w_is_name) := by
  obtain ⟨fd, F⟩ := T.f_is_name
  exact ⟨fd, [], fn_is_name T F, F.kp, .nil, F.bindsN fun _ _ _ _ _ _ us hl => match us, hl with | [_], _ => rfl⟩
abbrev b0_is_field : SJ :=
  (jRet (jAndV (jCB isiJ (jCons (jVar 0) (jCons (jC (.ty "tuple")) jNil))) (jAndV (jOp eqRJ (jCB lenJ (jCons (jVar 0) jNil)) (jC (.int 2))) (jAndV (jCall w_is_name [] (jCons (jOp ixJ (jVar 0) (jC (.int 0))) jNil)) (jOp inRJ (jOp ixJ (jVar 0) (jC (.int 1))) (jTup (jCons (jC (.str "number")) (jCons (jC (.str "word")) jNil))))))))
def q_is_field : SJ :=
  b0_is_field
def qf_is_field : SJ :=
  (jRet (jAndV (jCB isiJ (jCons (jVar 0) (jCons (jC (.ty "tuple")) jNil))) (jAndV (jOp eqRJ (jCB lenJ (jCons (jVar 0) jNil)) (jC (.int 2))) (jAndV (jCall w_is_name [] (jCons (jOp ixJ (jVar 0) (jC (.int 0))) jNil)) (jOp inRJ (jOp ixJ (jVar 0) (jC (.int 1))) (jTup (jCons (jC (.str "number")) (jCons (jC (.str "word")) jNil))))))))
theorem qe_is_field : qf_is_field = q_is_field := rfl
def w_is_field : WJ := wOf 1 1 q_is_field
theorem len_is_field {K : PySem.W.Frag} : ∀ vs H Q E, spJ K w_is_field vs H Q E → vs.length = 1 := len_J fun _ _ _ _ h => h.1
theorem fn_is_field {P : Program} {w : World} {K : PySem.W.Frag} {mg : Str → Option Value} {base : Heap} (T : Txt w K mg) {fd : FuncData} (F : FunD K "is_field" "is_field" (defArgs s_is_field) (defBody s_is_field) (defScope s_is_field) [] [] (He.ga K "is_field") fd) : FnOk P w K mg base (L2N.CX P w) 3 (He.ga K "is_field") fd ["thing"] (spJ K w_is_field) := by
  refine F.ok (k := 2) sc_is_field len_is_field fun cdv A outer s H vs Q E hr h => ?_
  have key : ∃ t, PSs (cxOf (L2N.CX P w) P w K mg base N_is_field "is_field" (defScope s_is_field) (He.ga K "is_field") cdv A outer s H E) (defBody s_is_field) t ∧ Ss K (WE' E) t qf_is_field := by
    exact ex_of ((pss_one (ps_ret (pe_and (pe_callB call_isi (by rfl) T.n_isinstance (by decide +kernel) (pa_cons (pv 0) (pa_cons (pe_ty T.n_tuple (by decide +kernel)) pa_nil))) (pe_and (pe_cmpR (op_eqU (hu65 hr)) (pe_callB call_lenU (by rfl) T.n_len (by decide +kernel) (pa_cons (pv 0) pa_nil)) pe_int (nomark _)) (pe_and (pe_cU (ok_is_name T) hr (by decide) T.g_is_name (L2N.takes_of rfl rfl rfl rfl) (pa_cons (pe_ix (ix_U (hu_of hr)) (pv 0) pe_int (fun _ _ => rfl)) pa_nil)) (pe_one (pe_cmpR (op_inU (hu65 hr)) (pe_ix (ix_U (hu_of hr)) (pv 0) pe_int (fun _ _ => rfl)) (pe_tup (pa_cons pe_str (pa_cons pe_str pa_nil))) rfl))))))))
      ((ss_ret (se_andV (se_cb sf_isi (sa_cons se_var (sa_cons (se_c fun _ => .ty _) sa_nil))) (se_andV (se_op so_eq (se_cb sf_len (sa_cons se_var sa_nil)) (se_c fun _ => .int _)) (se_andV (se_callU (fun _ => .nil) (sa_cons (se_op so_ix se_var (se_c fun _ => .int _)) sa_nil)) (se_op so_in (se_op so_ix se_var (se_c fun _ => .int _)) (se_tup (sa_cons (se_c fun _ => .str _) (sa_cons (se_c fun _ => .str _) sa_nil)))))))))
  obtain ⟨t, h1, h2⟩ := key
  rw [qe_is_field] at h2
  exact ⟨t, h1, rd_J (n := 1) (N := N_is_field) h2 h⟩
theorem ok_is_field {P : Program} {w : World} {K : PySem.W.Frag} {mg : Str → Option Value} {base : Heap} (T : Txt w K mg) : Ok P w K mg base 3 (He.ga K "is_field") ["thing"] [] (spJ K w_is_field) := by
  obtain ⟨fd, F⟩ := T.f_is_field
  exact ⟨fd, [], fn_is_field T F, F.kp, .nil, F.bindsN fun _ _ _ _ _ _ us hl => match us, hl with | [_], _ => rfl⟩
abbrev b0_Layout__init : SJ :=
  (jSeq (jIfS (jOr (jNot (jTruth (jCall w_is_field [] (jCons (jVar 3) jNil)))) (jTest (jOp inRJ (jOp ixJ (jVar 3) (jC (.int 0))) (jFld ["Layout"] (jVar 0) "_kinds"))))
  (jRaise1 "BadLayout" "at" (jCons (jVar 2) jNil))
  jNext)
  (jAsg (jOp ixJ (jVar 3) (jC (.int 1))) (jgSub (jFld ["Layout"] (jVar 0) "_kinds") (jOp ixJ (jVar 3) (jC (.int 0))))))
abbrev b1_Layout__init : SJ :=
  (jSetF ["Layout"] (jVar 0) (jCB jTuple (jCons (jLc (jIU (jVar 1)) (jgTup 2 (jgCons (jgName 5) (jgCons (jgName 6) jgNil))) jYes (jVar 5) [4, 5, 6]) jNil)) "names")
abbrev b2_Layout__init : SJ :=
  (jSeq (jSetF ["Layout"] (jVar 0) jDct0O "_kinds")
  (jSeq (jFor (jEnum (jCons (jVar 1) jNil)) (jgTup 2 (jgCons (jgName 2) (jgCons (jgName 3) jgNil)))
  b0_Layout__init)
  b1_Layout__init))
abbrev b3_Layout__init : SJ :=
  (jSeq (jIfS (jOr (jNot (jTruth (jCB isiJ (jCons (jVar 1) (jCons (jC (.ty "list")) jNil))))) (jNot (jTest (jChain leJ leJ (jC (.int 1)) (jCB lenJ (jCons (jVar 1) jNil)) (jCon ["Layout"] (jVar 0) "MOST" (.int 5))))))
  (jRaise1 "BadLayout" "at" (jCons (jUn negJ (jC (.int 1))) jNil))
  jNext)
  b2_Layout__init)
def q_Layout__init : SJ :=
  b3_Layout__init
def qf_Layout__init : SJ :=
  (jSeq (jIfS (jOr (jNot (jTruth (jCB isiJ (jCons (jVar 1) (jCons (jC (.ty "list")) jNil))))) (jNot (jTest (jChain leJ leJ (jC (.int 1)) (jCB lenJ (jCons (jVar 1) jNil)) (jCon ["Layout"] (jVar 0) "MOST" (.int 5))))))
  (jRaise1 "BadLayout" "at" (jCons (jUn negJ (jC (.int 1))) jNil))
  jNext)
  (jSeq (jSetF ["Layout"] (jVar 0) jDct0O "_kinds")
  (jSeq (jFor (jEnum (jCons (jVar 1) jNil)) (jgTup 2 (jgCons (jgName 2) (jgCons (jgName 3) jgNil)))
  (jSeq (jIfS (jOr (jNot (jTruth (jCall w_is_field [] (jCons (jVar 3) jNil)))) (jTest (jOp inRJ (jOp ixJ (jVar 3) (jC (.int 0))) (jFld ["Layout"] (jVar 0) "_kinds"))))
  (jRaise1 "BadLayout" "at" (jCons (jVar 2) jNil))
  jNext)
  (jAsg (jOp ixJ (jVar 3) (jC (.int 1))) (jgSub (jFld ["Layout"] (jVar 0) "_kinds") (jOp ixJ (jVar 3) (jC (.int 0)))))))
  (jSetF ["Layout"] (jVar 0) (jCB jTuple (jCons (jLc (jIU (jVar 1)) (jgTup 2 (jgCons (jgName 5) (jgCons (jgName 6) jgNil))) jYes (jVar 5) [4, 5, 6]) jNil)) "names"))))
theorem qe_Layout__init : qf_Layout__init = q_Layout__init := rfl
def w_Layout__init : WJ := wOfK 2 7 q_Layout__init
theorem len_Layout__init {K : PySem.W.Frag} : ∀ vs H Q E, spJ K w_Layout__init vs H Q E → vs.length = 2 := len_J fun _ _ _ _ h => h.1
theorem fn_Layout__init {P : Program} {w : World} {K : PySem.W.Frag} {mg : Str → Option Value} {base : Heap} (T : Txt w K mg) {fd : FuncData} (F : FunD K "__init__" "Layout.__init__" (defArgs s_Layout__init) (defBody s_Layout__init) (defScope s_Layout__init) [] [] (He.ma K (He.ga K "Layout") "__init__") fd) : FnOk P w K mg base (L2N.CX P w) 4 (He.ma K (He.ga K "Layout") "__init__") fd ["self", "fields"] (spJ K w_Layout__init) := by
  refine F.ok (k := 3) sc_Layout__init len_Layout__init fun cdv A outer s H vs Q E hr h => ?_
  have key : ∃ t, PSs (cxOf (L2N.CX P w) P w K mg base N_Layout__init "Layout.__init__" (defScope s_Layout__init) (He.ma K (He.ga K "Layout") "__init__") cdv A outer s H E) (defBody s_Layout__init) t ∧ Ss K (WE' E) t qf_Layout__init := by
    exact ex_of ((pss_cons (ps_if (PW.pt (pw_or (pt_not (pt_tru (pe_callB call_isi (by rfl) T.n_isinstance (by decide +kernel) (pa_cons (pv 1) (pa_cons (pe_ty T.n_list (by decide +kernel)) pa_nil))))) (pw_or1 (pt_not (pt_chain op_le op_le pe_int (pe_callB call_lenU (by rfl) T.n_len (by decide +kernel) (pa_cons (pv 1) pa_nil)) (pe_con (pv 0) rfl))))))
  (pss_one (L2N.ps_raise (W := (fun cl d _ H => E cl d H)) rfl (L2N.takes_of rfl rfl rfl rfl) (pmk_err T.e_BadLayout (ok_BadLayout__init T) hr (by decide) T.g_BadLayout (pa_cons (pe_un un_neg pe_int) pa_nil))))
  pss_nil)
  (pss_cons (ps_fld (pv 0) pe_dnewK rfl)
  (pss_cons (ps_for (passes_of rfl) rfl (pi_enum (by rfl) T.n_enumerate (pa_cons (pv 1) pa_nil)) (pg_tup rfl (pgs_cons (pg_name (i := 2) sc_Layout__init.nd rfl (Or.inl rfl)) (pgs_cons (pg_name (i := 3) sc_Layout__init.nd rfl (Or.inl rfl)) pgs_nil)))
  (pss_cons (ps_if (PW.pt (pw_or (pt_not (pt_tru (pe_cU (ok_is_field T) hr (by decide) T.g_is_field (L2N.takes_of rfl rfl rfl rfl) (pa_cons (pv 3) pa_nil)))) (pw_or1 (pt_cmpR (op_inU (hu65 hr)) (pe_ix (ix_U (hu_of hr)) (pv 3) pe_int (fun _ _ => rfl)) (pe_fld (pv 0) rfl) rfl))))
  (pss_one (L2N.ps_raise (W := (fun cl d _ H => E cl d H)) rfl (L2N.takes_of rfl rfl rfl rfl) (pmk_err T.e_BadLayout (ok_BadLayout__init T) hr (by decide) T.g_BadLayout (pa_cons (pv 2) pa_nil))))
  pss_nil)
  (pss_one (ps_asg (pe_ix (ix_U (hu_of hr)) (pv 3) pe_int (fun _ _ => rfl)) (pg_sub (pe_fld (pv 0) rfl) (pe_ix (ix_U (hu_of hr)) (pv 3) pe_int (fun _ _ => rfl)) (set_U (hu_of hr)))))))
  (pss_one (ps_fld (pv 0) (pe_callTy call_tupleU (by rfl) T.n_tuple (by decide +kernel) (pa_cons (pe_lc (own := [(".0", 4), ("name", 5), ("kind", 6)]) rfl sc_Layout__init.nd (pi_U (pv 1)) (blkOk_by (own := [(".0", 4), ("name", 5), ("kind", 6)]) (N := N_Layout__init) (sc := defScope s_Layout__init) (by decide +kernel)) (fun _ _ _ _ _ => (pg_tup rfl (pgs_cons (pg_name (i := 5) sc_Layout__init.nd rfl (Or.inl rfl)) (pgs_cons (pg_name (i := 6) sc_Layout__init.nd rfl (Or.inl rfl)) pgs_nil)))) (fun _ _ _ _ _ => pts_nil) (fun _ _ _ _ _ => (pv 5))) pa_nil)) rfl))))))
      ((ss_seq (ss_if (sb_or (sb_not (sb_truth (se_cb sf_isi (sa_cons se_var (sa_cons (se_c fun _ => .ty _) sa_nil))))) (sb_not (sb_test (se_chain so_cmp so_cmp (se_c fun _ => .int _) (se_cb sf_len (sa_cons se_var sa_nil)) (se_con (ac (con_of T.c_Layout T.v_Layout_MOST fun _ => .int _) an) se_var)))))
  (ss_raise1 T.e_BadLayout (sa_cons (se_un so1_neg (se_c fun _ => .int _)) sa_nil))
  ss_next)
  (ss_seq (ss_setF (ac ⟨T.c_Layout, T.a_Layout__kinds⟩ an) se_var se_dct0O)
  (ss_seq (ss_for (si_enum (sa_cons se_var sa_nil)) (sg_tup (sgs_cons sg_name (sgs_cons sg_name sgs_nil)))
  (ss_seq (ss_if (sb_or (sb_not (sb_truth (se_callU (fun _ => .nil) (sa_cons se_var sa_nil)))) (sb_test (se_op so_in (se_op so_ix se_var (se_c fun _ => .int _)) (se_fld (ac ⟨T.c_Layout, T.a_Layout__kinds⟩ an) se_var))))
  (ss_raise1 T.e_BadLayout (sa_cons se_var sa_nil))
  ss_next)
  (ss_asg (se_op so_ix se_var (se_c fun _ => .int _)) (sg_sub (se_fld (ac ⟨T.c_Layout, T.a_Layout__kinds⟩ an) se_var) (se_op so_ix se_var (se_c fun _ => .int _))))))
  (ss_setF (ac ⟨T.c_Layout, T.a_Layout_names⟩ an) se_var (se_cb sf_tuple (sa_cons (se_lc (vs := [4, 5, 6]) (si_U se_var) (sgw_tup (sgsw_cons (sgw_name (by decide)) (sgsw_cons (sgw_name (by decide)) sgsw_nil))) sb_yes se_var) sa_nil)))))))
  obtain ⟨t, h1, h2⟩ := key
  rw [qe_Layout__init] at h2
  exact ⟨t, h1, rd_K (n := 2) (N := N_Layout__init) h2 h⟩
theorem ok_Layout__init {P : Program} {w : World} {K : PySem.W.Frag} {mg : Str → Option Value} {base : Heap} (T : Txt w K mg) : Ok P w K mg base 4 (He.ma K (He.ga K "Layout") "__init__") ["self", "fields"] [] (spJ K w_Layout__init) := by
  obtain ⟨fd, F⟩ := T.f_Layout__init
  exact ⟨fd, [], fn_Layout__init T F, F.kp, .nil, F.bindsN fun _ _ _ _ _ _ us hl => match us, hl with | [_, _], _ => rfl⟩
abbrev b0_ltake : SJ :=
  (jSeq (jAsg (jOp modJ (jCB jInt (jCons (jOp ixJ (jVar 0) (jC (.int 0))) jNil)) (jVar 1)) (jgName 2))
  (jSeq (jAsg (jOp divJ (jOp ixJ (jVar 0) (jC (.int 0))) (jVar 1)) (jgSub (jVar 0) (jC (.int 0))))
  (jRet (jVar 2))))
abbrev b1_ltake : SJ :=
  (jSeq (jAsg (jOp modJ (jCB jInt (jCons (jOp powJ (jOp addJ (jVar 3) (jOp mulJ (jC (.int 15485863)) (jOp ixJ (jVar 0) (jC (.int 2))))) (jC (.int 2))) jNil)) (jC (.int 2305843009213693951))) (jgName 3))
  (jRet (jOp modJ (jCB jInt (jCons (jOp divJ (jVar 3) (jC (.int 8192))) jNil)) (jVar 1))))
abbrev b2_ltake : SJ :=
  (jSeq (jAsg (jOp modJ (jCB jInt (jCons (jOp powJ (jOp addJ (jOp ixJ (jVar 0) (jC (.int 1))) (jOp mulJ (jC (.int 1000003)) (jOp ixJ (jVar 0) (jC (.int 2))))) (jC (.int 3))) jNil)) (jC (.int 2305843009213693921))) (jgName 3))
  b1_ltake)
abbrev b3_ltake : SJ :=
  (jSeq (jIfS (jTest (jOp gtJ (jOp ixJ (jVar 0) (jC (.int 0))) (jC (.int 0))))
  b0_ltake
  jNext)
  (jSeq (jAsg (jOp addJ (jOp ixJ (jVar 0) (jC (.int 2))) (jC (.int 1))) (jgSub (jVar 0) (jC (.int 2))))
  b2_ltake))
def q_ltake : SJ :=
  b3_ltake
def qf_ltake : SJ :=
  (jSeq (jIfS (jTest (jOp gtJ (jOp ixJ (jVar 0) (jC (.int 0))) (jC (.int 0))))
  (jSeq (jAsg (jOp modJ (jCB jInt (jCons (jOp ixJ (jVar 0) (jC (.int 0))) jNil)) (jVar 1)) (jgName 2))
  (jSeq (jAsg (jOp divJ (jOp ixJ (jVar 0) (jC (.int 0))) (jVar 1)) (jgSub (jVar 0) (jC (.int 0))))
  (jRet (jVar 2))))
  jNext)
  (jSeq (jAsg (jOp addJ (jOp ixJ (jVar 0) (jC (.int 2))) (jC (.int 1))) (jgSub (jVar 0) (jC (.int 2))))
  (jSeq (jAsg (jOp modJ (jCB jInt (jCons (jOp powJ (jOp addJ (jOp ixJ (jVar 0) (jC (.int 1))) (jOp mulJ (jC (.int 1000003)) (jOp ixJ (jVar 0) (jC (.int 2))))) (jC (.int 3))) jNil)) (jC (.int 2305843009213693921))) (jgName 3))
  (jSeq (jAsg (jOp modJ (jCB jInt (jCons (jOp powJ (jOp addJ (jVar 3) (jOp mulJ (jC (.int 15485863)) (jOp ixJ (jVar 0) (jC (.int 2))))) (jC (.int 2))) jNil)) (jC (.int 2305843009213693951))) (jgName 3))
  (jRet (jOp modJ (jCB jInt (jCons (jOp divJ (jVar 3) (jC (.int 8192))) jNil)) (jVar 1)))))))
theorem qe_ltake : qf_ltake = q_ltake := rfl
def w_ltake : WJ := wOf 2 4 q_ltake
theorem len_ltake {K : PySem.W.Frag} : ∀ vs H Q E, spJ K w_ltake vs H Q E → vs.length = 2 := len_J fun _ _ _ _ h => h.1
theorem fn_ltake {P : Program} {w : World} {K : PySem.W.Frag} {mg : Str → Option Value} {base : Heap} (T : Txt w K mg) {fd : FuncData} (F : FunD K "_law_take" "_law_take" (defArgs s_ltake) (defBody s_ltake) (defScope s_ltake) [] [] (He.ga K "_law_take") fd) : FnOk P w K mg base (L2N.CX P w) 1 (He.ga K "_law_take") fd ["_law_bag_here", "_law_many"] (spJ K w_ltake) := by
  refine F.ok (k := 0) sc_ltake len_ltake fun cdv A outer s H vs Q E hr h => ?_
  have key : ∃ t, PSs (cxOf (L2N.CX P w) P w K mg base N_ltake "_law_take" (defScope s_ltake) (He.ga K "_law_take") cdv A outer s H E) (defBody s_ltake) t ∧ Ss K (WE' E) t qf_ltake := by
    exact ex_of ((pss_cons (ps_if (pt_cmpR op_gt (pe_ix (ix_U (hu_of hr)) (pv 0) pe_int (fun _ _ => rfl)) pe_int (nomark _))
  (pss_cons (ps_set (i := 2) sc_ltake.nd rfl (Or.inl rfl) (pe_op op_mod (pe_callTy call_int1 (by rfl) T.n_int (by decide +kernel) (pa_cons (pe_ix (ix_U (hu_of hr)) (pv 0) pe_int (fun _ _ => rfl)) pa_nil)) (pv 1)))
  (pss_cons (ps_asg (pe_op op_fdivW (pe_ix (ix_U (hu_of hr)) (pv 0) pe_int (fun _ _ => rfl)) (pv 1)) (pg_sub (pv 0) pe_int (set_U (hu_of hr))))
  (pss_one (ps_ret (pv 2)))))
  pss_nil)
  (pss_cons (ps_asg (pe_op op_addU (pe_ix (ix_U (hu_of hr)) (pv 0) pe_int (fun _ _ => rfl)) pe_int) (pg_sub (pv 0) pe_int (set_U (hu_of hr))))
  (pss_cons (ps_set (i := 3) sc_ltake.nd rfl (Or.inl rfl) (pe_op op_mod (pe_callTy call_int1 (by rfl) T.n_int (by decide +kernel) (pa_cons (pe_op op_pow (pe_op op_addU (pe_ix (ix_U (hu_of hr)) (pv 0) pe_int (fun _ _ => rfl)) (pe_op op_mulU pe_int (pe_ix (ix_U (hu_of hr)) (pv 0) pe_int (fun _ _ => rfl)))) pe_int) pa_nil)) pe_int))
  (pss_cons (ps_set (i := 3) sc_ltake.nd rfl (Or.inl rfl) (pe_op op_mod (pe_callTy call_int1 (by rfl) T.n_int (by decide +kernel) (pa_cons (pe_op op_pow (pe_op op_addU (pv 3) (pe_op op_mulU pe_int (pe_ix (ix_U (hu_of hr)) (pv 0) pe_int (fun _ _ => rfl)))) pe_int) pa_nil)) pe_int))
  (pss_one (ps_ret (pe_op op_mod (pe_callTy call_int1 (by rfl) T.n_int (by decide +kernel) (pa_cons (pe_op op_fdivW (pv 3) pe_int) pa_nil)) (pv 1)))))))))
      ((ss_seq (ss_if (sb_test (se_op so_cmp (se_op so_ix se_var (se_c fun _ => .int _)) (se_c fun _ => .int _)))
  (ss_seq (ss_asg (se_op so_mod (se_cb sf_int (sa_cons (se_op so_ix se_var (se_c fun _ => .int _)) sa_nil)) se_var) sg_name)
  (ss_seq (ss_asg (se_op so_div (se_op so_ix se_var (se_c fun _ => .int _)) se_var) (sg_sub se_var (se_c fun _ => .int _)))
  (ss_ret se_var)))
  ss_next)
  (ss_seq (ss_asg (se_op so_add (se_op so_ix se_var (se_c fun _ => .int _)) (se_c fun _ => .int _)) (sg_sub se_var (se_c fun _ => .int _)))
  (ss_seq (ss_asg (se_op so_mod (se_cb sf_int (sa_cons (se_op so_pow (se_op so_add (se_op so_ix se_var (se_c fun _ => .int _)) (se_op so_mul (se_c fun _ => .int _) (se_op so_ix se_var (se_c fun _ => .int _)))) (se_c fun _ => .int _)) sa_nil)) (se_c fun _ => .int _)) sg_name)
  (ss_seq (ss_asg (se_op so_mod (se_cb sf_int (sa_cons (se_op so_pow (se_op so_add se_var (se_op so_mul (se_c fun _ => .int _) (se_op so_ix se_var (se_c fun _ => .int _)))) (se_c fun _ => .int _)) sa_nil)) (se_c fun _ => .int _)) sg_name)
  (ss_ret (se_op so_mod (se_cb sf_int (sa_cons (se_op so_div se_var (se_c fun _ => .int _)) sa_nil)) se_var)))))))
  obtain ⟨t, h1, h2⟩ := key
  rw [qe_ltake] at h2
  exact ⟨t, h1, rd_J (n := 2) (N := N_ltake) h2 h⟩
theorem ok_ltake {P : Program} {w : World} {K : PySem.W.Frag} {mg : Str → Option Value} {base : Heap} (T : Txt w K mg) : Ok P w K mg base 1 (He.ga K "_law_take") ["_law_bag_here", "_law_many"] [] (spJ K w_ltake) := by
  obtain ⟨fd, F⟩ := T.f_ltake
  exact ⟨fd, [], fn_ltake T F, F.kp, .nil, F.bindsN fun _ _ _ _ _ _ us hl => match us, hl with | [_, _], _ => rfl⟩
def q_lof : SJ :=
  (jRet (jOp ixJ (jVar 1) (jCall w_ltake [] (jCons (jVar 0) (jCons (jCB lenJ (jCons (jVar 1) jNil)) jNil)))))
def w_lof : WJ := wOf 2 2 q_lof
theorem len_lof {K : PySem.W.Frag} : ∀ vs H Q E, spJ K w_lof vs H Q E → vs.length = 2 := len_J fun _ _ _ _ h => h.1
theorem fn_lof {P : Program} {w : World} {K : PySem.W.Frag} {mg : Str → Option Value} {base : Heap} (T : Txt w K mg) {fd : FuncData} (F : FunD K "_law_of" "_law_of" (defArgs s_lof) (defBody s_lof) (defScope s_lof) [] [] (He.ga K "_law_of") fd) : FnOk P w K mg base (L2N.CX P w) 2 (He.ga K "_law_of") fd ["_law_bag_here", "_law_some"] (spJ K w_lof) := by
  refine F.ok (k := 1) sc_lof len_lof fun cdv A outer s H vs Q E hr h => ?_
  have key : ∃ t, PSs (cxOf (L2N.CX P w) P w K mg base N_lof "_law_of" (defScope s_lof) (He.ga K "_law_of") cdv A outer s H E) (defBody s_lof) t ∧ Ss K (WE' E) t q_lof := by
    exact ex_of ((pss_one (ps_ret (pe_ix (ix_U (hu_of hr)) (pv 1) (pe_cU (ok_ltake T) hr (by decide) T.g__law_take (L2N.takes_of rfl rfl rfl rfl) (pa_cons (pv 0) (pa_cons (pe_callB call_lenU (by rfl) T.n_len (by decide +kernel) (pa_cons (pv 1) pa_nil)) pa_nil))) (fun _ _ => rfl)))))
      ((ss_ret (se_op so_ix se_var (se_callU (fun _ => .nil) (sa_cons se_var (sa_cons (se_cb sf_len (sa_cons se_var sa_nil)) sa_nil))))))
  obtain ⟨t, h1, h2⟩ := key
  exact ⟨t, h1, rd_J (n := 2) (N := N_lof) h2 h⟩
theorem ok_lof {P : Program} {w : World} {K : PySem.W.Frag} {mg : Str → Option Value} {base : Heap} (T : Txt w K mg) : Ok P w K mg base 2 (He.ga K "_law_of") ["_law_bag_here", "_law_some"] [] (spJ K w_lof) := by
  obtain ⟨fd, F⟩ := T.f_lof
  exact ⟨fd, [], fn_lof T F, F.kp, .nil, F.bindsN fun _ _ _ _ _ _ us hl => match us, hl with | [_, _], _ => rfl⟩
abbrev b0_lvalue : SJ :=
  (jRet (jIf (jTest (jOp eqRJ (jVar 1) (jVar 3))) (jOp divJ (jVar 0) (jVar 3)) (jTup (jCons (jOp divJ (jVar 0) (jVar 3)) (jCons (jOp divJ (jVar 1) (jVar 3)) jNil)))))
abbrev b1_lvalue : SJ :=
  (jSeq (jWhile (jTest (jOp gtJ (jVar 2) (jC (.int 0))))
  (jPar 2 3 (jCons (jOp modJ (jCB jInt (jCons (jVar 3) jNil)) (jVar 2)) (jCons (jVar 2) jNil))))
  b0_lvalue)
def q_lvalue : SJ :=
  (jSeq (jPar 2 3 (jCons (jCB jAbs (jCons (jVar 0) jNil)) (jCons (jVar 1) jNil)))
  b1_lvalue)
def qf_lvalue : SJ :=
  (jSeq (jPar 2 3 (jCons (jCB jAbs (jCons (jVar 0) jNil)) (jCons (jVar 1) jNil)))
  (jSeq (jWhile (jTest (jOp gtJ (jVar 2) (jC (.int 0))))
  (jPar 2 3 (jCons (jOp modJ (jCB jInt (jCons (jVar 3) jNil)) (jVar 2)) (jCons (jVar 2) jNil))))
  (jRet (jIf (jTest (jOp eqRJ (jVar 1) (jVar 3))) (jOp divJ (jVar 0) (jVar 3)) (jTup (jCons (jOp divJ (jVar 0) (jVar 3)) (jCons (jOp divJ (jVar 1) (jVar 3)) jNil)))))))
theorem qe_lvalue : qf_lvalue = q_lvalue := rfl
def w_lvalue : WJ := wOf 2 4 q_lvalue
theorem len_lvalue {K : PySem.W.Frag} : ∀ vs H Q E, spJ K w_lvalue vs H Q E → vs.length = 2 := len_J fun _ _ _ _ h => h.1
theorem fn_lvalue {P : Program} {w : World} {K : PySem.W.Frag} {mg : Str → Option Value} {base : Heap} (T : Txt w K mg) {fd : FuncData} (F : FunD K "_law_value" "_law_value" (defArgs s_lvalue) (defBody s_lvalue) (defScope s_lvalue) [] [] (He.ga K "_law_value") fd) : FnOk P w K mg base (L2N.CX P w) 1 (He.ga K "_law_value") fd ["_law_p", "_law_q"] (spJ K w_lvalue) := by
  refine F.ok (k := 0) sc_lvalue len_lvalue fun cdv A outer s H vs Q E hr h => ?_
  have key : ∃ t, PSs (cxOf (L2N.CX P w) P w K mg base N_lvalue "_law_value" (defScope s_lvalue) (He.ga K "_law_value") cdv A outer s H E) (defBody s_lvalue) t ∧ Ss K (WE' E) t qf_lvalue := by
    exact ex_of ((pss_cons (ps_par (i := 2) (j := 3) rfl sc_lvalue.nd rfl rfl (by decide) rfl rfl (pa_cons (pe_callB call_abs (by rfl) T.n_abs (by decide +kernel) (pa_cons (pv 0) pa_nil)) (pa_cons (pv 1) pa_nil)) (by rfl))
  (pss_cons (ps_while (passes_of rfl) (pt_cmpR op_gt (pv 2) pe_int (nomark _))
  (pss_one (ps_par (i := 2) (j := 3) rfl sc_lvalue.nd rfl rfl (by decide) rfl rfl (pa_cons (pe_op op_mod (pe_callTy call_int1 (by rfl) T.n_int (by decide +kernel) (pa_cons (pv 3) pa_nil)) (pv 2)) (pa_cons (pv 2) pa_nil)) (by rfl))))
  (pss_one (ps_ret (pe_ifExp (pt_cmpR (op_eqU (hu65 hr)) (pv 1) (pv 3) (nomark _)) (pe_op op_fdivW (pv 0) (pv 3)) (pe_tup (pa_cons (pe_op op_fdivW (pv 0) (pv 3)) (pa_cons (pe_op op_fdivW (pv 1) (pv 3)) pa_nil)))))))))
      ((ss_seq (ss_par (sa_cons (se_cb sf_abs (sa_cons se_var sa_nil)) (sa_cons se_var sa_nil)))
  (ss_seq (ss_while (sb_test (se_op so_cmp se_var (se_c fun _ => .int _)))
  (ss_par (sa_cons (se_op so_mod (se_cb sf_int (sa_cons se_var sa_nil)) se_var) (sa_cons se_var sa_nil))))
  (ss_ret (se_if (sb_test (se_op so_eq se_var se_var)) (se_op so_div se_var se_var) (se_tup (sa_cons (se_op so_div se_var se_var) (sa_cons (se_op so_div se_var se_var) sa_nil))))))))
  obtain ⟨t, h1, h2⟩ := key
  rw [qe_lvalue] at h2
  exact ⟨t, h1, rd_J (n := 2) (N := N_lvalue) h2 h⟩
theorem ok_lvalue {P : Program} {w : World} {K : PySem.W.Frag} {mg : Str → Option Value} {base : Heap} (T : Txt w K mg) : Ok P w K mg base 1 (He.ga K "_law_value") ["_law_p", "_law_q"] [] (spJ K w_lvalue) := by
  obtain ⟨fd, F⟩ := T.f_lvalue
  exact ⟨fd, [], fn_lvalue T F, F.kp, .nil, F.bindsN fun _ _ _ _ _ _ us hl => match us, hl with | [_, _], _ => rfl⟩
abbrev b0_lnumber : SJ :=
  (jRet (jCall w_lvalue [] (jCons (jOp subJ (jCall w_ltake [] (jCons (jVar 0) (jCons (jC (.int 11)) jNil))) (jC (.int 5))) (jCons (jOp addJ (jC (.int 1)) (jCall w_ltake [] (jCons (jVar 0) (jCons (jC (.int 3)) jNil)))) jNil))))
abbrev b1_lnumber : SJ :=
  (jRet (jCall w_lvalue [] (jCons (jOp subJ (jCall w_ltake [] (jCons (jVar 0) (jCons (jOp addJ (jOp mulJ (jC (.int 2)) (jOp powJ (jC (.int 10)) (jC (.int 20)))) (jC (.int 1))) jNil))) (jOp powJ (jC (.int 10)) (jC (.int 20)))) (jCons (jOp addJ (jC (.int 1)) (jCall w_ltake [] (jCons (jVar 0) (jCons (jOp powJ (jC (.int 10)) (jC (.int 9))) jNil)))) jNil))))
def q_lnumber : SJ :=
  (jSeq (jIfS (jTest (jOp gtJ (jCall w_ltake [] (jCons (jVar 0) (jCons (jC (.int 3)) jNil))) (jC (.int 0))))
  b0_lnumber
  jNext)
  b1_lnumber)
def qf_lnumber : SJ :=
  (jSeq (jIfS (jTest (jOp gtJ (jCall w_ltake [] (jCons (jVar 0) (jCons (jC (.int 3)) jNil))) (jC (.int 0))))
  (jRet (jCall w_lvalue [] (jCons (jOp subJ (jCall w_ltake [] (jCons (jVar 0) (jCons (jC (.int 11)) jNil))) (jC (.int 5))) (jCons (jOp addJ (jC (.int 1)) (jCall w_ltake [] (jCons (jVar 0) (jCons (jC (.int 3)) jNil)))) jNil))))
  jNext)
  (jRet (jCall w_lvalue [] (jCons (jOp subJ (jCall w_ltake [] (jCons (jVar 0) (jCons (jOp addJ (jOp mulJ (jC (.int 2)) (jOp powJ (jC (.int 10)) (jC (.int 20)))) (jC (.int 1))) jNil))) (jOp powJ (jC (.int 10)) (jC (.int 20)))) (jCons (jOp addJ (jC (.int 1)) (jCall w_ltake [] (jCons (jVar 0) (jCons (jOp powJ (jC (.int 10)) (jC (.int 9))) jNil)))) jNil)))))
theorem qe_lnumber : qf_lnumber = q_lnumber := rfl
def w_lnumber : WJ := wOf 1 1 q_lnumber
theorem len_lnumber {K : PySem.W.Frag} : ∀ vs H Q E, spJ K w_lnumber vs H Q E → vs.length = 1 := len_J fun _ _ _ _ h => h.1
theorem fn_lnumber {P : Program} {w : World} {K : PySem.W.Frag} {mg : Str → Option Value} {base : Heap} (T : Txt w K mg) {fd : FuncData} (F : FunD K "_law_number" "_law_number" (defArgs s_lnumber) (defBody s_lnumber) (defScope s_lnumber) [] [] (He.ga K "_law_number") fd) : FnOk P w K mg base (L2N.CX P w) 2 (He.ga K "_law_number") fd ["_law_bag_here"] (spJ K w_lnumber) := by
  refine F.ok (k := 1) sc_lnumber len_lnumber fun cdv A outer s H vs Q E hr h => ?_
  have key : ∃ t, PSs (cxOf (L2N.CX P w) P w K mg base N_lnumber "_law_number" (defScope s_lnumber) (He.ga K "_law_number") cdv A outer s H E) (defBody s_lnumber) t ∧ Ss K (WE' E) t qf_lnumber := by
    exact ex_of ((pss_cons (ps_if (pt_cmpR op_gt (pe_cU (ok_ltake T) hr (by decide) T.g__law_take (L2N.takes_of rfl rfl rfl rfl) (pa_cons (pv 0) (pa_cons pe_int pa_nil))) pe_int (nomark _))
  (pss_one (ps_ret (pe_cU (ok_lvalue T) hr (by decide) T.g__law_value (L2N.takes_of rfl rfl rfl rfl) (pa_cons (pe_op op_sub (pe_cU (ok_ltake T) hr (by decide) T.g__law_take (L2N.takes_of rfl rfl rfl rfl) (pa_cons (pv 0) (pa_cons pe_int pa_nil))) pe_int) (pa_cons (pe_op op_addU pe_int (pe_cU (ok_ltake T) hr (by decide) T.g__law_take (L2N.takes_of rfl rfl rfl rfl) (pa_cons (pv 0) (pa_cons pe_int pa_nil)))) pa_nil)))))
  pss_nil)
  (pss_one (ps_ret (pe_cU (ok_lvalue T) hr (by decide) T.g__law_value (L2N.takes_of rfl rfl rfl rfl) (pa_cons (pe_op op_sub (pe_cU (ok_ltake T) hr (by decide) T.g__law_take (L2N.takes_of rfl rfl rfl rfl) (pa_cons (pv 0) (pa_cons (pe_op op_addU (pe_op op_mulU pe_int (pe_op op_pow pe_int pe_int)) pe_int) pa_nil))) (pe_op op_pow pe_int pe_int)) (pa_cons (pe_op op_addU pe_int (pe_cU (ok_ltake T) hr (by decide) T.g__law_take (L2N.takes_of rfl rfl rfl rfl) (pa_cons (pv 0) (pa_cons (pe_op op_pow pe_int pe_int) pa_nil)))) pa_nil)))))))
      ((ss_seq (ss_if (sb_test (se_op so_cmp (se_callU (fun _ => .nil) (sa_cons se_var (sa_cons (se_c fun _ => .int _) sa_nil))) (se_c fun _ => .int _)))
  (ss_ret (se_callU (fun _ => .nil) (sa_cons (se_op so_sub (se_callU (fun _ => .nil) (sa_cons se_var (sa_cons (se_c fun _ => .int _) sa_nil))) (se_c fun _ => .int _)) (sa_cons (se_op so_add (se_c fun _ => .int _) (se_callU (fun _ => .nil) (sa_cons se_var (sa_cons (se_c fun _ => .int _) sa_nil)))) sa_nil))))
  ss_next)
  (ss_ret (se_callU (fun _ => .nil) (sa_cons (se_op so_sub (se_callU (fun _ => .nil) (sa_cons se_var (sa_cons (se_op so_add (se_op so_mul (se_c fun _ => .int _) (se_op so_pow (se_c fun _ => .int _) (se_c fun _ => .int _))) (se_c fun _ => .int _)) sa_nil))) (se_op so_pow (se_c fun _ => .int _) (se_c fun _ => .int _))) (sa_cons (se_op so_add (se_c fun _ => .int _) (se_callU (fun _ => .nil) (sa_cons se_var (sa_cons (se_op so_pow (se_c fun _ => .int _) (se_c fun _ => .int _)) sa_nil)))) sa_nil))))))
  obtain ⟨t, h1, h2⟩ := key
  rw [qe_lnumber] at h2
  exact ⟨t, h1, rd_J (n := 1) (N := N_lnumber) h2 h⟩
theorem ok_lnumber {P : Program} {w : World} {K : PySem.W.Frag} {mg : Str → Option Value} {base : Heap} (T : Txt w K mg) : Ok P w K mg base 2 (He.ga K "_law_number") ["_law_bag_here"] [] (spJ K w_lnumber) := by
  obtain ⟨fd, F⟩ := T.f_lnumber
  exact ⟨fd, [], fn_lnumber T F, F.kp, .nil, F.bindsN fun _ _ _ _ _ _ us hl => match us, hl with | [_], _ => rfl⟩
abbrev b0_lword : SJ :=
  (jRet (jBM "str" joinJ (jC (.str "")) (jCons (jLc (jRng1 (jCons (jOp addJ (jC (.int 1)) (jCall w_ltake [] (jCons (jVar 0) (jCons (jC (.int 8)) jNil)))) jNil)) (jgName 2) jYes (jCall w_lof [] (jCons (jVar 0) (jCons (jC (.str "abcdefghijklmnopqrstuvwxyz")) jNil))) [1, 2]) jNil)))
def q_lword : SJ :=
  b0_lword
def qf_lword : SJ :=
  (jRet (jBM "str" joinJ (jC (.str "")) (jCons (jLc (jRng1 (jCons (jOp addJ (jC (.int 1)) (jCall w_ltake [] (jCons (jVar 0) (jCons (jC (.int 8)) jNil)))) jNil)) (jgName 2) jYes (jCall w_lof [] (jCons (jVar 0) (jCons (jC (.str "abcdefghijklmnopqrstuvwxyz")) jNil))) [1, 2]) jNil)))
theorem qe_lword : qf_lword = q_lword := rfl
def w_lword : WJ := wOf 1 3 q_lword
theorem len_lword {K : PySem.W.Frag} : ∀ vs H Q E, spJ K w_lword vs H Q E → vs.length = 1 := len_J fun _ _ _ _ h => h.1
theorem fn_lword {P : Program} {w : World} {K : PySem.W.Frag} {mg : Str → Option Value} {base : Heap} (T : Txt w K mg) {fd : FuncData} (F : FunD K "_law_word" "_law_word" (defArgs s_lword) (defBody s_lword) (defScope s_lword) [] [] (He.ga K "_law_word") fd) : FnOk P w K mg base (L2N.CX P w) 3 (He.ga K "_law_word") fd ["_law_bag_here"] (spJ K w_lword) := by
  refine F.ok (k := 2) sc_lword len_lword fun cdv A outer s H vs Q E hr h => ?_
  have key : ∃ t, PSs (cxOf (L2N.CX P w) P w K mg base N_lword "_law_word" (defScope s_lword) (He.ga K "_law_word") cdv A outer s H E) (defBody s_lword) t ∧ Ss K (WE' E) t qf_lword := by
    exact ex_of ((pss_one (ps_ret (pe_bm PySem.F.plainAttrs_str PySem.F.slot_str_join PySem.F.type_str_join mt_joinU pe_str (pa_cons (pe_lc (own := [(".0", 1), ("_law_turn", 2)]) rfl sc_lword.nd (pi_range1 (by rfl) T.n_range (pa_cons (pe_op op_addU pe_int (pe_cU (ok_ltake T) hr (by decide) T.g__law_take (L2N.takes_of rfl rfl rfl rfl) (pa_cons (pv 0) (pa_cons pe_int pa_nil)))) pa_nil)) (blkOk_by (own := [(".0", 1), ("_law_turn", 2)]) (N := N_lword) (sc := defScope s_lword) (by decide +kernel)) (fun _ _ _ _ _ => (pg_name (i := 2) sc_lword.nd rfl (Or.inl rfl))) (fun _ _ _ _ _ => pts_nil) (fun _ _ _ _ _ => (pe_cU (ok_lof T) hr (by decide) T.g__law_of takesN0 (pa_cons (pv 0) (pa_cons pe_str pa_nil))))) pa_nil)))))
      ((ss_ret (se_bm sm_join (se_c fun _ => .str _) (sa_cons (se_lc (vs := [1, 2]) (si_rng1 (sa_cons (se_op so_add (se_c fun _ => .int _) (se_callU (fun _ => .nil) (sa_cons se_var (sa_cons (se_c fun _ => .int _) sa_nil)))) sa_nil)) (sgw_name (by decide)) sb_yes (se_callU (fun _ => .nil) (sa_cons se_var (sa_cons (se_c fun _ => .str _) sa_nil)))) sa_nil))))
  obtain ⟨t, h1, h2⟩ := key
  rw [qe_lword] at h2
  exact ⟨t, h1, rd_J (n := 1) (N := N_lword) h2 h⟩
theorem ok_lword {P : Program} {w : World} {K : PySem.W.Frag} {mg : Str → Option Value} {base : Heap} (T : Txt w K mg) : Ok P w K mg base 3 (He.ga K "_law_word") ["_law_bag_here"] [] (spJ K w_lword) := by
  obtain ⟨fd, F⟩ := T.f_lword
  exact ⟨fd, [], fn_lword T F, F.kp, .nil, F.bindsN fun _ _ _ _ _ _ us hl => match us, hl with | [_], _ => rfl⟩
abbrev b0_lworths : SJ :=
  (jRet (jLc (jRng1 (jCons (jC (.int 2)) jNil)) (jgName 3) jYes (jIf (jTest (jOp eqRJ (jVar 1) (jC (.str "number")))) (jCall w_lnumber [] (jCons (jVar 0) jNil)) (jCall w_lword [] (jCons (jVar 0) jNil))) [2, 3]))
def q_lworths : SJ :=
  b0_lworths
def qf_lworths : SJ :=
  (jRet (jLc (jRng1 (jCons (jC (.int 2)) jNil)) (jgName 3) jYes (jIf (jTest (jOp eqRJ (jVar 1) (jC (.str "number")))) (jCall w_lnumber [] (jCons (jVar 0) jNil)) (jCall w_lword [] (jCons (jVar 0) jNil))) [2, 3]))
theorem qe_lworths : qf_lworths = q_lworths := rfl
def w_lworths : WJ := wOf 2 4 q_lworths
theorem len_lworths {K : PySem.W.Frag} : ∀ vs H Q E, spJ K w_lworths vs H Q E → vs.length = 2 := len_J fun _ _ _ _ h => h.1
theorem fn_lworths {P : Program} {w : World} {K : PySem.W.Frag} {mg : Str → Option Value} {base : Heap} (T : Txt w K mg) {fd : FuncData} (F : FunD K "_law_worths" "_law_worths" (defArgs s_lworths) (defBody s_lworths) (defScope s_lworths) [] [] (He.ga K "_law_worths") fd) : FnOk P w K mg base (L2N.CX P w) 4 (He.ga K "_law_worths") fd ["_law_bag_here", "_law_kind"] (spJ K w_lworths) := by
  refine F.ok (k := 3) sc_lworths len_lworths fun cdv A outer s H vs Q E hr h => ?_
  have key : ∃ t, PSs (cxOf (L2N.CX P w) P w K mg base N_lworths "_law_worths" (defScope s_lworths) (He.ga K "_law_worths") cdv A outer s H E) (defBody s_lworths) t ∧ Ss K (WE' E) t qf_lworths := by
    exact ex_of ((pss_one (ps_ret (pe_lc (own := [(".0", 2), ("_law_turn", 3)]) rfl sc_lworths.nd (pi_range1 (by rfl) T.n_range (pa_cons pe_int pa_nil)) (blkOk_by (own := [(".0", 2), ("_law_turn", 3)]) (N := N_lworths) (sc := defScope s_lworths) (by decide +kernel)) (fun _ _ _ _ _ => (pg_name (i := 3) sc_lworths.nd rfl (Or.inl rfl))) (fun _ _ _ _ _ => pts_nil) (fun _ _ _ _ _ => (pe_ifExp (pt_cmpR (op_eqU (hu65 hr)) (pv 1) pe_str (nomark _)) (pe_cU (ok_lnumber T) hr (by decide) T.g__law_number takesN0 (pa_cons (pv 0) pa_nil)) (pe_cU (ok_lword T) hr (by decide) T.g__law_word takesN0 (pa_cons (pv 0) pa_nil))))))))
      ((ss_ret (se_lc (vs := [2, 3]) (si_rng1 (sa_cons (se_c fun _ => .int _) sa_nil)) (sgw_name (by decide)) sb_yes (se_if (sb_test (se_op so_eq se_var (se_c fun _ => .str _))) (se_callU (fun _ => .nil) (sa_cons se_var sa_nil)) (se_callU (fun _ => .nil) (sa_cons se_var sa_nil))))))
  obtain ⟨t, h1, h2⟩ := key
  rw [qe_lworths] at h2
  exact ⟨t, h1, rd_J (n := 2) (N := N_lworths) h2 h⟩
theorem ok_lworths {P : Program} {w : World} {K : PySem.W.Frag} {mg : Str → Option Value} {base : Heap} (T : Txt w K mg) : Ok P w K mg base 4 (He.ga K "_law_worths") ["_law_bag_here", "_law_kind"] [] (spJ K w_lworths) := by
  obtain ⟨fd, F⟩ := T.f_lworths
  exact ⟨fd, [], fn_lworths T F, F.kp, .nil, F.bindsN fun _ _ _ _ _ _ us hl => match us, hl with | [_, _], _ => rfl⟩
abbrev b0_lwrong : SJ :=
  (jRet (jCall w_lof [] (jCons (jVar 0) (jCons (jOp addJ (jVar 2) (jIf (jTest (jOp eqRJ (jVar 1) (jC (.str "number")))) (jLst (jCons (jC (.str "red")) (jCons (jC (.str "x")) (jCons (jC (.str "3")) jNil)))) (jLst (jCons (jC (.int 3)) (jCons (jC (.int 0)) (jCons (jTup (jCons (jC (.int 1)) (jCons (jC (.int 2)) jNil))) (jCons (jUn negJ (jC (.int 7))) jNil))))))) jNil))))
abbrev b1_lwrong : SJ :=
  (jSeq (jAsg (jLst (jCons (jC (.bl true)) (jCons (jC (.bl false)) (jCons (jLst jNil) (jCons (jTup jNil) (jCons (jTup (jCons (jC (.bl true)) (jCons (jC (.int 2)) jNil))) (jCons (jTup (jCons (jC (.int 2)) (jCons (jC (.int 4)) jNil))) (jCons (jTup (jCons (jC (.int 3)) (jCons (jC (.int 1)) jNil))) (jCons (jTup (jCons (jC (.int 1)) (jCons (jUn negJ (jC (.int 2))) jNil))) (jCons (jC (.str "")) (jCons (jC (.str "Red")) (jCons (jC (.str "a b")) (jCons (jC (.str "abcdefghi")) (jCons (jC (.str "a1")) (jCons (jLst (jCons (jC (.int 3)) jNil)) (jCons (jTup (jCons (jC (.str "red")) jNil)) (jCons jDct0 jNil))))))))))))))))) (jgName 2))
  b0_lwrong)
def q_lwrong : SJ :=
  b1_lwrong
def qf_lwrong : SJ :=
  (jSeq (jAsg (jLst (jCons (jC (.bl true)) (jCons (jC (.bl false)) (jCons (jLst jNil) (jCons (jTup jNil) (jCons (jTup (jCons (jC (.bl true)) (jCons (jC (.int 2)) jNil))) (jCons (jTup (jCons (jC (.int 2)) (jCons (jC (.int 4)) jNil))) (jCons (jTup (jCons (jC (.int 3)) (jCons (jC (.int 1)) jNil))) (jCons (jTup (jCons (jC (.int 1)) (jCons (jUn negJ (jC (.int 2))) jNil))) (jCons (jC (.str "")) (jCons (jC (.str "Red")) (jCons (jC (.str "a b")) (jCons (jC (.str "abcdefghi")) (jCons (jC (.str "a1")) (jCons (jLst (jCons (jC (.int 3)) jNil)) (jCons (jTup (jCons (jC (.str "red")) jNil)) (jCons jDct0 jNil))))))))))))))))) (jgName 2))
  (jRet (jCall w_lof [] (jCons (jVar 0) (jCons (jOp addJ (jVar 2) (jIf (jTest (jOp eqRJ (jVar 1) (jC (.str "number")))) (jLst (jCons (jC (.str "red")) (jCons (jC (.str "x")) (jCons (jC (.str "3")) jNil)))) (jLst (jCons (jC (.int 3)) (jCons (jC (.int 0)) (jCons (jTup (jCons (jC (.int 1)) (jCons (jC (.int 2)) jNil))) (jCons (jUn negJ (jC (.int 7))) jNil))))))) jNil)))))
theorem qe_lwrong : qf_lwrong = q_lwrong := rfl
def w_lwrong : WJ := wOf 2 3 q_lwrong
theorem len_lwrong {K : PySem.W.Frag} : ∀ vs H Q E, spJ K w_lwrong vs H Q E → vs.length = 2 := len_J fun _ _ _ _ h => h.1
theorem fn_lwrong {P : Program} {w : World} {K : PySem.W.Frag} {mg : Str → Option Value} {base : Heap} (T : Txt w K mg) {fd : FuncData} (F : FunD K "_law_wrong" "_law_wrong" (defArgs s_lwrong) (defBody s_lwrong) (defScope s_lwrong) [] [] (He.ga K "_law_wrong") fd) : FnOk P w K mg base (L2N.CX P w) 3 (He.ga K "_law_wrong") fd ["_law_bag_here", "_law_kind"] (spJ K w_lwrong) := by
  refine F.ok (k := 2) sc_lwrong len_lwrong fun cdv A outer s H vs Q E hr h => ?_
  have key : ∃ t, PSs (cxOf (L2N.CX P w) P w K mg base N_lwrong "_law_wrong" (defScope s_lwrong) (He.ga K "_law_wrong") cdv A outer s H E) (defBody s_lwrong) t ∧ Ss K (WE' E) t qf_lwrong := by
    exact ex_of ((pss_cons (ps_set (i := 2) sc_lwrong.nd rfl (Or.inl rfl) (pe_lst (pa_cons pe_bl (pa_cons pe_bl (pa_cons (pe_lst pa_nil) (pa_cons (pe_tup pa_nil) (pa_cons (pe_tup (pa_cons pe_bl (pa_cons pe_int pa_nil))) (pa_cons (pe_tup (pa_cons pe_int (pa_cons pe_int pa_nil))) (pa_cons (pe_tup (pa_cons pe_int (pa_cons pe_int pa_nil))) (pa_cons (pe_tup (pa_cons pe_int (pa_cons (pe_un un_neg pe_int) pa_nil))) (pa_cons pe_str (pa_cons pe_str (pa_cons pe_str (pa_cons pe_str (pa_cons pe_str (pa_cons (pe_lst (pa_cons pe_int pa_nil)) (pa_cons (pe_tup (pa_cons pe_str pa_nil)) (pa_cons pe_dnewK pa_nil))))))))))))))))))
  (pss_one (ps_ret (pe_cU (ok_lof T) hr (by decide) T.g__law_of (L2N.takes_of rfl rfl rfl rfl) (pa_cons (pv 0) (pa_cons (pe_op op_addU (pv 2) (pe_ifExp (pt_cmpR (op_eqU (hu65 hr)) (pv 1) pe_str (nomark _)) (pe_lst (pa_cons pe_str (pa_cons pe_str (pa_cons pe_str pa_nil)))) (pe_lst (pa_cons pe_int (pa_cons pe_int (pa_cons (pe_tup (pa_cons pe_int (pa_cons pe_int pa_nil))) (pa_cons (pe_un un_neg pe_int) pa_nil))))))) pa_nil)))))))
      ((ss_seq (ss_asg (se_lst (sa_cons (se_c fun _ => .bl _) (sa_cons (se_c fun _ => .bl _) (sa_cons (se_lst sa_nil) (sa_cons (se_tup sa_nil) (sa_cons (se_tup (sa_cons (se_c fun _ => .bl _) (sa_cons (se_c fun _ => .int _) sa_nil))) (sa_cons (se_tup (sa_cons (se_c fun _ => .int _) (sa_cons (se_c fun _ => .int _) sa_nil))) (sa_cons (se_tup (sa_cons (se_c fun _ => .int _) (sa_cons (se_c fun _ => .int _) sa_nil))) (sa_cons (se_tup (sa_cons (se_c fun _ => .int _) (sa_cons (se_un so1_neg (se_c fun _ => .int _)) sa_nil))) (sa_cons (se_c fun _ => .str _) (sa_cons (se_c fun _ => .str _) (sa_cons (se_c fun _ => .str _) (sa_cons (se_c fun _ => .str _) (sa_cons (se_c fun _ => .str _) (sa_cons (se_lst (sa_cons (se_c fun _ => .int _) sa_nil)) (sa_cons (se_tup (sa_cons (se_c fun _ => .str _) sa_nil)) (sa_cons se_dct0 sa_nil))))))))))))))))) sg_name)
  (ss_ret (se_callU (fun _ => .nil) (sa_cons se_var (sa_cons (se_op so_add se_var (se_if (sb_test (se_op so_eq se_var (se_c fun _ => .str _))) (se_lst (sa_cons (se_c fun _ => .str _) (sa_cons (se_c fun _ => .str _) (sa_cons (se_c fun _ => .str _) sa_nil)))) (se_lst (sa_cons (se_c fun _ => .int _) (sa_cons (se_c fun _ => .int _) (sa_cons (se_tup (sa_cons (se_c fun _ => .int _) (sa_cons (se_c fun _ => .int _) sa_nil))) (sa_cons (se_un so1_neg (se_c fun _ => .int _)) sa_nil))))))) sa_nil))))))
  obtain ⟨t, h1, h2⟩ := key
  rw [qe_lwrong] at h2
  exact ⟨t, h1, rd_J (n := 2) (N := N_lwrong) h2 h⟩
theorem ok_lwrong {P : Program} {w : World} {K : PySem.W.Frag} {mg : Str → Option Value} {base : Heap} (T : Txt w K mg) : Ok P w K mg base 3 (He.ga K "_law_wrong") ["_law_bag_here", "_law_kind"] [] (spJ K w_lwrong) := by
  obtain ⟨fd, F⟩ := T.f_lwrong
  exact ⟨fd, [], fn_lwrong T F, F.kp, .nil, F.bindsN fun _ _ _ _ _ _ us hl => match us, hl with | [_, _], _ => rfl⟩
theorem len_BadField__init {K : PySem.W.Frag} : ∀ vs H Q E, spErr K (He.ga K "BadField") "name" vs H Q E → vs.length = 2 := by
  rintro vs H Q E ⟨a, y, rfl, _⟩
  rfl
theorem ok_BadField__init {P : Program} {w : World} {K : PySem.W.Frag} {mg : Str → Option Value} {base : Heap} (T : Txt w K mg) : Ok P w K mg base 1 (He.ma K (He.ga K "BadField") "__init__") ["self", "name"] [] (spErr K (He.ga K "BadField") "name") :=
  okF T.f_BadField__init sc_BadField__init len_BadField__init (fun _ _ _ _ _ _ us hl => match us, hl with | [_, _], _ => rfl) (t := fun E => tOst K "name" (tVar 0) (tVar 1)) (fun f cdv A outer s H E hr => (pss_one (ps_ost (pv 0) (pv 1)))) (by
    rintro vs H Q E ⟨a, y, rfl, ha, T, nf, q⟩
    exact ⟨_, rfl, _, rfl, a, _, rfl, T, nf, .inl ⟨ha, fun dx h1 h2 => q dx h1 h2⟩⟩)
theorem len_BadValue__init {K : PySem.W.Frag} : ∀ vs H Q E, spErr K (He.ga K "BadValue") "name" vs H Q E → vs.length = 2 := by
  rintro vs H Q E ⟨a, y, rfl, _⟩
  rfl
theorem ok_BadValue__init {P : Program} {w : World} {K : PySem.W.Frag} {mg : Str → Option Value} {base : Heap} (T : Txt w K mg) : Ok P w K mg base 1 (He.ma K (He.ga K "BadValue") "__init__") ["self", "name"] [] (spErr K (He.ga K "BadValue") "name") :=
  okF T.f_BadValue__init sc_BadValue__init len_BadValue__init (fun _ _ _ _ _ _ us hl => match us, hl with | [_, _], _ => rfl) (t := fun E => tOst K "name" (tVar 0) (tVar 1)) (fun f cdv A outer s H E hr => (pss_one (ps_ost (pv 0) (pv 1)))) (by
    rintro vs H Q E ⟨a, y, rfl, ha, T, nf, q⟩
    exact ⟨_, rfl, _, rfl, a, _, rfl, T, nf, .inl ⟨ha, fun dx h1 h2 => q dx h1 h2⟩⟩)
def q_is_integer : SJ :=
  (jRet (jAndV (jCB isiJ (jCons (jVar 0) (jCons (jC (.ty "int")) jNil))) (jNotV (jCB isiJ (jCons (jVar 0) (jCons (jC (.ty "bool")) jNil))))))
def w_is_integer : WJ := wOf 1 1 q_is_integer
theorem len_is_integer {K : PySem.W.Frag} : ∀ vs H Q E, spJ K w_is_integer vs H Q E → vs.length = 1 := len_J fun _ _ _ _ h => h.1
theorem fn_is_integer {P : Program} {w : World} {K : PySem.W.Frag} {mg : Str → Option Value} {base : Heap} (T : Txt w K mg) {fd : FuncData} (F : FunD K "is_integer" "is_integer" (defArgs s_is_integer) (defBody s_is_integer) (defScope s_is_integer) [] [] (He.ga K "is_integer") fd) : FnOk P w K mg base (L2N.CX P w) 1 (He.ga K "is_integer") fd ["thing"] (spJ K w_is_integer) := by
  refine F.ok (k := 0) sc_is_integer len_is_integer fun cdv A outer s H vs Q E hr h => ?_
  have key : ∃ t, PSs (cxOf (L2N.CX P w) P w K mg base N_is_integer "is_integer" (defScope s_is_integer) (He.ga K "is_integer") cdv A outer s H E) (defBody s_is_integer) t ∧ Ss K (WE' E) t q_is_integer := by
    exact ex_of ((pss_one (ps_ret (pe_and (pe_callB call_isi (by rfl) T.n_isinstance (by decide +kernel) (pa_cons (pv 0) (pa_cons (pe_ty T.n_int (by decide +kernel)) pa_nil))) (pe_one (pe_not (pe_callB call_isi (by rfl) T.n_isinstance (by decide +kernel) (pa_cons (pv 0) (pa_cons (pe_ty T.n_bool (by decide +kernel)) pa_nil)))))))))
      ((ss_ret (se_andV (se_cb sf_isi (sa_cons se_var (sa_cons (se_c fun _ => .ty _) sa_nil))) (se_notV (se_cb sf_isi (sa_cons se_var (sa_cons (se_c fun _ => .ty _) sa_nil)))))))
  obtain ⟨t, h1, h2⟩ := key
  exact ⟨t, h1, rd_J (n := 1) (N := N_is_integer) h2 h⟩
theorem ok_is_integer {P : Program} {w : World} {K : PySem.W.Frag} {mg : Str → Option Value} {base : Heap} (T : Txt w K mg) : Ok P w K mg base 1 (He.ga K "is_integer") ["thing"] [] (spJ K w_is_integer) := by
  obtain ⟨fd, F⟩ := T.f_is_integer
  exact ⟨fd, [], fn_is_integer T F, F.kp, .nil, F.bindsN fun _ _ _ _ _ _ us hl => match us, hl with | [_], _ => rfl⟩
abbrev b0_common_divisor : SJ :=
  (jSeq (jPar 2 3 (jCons (jCB jAbs (jCons (jVar 0) jNil)) (jCons (jVar 1) jNil)))
  (jSeq (jWhile (jTest (jOp gtJ (jVar 2) (jC (.int 0))))
  (jPar 2 3 (jCons (jOp modJ (jVar 3) (jVar 2)) (jCons (jVar 2) jNil))))
  (jRet (jVar 3))))
def q_common_divisor : SJ :=
  b0_common_divisor
def qf_common_divisor : SJ :=
  (jSeq (jPar 2 3 (jCons (jCB jAbs (jCons (jVar 0) jNil)) (jCons (jVar 1) jNil)))
  (jSeq (jWhile (jTest (jOp gtJ (jVar 2) (jC (.int 0))))
  (jPar 2 3 (jCons (jOp modJ (jVar 3) (jVar 2)) (jCons (jVar 2) jNil))))
  (jRet (jVar 3))))
theorem qe_common_divisor : qf_common_divisor = q_common_divisor := rfl
def w_common_divisor : WJ := wOf 2 4 q_common_divisor
theorem len_common_divisor {K : PySem.W.Frag} : ∀ vs H Q E, spJ K w_common_divisor vs H Q E → vs.length = 2 := len_J fun _ _ _ _ h => h.1
theorem fn_common_divisor {P : Program} {w : World} {K : PySem.W.Frag} {mg : Str → Option Value} {base : Heap} (T : Txt w K mg) {fd : FuncData} (F : FunD K "common_divisor" "common_divisor" (defArgs s_common_divisor) (defBody s_common_divisor) (defScope s_common_divisor) [] [] (He.ga K "common_divisor") fd) : FnOk P w K mg base (L2N.CX P w) 1 (He.ga K "common_divisor") fd ["one", "other"] (spJ K w_common_divisor) := by
  refine F.ok (k := 0) sc_common_divisor len_common_divisor fun cdv A outer s H vs Q E hr h => ?_
  have key : ∃ t, PSs (cxOf (L2N.CX P w) P w K mg base N_common_divisor "common_divisor" (defScope s_common_divisor) (He.ga K "common_divisor") cdv A outer s H E) (defBody s_common_divisor) t ∧ Ss K (WE' E) t qf_common_divisor := by
    exact ex_of ((pss_cons (ps_par (i := 2) (j := 3) rfl sc_common_divisor.nd rfl rfl (by decide) rfl rfl (pa_cons (pe_callB call_abs (by rfl) T.n_abs (by decide +kernel) (pa_cons (pv 0) pa_nil)) (pa_cons (pv 1) pa_nil)) (by rfl))
  (pss_cons (ps_while (passes_of rfl) (pt_cmpR op_gt (pv 2) pe_int (nomark _))
  (pss_one (ps_par (i := 2) (j := 3) rfl sc_common_divisor.nd rfl rfl (by decide) rfl rfl (pa_cons (pe_op op_mod (pv 3) (pv 2)) (pa_cons (pv 2) pa_nil)) (by rfl))))
  (pss_one (ps_ret (pv 3))))))
      ((ss_seq (ss_par (sa_cons (se_cb sf_abs (sa_cons se_var sa_nil)) (sa_cons se_var sa_nil)))
  (ss_seq (ss_while (sb_test (se_op so_cmp se_var (se_c fun _ => .int _)))
  (ss_par (sa_cons (se_op so_mod se_var se_var) (sa_cons se_var sa_nil))))
  (ss_ret se_var))))
  obtain ⟨t, h1, h2⟩ := key
  rw [qe_common_divisor] at h2
  exact ⟨t, h1, rd_J (n := 2) (N := N_common_divisor) h2 h⟩
theorem ok_common_divisor {P : Program} {w : World} {K : PySem.W.Frag} {mg : Str → Option Value} {base : Heap} (T : Txt w K mg) : Ok P w K mg base 1 (He.ga K "common_divisor") ["one", "other"] [] (spJ K w_common_divisor) := by
  obtain ⟨fd, F⟩ := T.f_common_divisor
  exact ⟨fd, [], fn_common_divisor T F, F.kp, .nil, F.bindsN fun _ _ _ _ _ _ us hl => match us, hl with | [_, _], _ => rfl⟩
abbrev b0_is_number : SJ :=
  (jRet (jAndV (jOp geJ (jOp ixJ (jVar 0) (jC (.int 1))) (jC (.int 2))) (jOp eqRJ (jCall w_common_divisor [] (jCons (jOp ixJ (jVar 0) (jC (.int 0))) (jCons (jOp ixJ (jVar 0) (jC (.int 1))) jNil))) (jC (.int 1)))))
abbrev b1_is_number : SJ :=
  (jSeq (jIfS (jOr (jTest (jOp neRJ (jCB lenJ (jCons (jVar 0) jNil)) (jC (.int 2)))) (jOr (jNot (jTruth (jCall w_is_integer [] (jCons (jOp ixJ (jVar 0) (jC (.int 0))) jNil)))) (jNot (jTruth (jCall w_is_integer [] (jCons (jOp ixJ (jVar 0) (jC (.int 1))) jNil))))))
  (jRet (jC (.bl false)))
  jNext)
  b0_is_number)
abbrev b2_is_number : SJ :=
  (jSeq (jIfS (jNot (jTruth (jCB isiJ (jCons (jVar 0) (jCons (jC (.ty "tuple")) jNil)))))
  (jRet (jCall w_is_integer [] (jCons (jVar 0) jNil)))
  jNext)
  b1_is_number)
def q_is_number : SJ :=
  b2_is_number
def qf_is_number : SJ :=
  (jSeq (jIfS (jNot (jTruth (jCB isiJ (jCons (jVar 0) (jCons (jC (.ty "tuple")) jNil)))))
  (jRet (jCall w_is_integer [] (jCons (jVar 0) jNil)))
  jNext)
  (jSeq (jIfS (jOr (jTest (jOp neRJ (jCB lenJ (jCons (jVar 0) jNil)) (jC (.int 2)))) (jOr (jNot (jTruth (jCall w_is_integer [] (jCons (jOp ixJ (jVar 0) (jC (.int 0))) jNil)))) (jNot (jTruth (jCall w_is_integer [] (jCons (jOp ixJ (jVar 0) (jC (.int 1))) jNil))))))
  (jRet (jC (.bl false)))
  jNext)
  (jRet (jAndV (jOp geJ (jOp ixJ (jVar 0) (jC (.int 1))) (jC (.int 2))) (jOp eqRJ (jCall w_common_divisor [] (jCons (jOp ixJ (jVar 0) (jC (.int 0))) (jCons (jOp ixJ (jVar 0) (jC (.int 1))) jNil))) (jC (.int 1)))))))
theorem qe_is_number : qf_is_number = q_is_number := rfl
def w_is_number : WJ := wOf 1 1 q_is_number
theorem len_is_number {K : PySem.W.Frag} : ∀ vs H Q E, spJ K w_is_number vs H Q E → vs.length = 1 := len_J fun _ _ _ _ h => h.1
theorem fn_is_number {P : Program} {w : World} {K : PySem.W.Frag} {mg : Str → Option Value} {base : Heap} (T : Txt w K mg) {fd : FuncData} (F : FunD K "is_number" "is_number" (defArgs s_is_number) (defBody s_is_number) (defScope s_is_number) [] [] (He.ga K "is_number") fd) : FnOk P w K mg base (L2N.CX P w) 2 (He.ga K "is_number") fd ["thing"] (spJ K w_is_number) := by
  refine F.ok (k := 1) sc_is_number len_is_number fun cdv A outer s H vs Q E hr h => ?_
  have key : ∃ t, PSs (cxOf (L2N.CX P w) P w K mg base N_is_number "is_number" (defScope s_is_number) (He.ga K "is_number") cdv A outer s H E) (defBody s_is_number) t ∧ Ss K (WE' E) t qf_is_number := by
    exact ex_of ((pss_cons (ps_if (pt_not (pt_tru (pe_callB call_isi (by rfl) T.n_isinstance (by decide +kernel) (pa_cons (pv 0) (pa_cons (pe_ty T.n_tuple (by decide +kernel)) pa_nil)))))
  (pss_one (ps_ret (pe_cU (ok_is_integer T) hr (by decide) T.g_is_integer (L2N.takes_of rfl rfl rfl rfl) (pa_cons (pv 0) pa_nil))))
  pss_nil)
  (pss_cons (ps_if (PW.pt (pw_or (pt_cmpR (op_neU (hu65 hr)) (pe_callB call_lenU (by rfl) T.n_len (by decide +kernel) (pa_cons (pv 0) pa_nil)) pe_int (nomark _)) (pw_or (pt_not (pt_tru (pe_cU (ok_is_integer T) hr (by decide) T.g_is_integer (L2N.takes_of rfl rfl rfl rfl) (pa_cons (pe_ix (ix_U (hu_of hr)) (pv 0) pe_int (fun _ _ => rfl)) pa_nil)))) (pw_or1 (pt_not (pt_tru (pe_cU (ok_is_integer T) hr (by decide) T.g_is_integer (L2N.takes_of rfl rfl rfl rfl) (pa_cons (pe_ix (ix_U (hu_of hr)) (pv 0) pe_int (fun _ _ => rfl)) pa_nil))))))))
  (pss_one (ps_ret pe_bl))
  pss_nil)
  (pss_one (ps_ret (pe_and (pe_cmpR op_ge (pe_ix (ix_U (hu_of hr)) (pv 0) pe_int (fun _ _ => rfl)) pe_int (nomark _)) (pe_one (pe_cmpR (op_eqU (hu65 hr)) (pe_cU (ok_common_divisor T) hr (by decide) T.g_common_divisor (L2N.takes_of rfl rfl rfl rfl) (pa_cons (pe_ix (ix_U (hu_of hr)) (pv 0) pe_int (fun _ _ => rfl)) (pa_cons (pe_ix (ix_U (hu_of hr)) (pv 0) pe_int (fun _ _ => rfl)) pa_nil))) pe_int (nomark _)))))))))
      ((ss_seq (ss_if (sb_not (sb_truth (se_cb sf_isi (sa_cons se_var (sa_cons (se_c fun _ => .ty _) sa_nil)))))
  (ss_ret (se_callU (fun _ => .nil) (sa_cons se_var sa_nil)))
  ss_next)
  (ss_seq (ss_if (sb_or (sb_test (se_op so_ne (se_cb sf_len (sa_cons se_var sa_nil)) (se_c fun _ => .int _))) (sb_or (sb_not (sb_truth (se_callU (fun _ => .nil) (sa_cons (se_op so_ix se_var (se_c fun _ => .int _)) sa_nil)))) (sb_not (sb_truth (se_callU (fun _ => .nil) (sa_cons (se_op so_ix se_var (se_c fun _ => .int _)) sa_nil))))))
  (ss_ret (se_c fun _ => .bl _))
  ss_next)
  (ss_ret (se_andV (se_op so_cmp (se_op so_ix se_var (se_c fun _ => .int _)) (se_c fun _ => .int _)) (se_op so_eq (se_callU (fun _ => .nil) (sa_cons (se_op so_ix se_var (se_c fun _ => .int _)) (sa_cons (se_op so_ix se_var (se_c fun _ => .int _)) sa_nil))) (se_c fun _ => .int _)))))))
  obtain ⟨t, h1, h2⟩ := key
  rw [qe_is_number] at h2
  exact ⟨t, h1, rd_J (n := 1) (N := N_is_number) h2 h⟩
theorem ok_is_number {P : Program} {w : World} {K : PySem.W.Frag} {mg : Str → Option Value} {base : Heap} (T : Txt w K mg) : Ok P w K mg base 2 (He.ga K "is_number") ["thing"] [] (spJ K w_is_number) := by
  obtain ⟨fd, F⟩ := T.f_is_number
  exact ⟨fd, [], fn_is_number T F, F.kp, .nil, F.bindsN fun _ _ _ _ _ _ us hl => match us, hl with | [_], _ => rfl⟩
def q_is_value : SJ :=
  (jRet (jIf (jTest (jOp eqRJ (jVar 1) (jC (.str "number")))) (jCall w_is_number [] (jCons (jVar 0) jNil)) (jCall w_is_word [] (jCons (jVar 0) jNil))))
def w_is_value : WJ := wOf 2 2 q_is_value
theorem len_is_value {K : PySem.W.Frag} : ∀ vs H Q E, spJ K w_is_value vs H Q E → vs.length = 2 := len_J fun _ _ _ _ h => h.1
theorem fn_is_value {P : Program} {w : World} {K : PySem.W.Frag} {mg : Str → Option Value} {base : Heap} (T : Txt w K mg) {fd : FuncData} (F : FunD K "is_value" "is_value" (defArgs s_is_value) (defBody s_is_value) (defScope s_is_value) [] [] (He.ga K "is_value") fd) : FnOk P w K mg base (L2N.CX P w) 3 (He.ga K "is_value") fd ["thing", "kind"] (spJ K w_is_value) := by
  refine F.ok (k := 2) sc_is_value len_is_value fun cdv A outer s H vs Q E hr h => ?_
  have key : ∃ t, PSs (cxOf (L2N.CX P w) P w K mg base N_is_value "is_value" (defScope s_is_value) (He.ga K "is_value") cdv A outer s H E) (defBody s_is_value) t ∧ Ss K (WE' E) t q_is_value := by
    exact ex_of ((pss_one (ps_ret (pe_ifExp (pt_cmpR (op_eqU (hu65 hr)) (pv 1) pe_str (nomark _)) (pe_cU (ok_is_number T) hr (by decide) T.g_is_number (L2N.takes_of rfl rfl rfl rfl) (pa_cons (pv 0) pa_nil)) (pe_cU (ok_is_word T) hr (by decide) T.g_is_word (L2N.takes_of rfl rfl rfl rfl) (pa_cons (pv 0) pa_nil))))))
      ((ss_ret (se_if (sb_test (se_op so_eq se_var (se_c fun _ => .str _))) (se_callU (fun _ => .nil) (sa_cons se_var sa_nil)) (se_callU (fun _ => .nil) (sa_cons se_var sa_nil)))))
  obtain ⟨t, h1, h2⟩ := key
  exact ⟨t, h1, rd_J (n := 2) (N := N_is_value) h2 h⟩
theorem ok_is_value {P : Program} {w : World} {K : PySem.W.Frag} {mg : Str → Option Value} {base : Heap} (T : Txt w K mg) : Ok P w K mg base 3 (He.ga K "is_value") ["thing", "kind"] [] (spJ K w_is_value) := by
  obtain ⟨fd, F⟩ := T.f_is_value
  exact ⟨fd, [], fn_is_value T F, F.kp, .nil, F.bindsN fun _ _ _ _ _ _ us hl => match us, hl with | [_, _], _ => rfl⟩
def q_may_stand : SJ :=
  (jRet (jOrV (jIsN (jVar 0)) (jCall w_is_value [] (jCons (jVar 0) (jCons (jVar 1) jNil)))))
def w_may_stand : WJ := wOf 2 2 q_may_stand
theorem len_may_stand {K : PySem.W.Frag} : ∀ vs H Q E, spJ K w_may_stand vs H Q E → vs.length = 2 := len_J fun _ _ _ _ h => h.1
theorem fn_may_stand {P : Program} {w : World} {K : PySem.W.Frag} {mg : Str → Option Value} {base : Heap} (T : Txt w K mg) {fd : FuncData} (F : FunD K "may_stand" "may_stand" (defArgs s_may_stand) (defBody s_may_stand) (defScope s_may_stand) [] [] (He.ga K "may_stand") fd) : FnOk P w K mg base (L2N.CX P w) 4 (He.ga K "may_stand") fd ["thing", "kind"] (spJ K w_may_stand) := by
  refine F.ok (k := 3) sc_may_stand len_may_stand fun cdv A outer s H vs Q E hr h => ?_
  have key : ∃ t, PSs (cxOf (L2N.CX P w) P w K mg base N_may_stand "may_stand" (defScope s_may_stand) (He.ga K "may_stand") cdv A outer s H E) (defBody s_may_stand) t ∧ Ss K (WE' E) t q_may_stand := by
    exact ex_of ((pss_one (ps_ret (pe_or (pe_cmp (pc_isN (pv 0)) rfl) (pe_one (pe_cU (ok_is_value T) hr (by decide) T.g_is_value (L2N.takes_of rfl rfl rfl rfl) (pa_cons (pv 0) (pa_cons (pv 1) pa_nil))))))))
      ((ss_ret (se_orV (se_isN se_var) (se_callU (fun _ => .nil) (sa_cons se_var (sa_cons se_var sa_nil))))))
  obtain ⟨t, h1, h2⟩ := key
  exact ⟨t, h1, rd_J (n := 2) (N := N_may_stand) h2 h⟩
theorem ok_may_stand {P : Program} {w : World} {K : PySem.W.Frag} {mg : Str → Option Value} {base : Heap} (T : Txt w K mg) : Ok P w K mg base 4 (He.ga K "may_stand") ["thing", "kind"] [] (spJ K w_may_stand) := by
  obtain ⟨fd, F⟩ := T.f_may_stand
  exact ⟨fd, [], fn_may_stand T F, F.kp, .nil, F.bindsN fun _ _ _ _ _ _ us hl => match us, hl with | [_, _], _ => rfl⟩
abbrev b0_Layout_fill : SJ :=
  (jIfS (jAnd (jTest (jOp inRJ (jVar 2) (jVar 1))) (jNot (jTruth (jCall w_may_stand [] (jCons (jOp ixJ (jVar 1) (jVar 2)) (jCons (jOp ixJ (jFld ["Layout"] (jVar 0) "_kinds") (jVar 2)) jNil))))))
  (jRaise1 "BadValue" "name" (jCons (jVar 2) jNil))
  jNext)
abbrev b1_Layout_fill : SJ :=
  (jSeq (jFor (jIU (jFld ["Layout"] (jVar 0) "names")) (jgName 2)
  b0_Layout_fill)
  (jRet (jDcO (jIU (jFld ["Layout"] (jVar 0) "names")) (jgName 2) jYes (jVar 2) (jBMD getDJ (jVar 1) (jCons (jVar 2) jNil)) [3, 2])))
abbrev b2_Layout_fill : SJ :=
  (jSeq (jFor (jKeys (jVar 1)) (jgName 2)
  (jIfS (jTest (jOp notInRJ (jVar 2) (jFld ["Layout"] (jVar 0) "names")))
  (jRaise1 "BadField" "name" (jCons (jVar 2) jNil))
  jNext))
  b1_Layout_fill)
def q_Layout_fill : SJ :=
  b2_Layout_fill
def qf_Layout_fill : SJ :=
  (jSeq (jFor (jKeys (jVar 1)) (jgName 2)
  (jIfS (jTest (jOp notInRJ (jVar 2) (jFld ["Layout"] (jVar 0) "names")))
  (jRaise1 "BadField" "name" (jCons (jVar 2) jNil))
  jNext))
  (jSeq (jFor (jIU (jFld ["Layout"] (jVar 0) "names")) (jgName 2)
  (jIfS (jAnd (jTest (jOp inRJ (jVar 2) (jVar 1))) (jNot (jTruth (jCall w_may_stand [] (jCons (jOp ixJ (jVar 1) (jVar 2)) (jCons (jOp ixJ (jFld ["Layout"] (jVar 0) "_kinds") (jVar 2)) jNil))))))
  (jRaise1 "BadValue" "name" (jCons (jVar 2) jNil))
  jNext))
  (jRet (jDcO (jIU (jFld ["Layout"] (jVar 0) "names")) (jgName 2) jYes (jVar 2) (jBMD getDJ (jVar 1) (jCons (jVar 2) jNil)) [3, 2]))))
theorem qe_Layout_fill : qf_Layout_fill = q_Layout_fill := rfl
def w_Layout_fill : WJ := wOf 2 4 q_Layout_fill
theorem okw_Layout_fill {P : Program} {w : World} {K : PySem.W.Frag} {mg : Str → Option Value} {base : Heap} (T : Txt w K mg) : OkW P w K mg base 5 (He.ma K (He.ga K "Layout") "fill") "fill" "Layout.fill" (defArgs s_Layout_fill) (defBody s_Layout_fill) (defScope s_Layout_fill) "self" "values" (spJ K w_Layout_fill) := by
  obtain ⟨fd, F⟩ := T.f_Layout_fill
  refine okW_of F (k := 4) sc_Layout_fill fun cdv A outer s H vs Q E hr h => ?_
  have key : ∃ t, PSs (cxOf (L2N.CX P w) P w K mg base N_Layout_fill "Layout.fill" (defScope s_Layout_fill) (He.ma K (He.ga K "Layout") "fill") cdv A outer s H E) (defBody s_Layout_fill) t ∧ Ss K (WE' E) t qf_Layout_fill := by
    exact ex_of ((pss_cons (ps_for (passes_of rfl) rfl (pi_keysL (pv 1)) (pg_name (i := 2) sc_Layout_fill.nd rfl (Or.inl rfl))
  (pss_one (ps_if (pt_cmpR (op_notInU (hu65 hr)) (pv 2) (pe_fld (pv 0) rfl) rfl)
  (pss_one (L2N.ps_raise (W := (fun cl d _ H => E cl d H)) rfl (L2N.takes_of rfl rfl rfl rfl) (pmk_err T.e_BadField (ok_BadField__init T) hr (by decide) T.g_BadField (pa_cons (pv 2) pa_nil))))
  pss_nil)))
  (pss_cons (ps_for (passes_of rfl) rfl (pi_U (pe_fld (pv 0) rfl)) (pg_name (i := 2) sc_Layout_fill.nd rfl (Or.inl rfl))
  (pss_one (ps_if (PW.pt (pw_and (pt_cmpR (op_inU (hu65 hr)) (pv 2) (pv 1) rfl) (pw_and1 (pt_not (pt_tru (pe_cU (ok_may_stand T) hr (by decide) T.g_may_stand (L2N.takes_of rfl rfl rfl rfl) (pa_cons (pe_ix (ix_U (hu_of hr)) (pv 1) (pv 2) (fun _ _ => rfl)) (pa_cons (pe_ix (ix_U (hu_of hr)) (pe_fld (pv 0) rfl) (pv 2) (fun _ _ => rfl)) pa_nil))))))))
  (pss_one (L2N.ps_raise (W := (fun cl d _ H => E cl d H)) rfl (L2N.takes_of rfl rfl rfl rfl) (pmk_err T.e_BadValue (ok_BadValue__init T) hr (by decide) T.g_BadValue (pa_cons (pv 2) pa_nil))))
  pss_nil)))
  (pss_one (ps_ret (pe_dc (own := [(".0", 3), ("name", 2)]) rfl sc_Layout_fill.nd (pi_U (pe_fld (pv 0) rfl)) (blkOk_by (own := [(".0", 3), ("name", 2)]) (N := N_Layout_fill) (sc := defScope s_Layout_fill) (by decide +kernel)) (fun _ _ _ _ _ => (pg_name (i := 2) sc_Layout_fill.nd rfl (Or.inl rfl))) (fun _ _ _ _ _ => pts_nil) (fun _ _ _ _ _ => (pv 2)) (fun _ _ _ _ _ => (pe_bmD PySem.F.slot_dict_get PySem.F.type_dict_get (mt_getD (hu_of hr)) (pv 1) (pa_cons (pv 2) pa_nil)))))))))
      ((ss_seq (ss_for (si_keys se_var) sg_name
  (ss_if (sb_test (se_op so_notIn se_var (se_fld (ac ⟨T.c_Layout, T.a_Layout_names⟩ an) se_var)))
  (ss_raise1 T.e_BadField (sa_cons se_var sa_nil))
  ss_next))
  (ss_seq (ss_for (si_U (se_fld (ac ⟨T.c_Layout, T.a_Layout_names⟩ an) se_var)) sg_name
  (ss_if (sb_and (sb_test (se_op so_in se_var se_var)) (sb_not (sb_truth (se_callU (fun _ => .nil) (sa_cons (se_op so_ix se_var se_var) (sa_cons (se_op so_ix (se_fld (ac ⟨T.c_Layout, T.a_Layout__kinds⟩ an) se_var) se_var) sa_nil))))))
  (ss_raise1 T.e_BadValue (sa_cons se_var sa_nil))
  ss_next))
  (ss_ret (se_dcO (vs := [3, 2]) (si_U (se_fld (ac ⟨T.c_Layout, T.a_Layout_names⟩ an) se_var)) (sgw_name (by decide)) sb_yes se_var (se_bmD sm_getD se_var (sa_cons se_var sa_nil)))))))
  obtain ⟨t, h1, h2⟩ := key
  rw [qe_Layout_fill] at h2
  exact ⟨t, h1, rd_J (n := 2) (N := N_Layout_fill) h2 h⟩
theorem kwb_Layout_fill_kc_kb {K : PySem.W.Frag} (fd : FuncData) (F : FunD K "fill" "Layout.fill" (defArgs s_Layout_fill) (defBody s_Layout_fill) (defScope s_Layout_fill) [] [] (He.ma K (He.ga K "Layout") "fill") fd) : KwB K fd "self" "values" ["kc", "kb"] :=
  kwb_of F (by decide +kernel) (by decide) fun _ _ _ _ _ _ _ _ us hl => match us, hl with | [_, _], _ => ⟨_, rfl, fun _ => rfl⟩
theorem kwb_Layout_fill_ka_kd {K : PySem.W.Frag} (fd : FuncData) (F : FunD K "fill" "Layout.fill" (defArgs s_Layout_fill) (defBody s_Layout_fill) (defScope s_Layout_fill) [] [] (He.ma K (He.ga K "Layout") "fill") fd) : KwB K fd "self" "values" ["ka", "kd"] :=
  kwb_of F (by decide +kernel) (by decide) fun _ _ _ _ _ _ _ _ us hl => match us, hl with | [_, _], _ => ⟨_, rfl, fun _ => rfl⟩
theorem kwb_Layout_fill_kd_ka {K : PySem.W.Frag} (fd : FuncData) (F : FunD K "fill" "Layout.fill" (defArgs s_Layout_fill) (defBody s_Layout_fill) (defScope s_Layout_fill) [] [] (He.ma K (He.ga K "Layout") "fill") fd) : KwB K fd "self" "values" ["kd", "ka"] :=
  kwb_of F (by decide +kernel) (by decide) fun _ _ _ _ _ _ _ _ us hl => match us, hl with | [_, _], _ => ⟨_, rfl, fun _ => rfl⟩
theorem kwb_Layout_fill_ka_ke_kd {K : PySem.W.Frag} (fd : FuncData) (F : FunD K "fill" "Layout.fill" (defArgs s_Layout_fill) (defBody s_Layout_fill) (defScope s_Layout_fill) [] [] (He.ma K (He.ga K "Layout") "fill") fd) : KwB K fd "self" "values" ["ka", "ke", "kd"] :=
  kwb_of F (by decide +kernel) (by decide) fun _ _ _ _ _ _ _ _ us hl => match us, hl with | [_, _, _], _ => ⟨_, rfl, fun _ => rfl⟩
theorem kwb_Layout_fill_kd_kb_ke {K : PySem.W.Frag} (fd : FuncData) (F : FunD K "fill" "Layout.fill" (defArgs s_Layout_fill) (defBody s_Layout_fill) (defScope s_Layout_fill) [] [] (He.ma K (He.ga K "Layout") "fill") fd) : KwB K fd "self" "values" ["kd", "kb", "ke"] :=
  kwb_of F (by decide +kernel) (by decide) fun _ _ _ _ _ _ _ _ us hl => match us, hl with | [_, _, _], _ => ⟨_, rfl, fun _ => rfl⟩
theorem kwb_Layout_fill_kb {K : PySem.W.Frag} (fd : FuncData) (F : FunD K "fill" "Layout.fill" (defArgs s_Layout_fill) (defBody s_Layout_fill) (defScope s_Layout_fill) [] [] (He.ma K (He.ga K "Layout") "fill") fd) : KwB K fd "self" "values" ["kb"] :=
  kwb_of F (by decide +kernel) (by decide) fun _ _ _ _ _ _ _ _ us hl => match us, hl with | [_], _ => ⟨_, rfl, fun _ => rfl⟩
theorem kwb_Layout_fill_kb_ka {K : PySem.W.Frag} (fd : FuncData) (F : FunD K "fill" "Layout.fill" (defArgs s_Layout_fill) (defBody s_Layout_fill) (defScope s_Layout_fill) [] [] (He.ma K (He.ga K "Layout") "fill") fd) : KwB K fd "self" "values" ["kb", "ka"] :=
  kwb_of F (by decide +kernel) (by decide) fun _ _ _ _ _ _ _ _ us hl => match us, hl with | [_, _], _ => ⟨_, rfl, fun _ => rfl⟩
theorem kwb_Layout_fill_ka_kb {K : PySem.W.Frag} (fd : FuncData) (F : FunD K "fill" "Layout.fill" (defArgs s_Layout_fill) (defBody s_Layout_fill) (defScope s_Layout_fill) [] [] (He.ma K (He.ga K "Layout") "fill") fd) : KwB K fd "self" "values" ["ka", "kb"] :=
  kwb_of F (by decide +kernel) (by decide) fun _ _ _ _ _ _ _ _ us hl => match us, hl with | [_, _], _ => ⟨_, rfl, fun _ => rfl⟩
theorem kwb_Layout_fill {K : PySem.W.Frag} (fd : FuncData) (F : FunD K "fill" "Layout.fill" (defArgs s_Layout_fill) (defBody s_Layout_fill) (defScope s_Layout_fill) [] [] (He.ma K (He.ga K "Layout") "fill") fd) : KwB K fd "self" "values" [] :=
  kwb_of F (by decide +kernel) (by decide) fun _ _ _ _ _ _ _ _ us hl => match us, hl with | [], _ => ⟨_, rfl, fun _ => rfl⟩
theorem kwb_Layout_fill_kc {K : PySem.W.Frag} (fd : FuncData) (F : FunD K "fill" "Layout.fill" (defArgs s_Layout_fill) (defBody s_Layout_fill) (defScope s_Layout_fill) [] [] (He.ma K (He.ga K "Layout") "fill") fd) : KwB K fd "self" "values" ["kc"] :=
  kwb_of F (by decide +kernel) (by decide) fun _ _ _ _ _ _ _ _ us hl => match us, hl with | [_], _ => ⟨_, rfl, fun _ => rfl⟩
abbrev b0_lsaid : SJ :=
  (jIfS (jTest (jOp eqRJ (jVar 1) (jC (.int 5))))
  (jDrop (jMethW "Layout" "fill" ["kd", "kb", "ke"] w_Layout_fill (jVar 0) (jCons (jVar 3) (jCons (jVar 2) (jCons (jVar 2) jNil)))))
  (jDrop (jMethW "Layout" "fill" ["kb"] w_Layout_fill (jVar 0) (jCons (jVar 2) jNil))))
abbrev b1_lsaid : SJ :=
  (jIfS (jTest (jOp eqRJ (jVar 1) (jC (.int 4))))
  (jDrop (jMethW "Layout" "fill" ["ka", "ke", "kd"] w_Layout_fill (jVar 0) (jCons (jVar 3) (jCons (jVar 2) (jCons (jVar 3) jNil)))))
  b0_lsaid)
abbrev b2_lsaid : SJ :=
  (jIfS (jTest (jOp eqRJ (jVar 1) (jC (.int 2))))
  (jDrop (jMethW "Layout" "fill" ["kd", "ka"] w_Layout_fill (jVar 0) (jCons (jVar 2) (jCons (jVar 3) jNil))))
  b1_lsaid)
abbrev b3_lsaid : SJ :=
  (jIfS (jTest (jOp eqRJ (jVar 1) (jC (.int 1))))
  (jDrop (jMethW "Layout" "fill" ["ka", "kd"] w_Layout_fill (jVar 0) (jCons (jVar 2) (jCons (jVar 3) jNil))))
  b2_lsaid)
abbrev b4_lsaid : SJ :=
  (jIfS (jTest (jOp eqRJ (jVar 1) (jC (.int 0))))
  (jDrop (jMethW "Layout" "fill" ["kc", "kb"] w_Layout_fill (jVar 0) (jCons (jVar 3) (jCons (jVar 2) jNil))))
  b3_lsaid)
abbrev b5_lsaid : SJ :=
  (jSeq (jTryX [(tab_BadField, .nam 4 fun c a dd => (jRet (jTup (jCons (jC (.str "field")) (jCons (jXf a dd c "BadField" "name" (jVar 4)) (jCons (jCB (isXJ tab_MendroundsError "MendroundsError" c a dd) (jCons (jVar 4) (jCons (jC (.cls "MendroundsError")) jNil))) jNil)))))), (tab_BadValue, .nam 4 fun c a dd => (jRet (jTup (jCons (jC (.str "value")) (jCons (jXf a dd c "BadValue" "name" (jVar 4)) (jCons (jCB (isXJ tab_MendroundsError "MendroundsError" c a dd) (jCons (jVar 4) (jCons (jC (.cls "MendroundsError")) jNil))) jNil))))))] b4_lsaid)
  (jRet (jC (.non))))
def q_lsaid : SJ :=
  b5_lsaid
def qf_lsaid : SJ :=
  (jSeq (jTryX [(tab_BadField, .nam 4 fun c a dd => (jRet (jTup (jCons (jC (.str "field")) (jCons (jXf a dd c "BadField" "name" (jVar 4)) (jCons (jCB (isXJ tab_MendroundsError "MendroundsError" c a dd) (jCons (jVar 4) (jCons (jC (.cls "MendroundsError")) jNil))) jNil)))))), (tab_BadValue, .nam 4 fun c a dd => (jRet (jTup (jCons (jC (.str "value")) (jCons (jXf a dd c "BadValue" "name" (jVar 4)) (jCons (jCB (isXJ tab_MendroundsError "MendroundsError" c a dd) (jCons (jVar 4) (jCons (jC (.cls "MendroundsError")) jNil))) jNil))))))] (jIfS (jTest (jOp eqRJ (jVar 1) (jC (.int 0))))
  (jDrop (jMethW "Layout" "fill" ["kc", "kb"] w_Layout_fill (jVar 0) (jCons (jVar 3) (jCons (jVar 2) jNil))))
  (jIfS (jTest (jOp eqRJ (jVar 1) (jC (.int 1))))
  (jDrop (jMethW "Layout" "fill" ["ka", "kd"] w_Layout_fill (jVar 0) (jCons (jVar 2) (jCons (jVar 3) jNil))))
  (jIfS (jTest (jOp eqRJ (jVar 1) (jC (.int 2))))
  (jDrop (jMethW "Layout" "fill" ["kd", "ka"] w_Layout_fill (jVar 0) (jCons (jVar 2) (jCons (jVar 3) jNil))))
  (jIfS (jTest (jOp eqRJ (jVar 1) (jC (.int 4))))
  (jDrop (jMethW "Layout" "fill" ["ka", "ke", "kd"] w_Layout_fill (jVar 0) (jCons (jVar 3) (jCons (jVar 2) (jCons (jVar 3) jNil)))))
  (jIfS (jTest (jOp eqRJ (jVar 1) (jC (.int 5))))
  (jDrop (jMethW "Layout" "fill" ["kd", "kb", "ke"] w_Layout_fill (jVar 0) (jCons (jVar 3) (jCons (jVar 2) (jCons (jVar 2) jNil)))))
  (jDrop (jMethW "Layout" "fill" ["kb"] w_Layout_fill (jVar 0) (jCons (jVar 2) jNil)))))))))
  (jRet (jC (.non))))
theorem qe_lsaid : qf_lsaid = q_lsaid := rfl
def w_lsaid : WJ := wOf 4 5 q_lsaid
theorem len_lsaid {K : PySem.W.Frag} : ∀ vs H Q E, spJ K w_lsaid vs H Q E → vs.length = 4 := len_J fun _ _ _ _ h => h.1
theorem fn_lsaid {P : Program} {w : World} {K : PySem.W.Frag} {mg : Str → Option Value} {base : Heap} (T : Txt w K mg) {fd : FuncData} (F : FunD K "_law_said" "_law_said" (defArgs s_lsaid) (defBody s_lsaid) (defScope s_lsaid) [] [] (He.ga K "_law_said") fd) : FnOk P w K mg base (L2N.CX P w) 6 (He.ga K "_law_said") fd ["_law_layout", "_law_way", "_law_one", "_law_two"] (spJ K w_lsaid) := by
  refine F.ok (k := 5) sc_lsaid len_lsaid fun cdv A outer s H vs Q E hr h => ?_
  have key : ∃ t, PSs (cxOf (L2N.CX P w) P w K mg base N_lsaid "_law_said" (defScope s_lsaid) (He.ga K "_law_said") cdv A outer s H E) (defBody s_lsaid) t ∧ Ss K (WE' E) t qf_lsaid := by
    exact ex_of ((pss_cons (L2N.ps_try_mix (Wo := (fun cl d _ H => E cl d H)) rfl rfl (L2N.takes_of rfl rfl rfl rfl) (fun W pn xe tk ps => (pss_one (ps_if (pt_cmpR (op_eqU (hu65 hr)) (pv 1) pe_int (nomark _))
  (pss_one (ps_expr (pe_mW (okw_Layout_fill T) kwb_Layout_fill_kc_kb hr (by decide) T.c_Layout T.m_Layout_fill tk (pv 0) (pk_cons (pv 3) (pk_cons (pv 2) pk_nil)))))
  (pss_one (ps_if (pt_cmpR (op_eqU (hu65 hr)) (pv 1) pe_int (nomark _))
  (pss_one (ps_expr (pe_mW (okw_Layout_fill T) kwb_Layout_fill_ka_kd hr (by decide) T.c_Layout T.m_Layout_fill tk (pv 0) (pk_cons (pv 2) (pk_cons (pv 3) pk_nil)))))
  (pss_one (ps_if (pt_cmpR (op_eqU (hu65 hr)) (pv 1) pe_int (nomark _))
  (pss_one (ps_expr (pe_mW (okw_Layout_fill T) kwb_Layout_fill_kd_ka hr (by decide) T.c_Layout T.m_Layout_fill tk (pv 0) (pk_cons (pv 2) (pk_cons (pv 3) pk_nil)))))
  (pss_one (ps_if (pt_cmpR (op_eqU (hu65 hr)) (pv 1) pe_int (nomark _))
  (pss_one (ps_expr (pe_mW (okw_Layout_fill T) kwb_Layout_fill_ka_ke_kd hr (by decide) T.c_Layout T.m_Layout_fill tk (pv 0) (pk_cons (pv 3) (pk_cons (pv 2) (pk_cons (pv 3) pk_nil))))))
  (pss_one (ps_if (pt_cmpR (op_eqU (hu65 hr)) (pv 1) pe_int (nomark _))
  (pss_one (ps_expr (pe_mW (okw_Layout_fill T) kwb_Layout_fill_kd_kb_ke hr (by decide) T.c_Layout T.m_Layout_fill tk (pv 0) (pk_cons (pv 3) (pk_cons (pv 2) (pk_cons (pv 2) pk_nil))))))
  (pss_one (ps_expr (pe_mW (okw_Layout_fill T) kwb_Layout_fill_kb hr (by decide) T.c_Layout T.m_Layout_fill tk (pv 0) (pk_cons (pv 2) pk_nil))))))))))))))) (L2N.MixOk.named (i := 4) (c := .ref (He.ga K "BadField")) sc_lsaid.nd rfl rfl ⟨rfl, by decide, Or.inl T.g_BadField⟩ (fun a oe cls d pn hz hf => (pss_one (ps_ret (pe_tup (pa_cons pe_str (pa_cons (pe_xf T.e_BadField.xf T.e_BadField.nf (L2N.Zn.zc hz) hf (pv 4)) (pa_cons (pe_callB (call_isX hz hf) (by rfl) T.n_isinstance (by decide +kernel) (pa_cons (pv 4) (pa_cons (pe_gref T.g_MendroundsError) pa_nil))) pa_nil))))))) (L2N.MixOk.named (i := 4) (c := .ref (He.ga K "BadValue")) sc_lsaid.nd rfl rfl ⟨rfl, by decide, Or.inl T.g_BadValue⟩ (fun a oe cls d pn hz hf => (pss_one (ps_ret (pe_tup (pa_cons pe_str (pa_cons (pe_xf T.e_BadValue.xf T.e_BadValue.nf (L2N.Zn.zc hz) hf (pv 4)) (pa_cons (pe_callB (call_isX hz hf) (by rfl) T.n_isinstance (by decide +kernel) (pa_cons (pv 4) (pa_cons (pe_gref T.g_MendroundsError) pa_nil))) pa_nil))))))) .nil)))
  (pss_one (ps_ret pe_non))))
      ((ss_seq (ss_tryX (.named T.h_BadField (fun c a dd => (ss_ret (se_tup (sa_cons (se_c fun _ => .str _) (sa_cons (se_xf se_var) (sa_cons (se_cb (sf_isX T.kx_MendroundsError) (sa_cons se_var (sa_cons (se_c fun _ => .cls _) sa_nil))) sa_nil)))))) (.named T.h_BadValue (fun c a dd => (ss_ret (se_tup (sa_cons (se_c fun _ => .str _) (sa_cons (se_xf se_var) (sa_cons (se_cb (sf_isX T.kx_MendroundsError) (sa_cons se_var (sa_cons (se_c fun _ => .cls _) sa_nil))) sa_nil)))))) .nil)) (fun W => (ss_if (sb_test (se_op so_eq se_var (se_c fun _ => .int _)))
  (ss_drop (se_methW se_var (sa_cons se_var (sa_cons se_var sa_nil))))
  (ss_if (sb_test (se_op so_eq se_var (se_c fun _ => .int _)))
  (ss_drop (se_methW se_var (sa_cons se_var (sa_cons se_var sa_nil))))
  (ss_if (sb_test (se_op so_eq se_var (se_c fun _ => .int _)))
  (ss_drop (se_methW se_var (sa_cons se_var (sa_cons se_var sa_nil))))
  (ss_if (sb_test (se_op so_eq se_var (se_c fun _ => .int _)))
  (ss_drop (se_methW se_var (sa_cons se_var (sa_cons se_var (sa_cons se_var sa_nil)))))
  (ss_if (sb_test (se_op so_eq se_var (se_c fun _ => .int _)))
  (ss_drop (se_methW se_var (sa_cons se_var (sa_cons se_var (sa_cons se_var sa_nil)))))
  (ss_drop (se_methW se_var (sa_cons se_var sa_nil))))))))))
  (ss_ret (se_c fun _ => .non))))
  obtain ⟨t, h1, h2⟩ := key
  rw [qe_lsaid] at h2
  exact ⟨t, h1, rd_J (n := 4) (N := N_lsaid) h2 h⟩
theorem ok_lsaid {P : Program} {w : World} {K : PySem.W.Frag} {mg : Str → Option Value} {base : Heap} (T : Txt w K mg) : Ok P w K mg base 6 (He.ga K "_law_said") ["_law_layout", "_law_way", "_law_one", "_law_two"] [] (spJ K w_lsaid) := by
  obtain ⟨fd, F⟩ := T.f_lsaid
  exact ⟨fd, [], fn_lsaid T F, F.kp, .nil, F.bindsN fun _ _ _ _ _ _ us hl => match us, hl with | [_, _, _, _], _ => rfl⟩
abbrev b0_Layout_is_filling : SJ :=
  (jRet (jCB jAll (jCons (jLc (jIU (jFld ["Layout"] (jVar 0) "names")) (jgName 3) jYes (jAndV (jOp inRJ (jVar 3) (jVar 1)) (jCall w_may_stand [] (jCons (jOp ixJ (jVar 1) (jVar 3)) (jCons (jOp ixJ (jFld ["Layout"] (jVar 0) "_kinds") (jVar 3)) jNil)))) [2, 3]) jNil)))
abbrev b1_Layout_is_filling : SJ :=
  (jSeq (jIfS (jOr (jNot (jTruth (jCB isiJ (jCons (jVar 1) (jCons (jC (.ty "dict")) jNil))))) (jTest (jOp neRJ (jCB lenJ (jCons (jVar 1) jNil)) (jCB lenJ (jCons (jFld ["Layout"] (jVar 0) "names") jNil)))))
  (jRet (jC (.bl false)))
  jNext)
  b0_Layout_is_filling)
def q_Layout_is_filling : SJ :=
  b1_Layout_is_filling
def qf_Layout_is_filling : SJ :=
  (jSeq (jIfS (jOr (jNot (jTruth (jCB isiJ (jCons (jVar 1) (jCons (jC (.ty "dict")) jNil))))) (jTest (jOp neRJ (jCB lenJ (jCons (jVar 1) jNil)) (jCB lenJ (jCons (jFld ["Layout"] (jVar 0) "names") jNil)))))
  (jRet (jC (.bl false)))
  jNext)
  (jRet (jCB jAll (jCons (jLc (jIU (jFld ["Layout"] (jVar 0) "names")) (jgName 3) jYes (jAndV (jOp inRJ (jVar 3) (jVar 1)) (jCall w_may_stand [] (jCons (jOp ixJ (jVar 1) (jVar 3)) (jCons (jOp ixJ (jFld ["Layout"] (jVar 0) "_kinds") (jVar 3)) jNil)))) [2, 3]) jNil))))
theorem qe_Layout_is_filling : qf_Layout_is_filling = q_Layout_is_filling := rfl
def w_Layout_is_filling : WJ := wOf 2 4 q_Layout_is_filling
theorem len_Layout_is_filling {K : PySem.W.Frag} : ∀ vs H Q E, spJ K w_Layout_is_filling vs H Q E → vs.length = 2 := len_J fun _ _ _ _ h => h.1
theorem fn_Layout_is_filling {P : Program} {w : World} {K : PySem.W.Frag} {mg : Str → Option Value} {base : Heap} (T : Txt w K mg) {fd : FuncData} (F : FunD K "is_filling" "Layout.is_filling" (defArgs s_Layout_is_filling) (defBody s_Layout_is_filling) (defScope s_Layout_is_filling) [] [] (He.ma K (He.ga K "Layout") "is_filling") fd) : FnOk P w K mg base (L2N.CX P w) 5 (He.ma K (He.ga K "Layout") "is_filling") fd ["self", "thing"] (spJ K w_Layout_is_filling) := by
  refine F.ok (k := 4) sc_Layout_is_filling len_Layout_is_filling fun cdv A outer s H vs Q E hr h => ?_
  have key : ∃ t, PSs (cxOf (L2N.CX P w) P w K mg base N_Layout_is_filling "Layout.is_filling" (defScope s_Layout_is_filling) (He.ma K (He.ga K "Layout") "is_filling") cdv A outer s H E) (defBody s_Layout_is_filling) t ∧ Ss K (WE' E) t qf_Layout_is_filling := by
    exact ex_of ((pss_cons (ps_if (PW.pt (pw_or (pt_not (pt_tru (pe_callB call_isi (by rfl) T.n_isinstance (by decide +kernel) (pa_cons (pv 1) (pa_cons (pe_ty T.n_dict (by decide +kernel)) pa_nil))))) (pw_or1 (pt_cmpR (op_neU (hu65 hr)) (pe_callB call_lenU (by rfl) T.n_len (by decide +kernel) (pa_cons (pv 1) pa_nil)) (pe_callB call_lenU (by rfl) T.n_len (by decide +kernel) (pa_cons (pe_fld (pv 0) rfl) pa_nil)) (nomark _)))))
  (pss_one (ps_ret pe_bl))
  pss_nil)
  (pss_one (ps_ret (pe_callB (cr_all rfl) (by rfl) T.n_all (by decide +kernel) (pa_cons (pe_lc (own := [(".0", 2), ("name", 3)]) rfl sc_Layout_is_filling.nd (pi_U (pe_fld (pv 0) rfl)) (blkOk_by (own := [(".0", 2), ("name", 3)]) (N := N_Layout_is_filling) (sc := defScope s_Layout_is_filling) (by decide +kernel)) (fun _ _ _ _ _ => (pg_name (i := 3) sc_Layout_is_filling.nd rfl (Or.inl rfl))) (fun _ _ _ _ _ => pts_nil) (fun _ _ _ _ _ => (pe_and (pe_cmpR (op_inU (hu65 hr)) (pv 3) (pv 1) rfl) (pe_one (pe_cU (ok_may_stand T) hr (by decide) T.g_may_stand takesN0 (pa_cons (pe_ix (ix_U (hu_of hr)) (pv 1) (pv 3) (fun _ _ => rfl)) (pa_cons (pe_ix (ix_U (hu_of hr)) (pe_fld (pv 0) rfl) (pv 3) (fun _ _ => rfl)) pa_nil))))))) pa_nil))))))
      ((ss_seq (ss_if (sb_or (sb_not (sb_truth (se_cb sf_isi (sa_cons se_var (sa_cons (se_c fun _ => .ty _) sa_nil))))) (sb_test (se_op so_ne (se_cb sf_len (sa_cons se_var sa_nil)) (se_cb sf_len (sa_cons (se_fld (ac ⟨T.c_Layout, T.a_Layout_names⟩ an) se_var) sa_nil)))))
  (ss_ret (se_c fun _ => .bl _))
  ss_next)
  (ss_ret (se_cb sf_all (sa_cons (se_lc (vs := [2, 3]) (si_U (se_fld (ac ⟨T.c_Layout, T.a_Layout_names⟩ an) se_var)) (sgw_name (by decide)) sb_yes (se_andV (se_op so_in se_var se_var) (se_callU (fun _ => .nil) (sa_cons (se_op so_ix se_var se_var) (sa_cons (se_op so_ix (se_fld (ac ⟨T.c_Layout, T.a_Layout__kinds⟩ an) se_var) se_var) sa_nil))))) sa_nil)))))
  obtain ⟨t, h1, h2⟩ := key
  rw [qe_Layout_is_filling] at h2
  exact ⟨t, h1, rd_J (n := 2) (N := N_Layout_is_filling) h2 h⟩
theorem ok_Layout_is_filling {P : Program} {w : World} {K : PySem.W.Frag} {mg : Str → Option Value} {base : Heap} (T : Txt w K mg) : Ok P w K mg base 5 (He.ma K (He.ga K "Layout") "is_filling") ["self", "thing"] [] (spJ K w_Layout_is_filling) := by
  obtain ⟨fd, F⟩ := T.f_Layout_is_filling
  exact ⟨fd, [], fn_Layout_is_filling T F, F.kp, .nil, F.bindsN fun _ _ _ _ _ _ us hl => match us, hl with | [_, _], _ => rfl⟩
abbrev b0_lturned : SJ :=
  (jRet (jCB jDict (jCons (jLc (jIU (jRev (jCB jListD (jCons (jVar 0) jNil)))) (jgName 2) jYes (jTup (jCons (jVar 2) (jCons (jOp ixJ (jVar 0) (jVar 2)) jNil))) [1, 2]) jNil)))
def q_lturned : SJ :=
  b0_lturned
def qf_lturned : SJ :=
  (jRet (jCB jDict (jCons (jLc (jIU (jRev (jCB jListD (jCons (jVar 0) jNil)))) (jgName 2) jYes (jTup (jCons (jVar 2) (jCons (jOp ixJ (jVar 0) (jVar 2)) jNil))) [1, 2]) jNil)))
theorem qe_lturned : qf_lturned = q_lturned := rfl
def w_lturned : WJ := wOf 1 3 q_lturned
theorem len_lturned {K : PySem.W.Frag} : ∀ vs H Q E, spJ K w_lturned vs H Q E → vs.length = 1 := len_J fun _ _ _ _ h => h.1
theorem fn_lturned {P : Program} {w : World} {K : PySem.W.Frag} {mg : Str → Option Value} {base : Heap} (T : Txt w K mg) {fd : FuncData} (F : FunD K "_law_turned" "_law_turned" (defArgs s_lturned) (defBody s_lturned) (defScope s_lturned) [] [] (He.ga K "_law_turned") fd) : FnOk P w K mg base (L2N.CX P w) 1 (He.ga K "_law_turned") fd ["_law_filling"] (spJ K w_lturned) := by
  refine F.ok (k := 0) sc_lturned len_lturned fun cdv A outer s H vs Q E hr h => ?_
  have key : ∃ t, PSs (cxOf (L2N.CX P w) P w K mg base N_lturned "_law_turned" (defScope s_lturned) (He.ga K "_law_turned") cdv A outer s H E) (defBody s_lturned) t ∧ Ss K (WE' E) t qf_lturned := by
    exact ex_of ((pss_one (ps_ret (pe_callTy (call_dictU rfl) (by rfl) T.n_dict (by decide +kernel) (pa_cons (pe_lc (own := [(".0", 1), ("_law_label", 2)]) rfl sc_lturned.nd (pi_U (pe_revU (pe_callTy (call_listK rfl) (by rfl) T.n_list (by decide +kernel) (pa_cons (pv 0) pa_nil)))) (blkOk_by (own := [(".0", 1), ("_law_label", 2)]) (N := N_lturned) (sc := defScope s_lturned) (by decide +kernel)) (fun _ _ _ _ _ => (pg_name (i := 2) sc_lturned.nd rfl (Or.inl rfl))) (fun _ _ _ _ _ => pts_nil) (fun _ _ _ _ _ => (pe_tup (pa_cons (pv 2) (pa_cons (pe_ix (ix_U (hu_of hr)) (pv 0) (pv 2) (fun _ _ => rfl)) pa_nil))))) pa_nil)))))
      ((ss_ret (se_cb sf_dict (sa_cons (se_lc (vs := [1, 2]) (si_U (se_rev (se_cb sf_listD (sa_cons se_var sa_nil)))) (sgw_name (by decide)) sb_yes (se_tup (sa_cons se_var (sa_cons (se_op so_ix se_var se_var) sa_nil)))) sa_nil))))
  obtain ⟨t, h1, h2⟩ := key
  rw [qe_lturned] at h2
  exact ⟨t, h1, rd_J (n := 1) (N := N_lturned) h2 h⟩
theorem ok_lturned {P : Program} {w : World} {K : PySem.W.Frag} {mg : Str → Option Value} {base : Heap} (T : Txt w K mg) : Ok P w K mg base 1 (He.ga K "_law_turned") ["_law_filling"] [] (spJ K w_lturned) := by
  obtain ⟨fd, F⟩ := T.f_lturned
  exact ⟨fd, [], fn_lturned T F, F.kp, .nil, F.bindsN fun _ _ _ _ _ _ us hl => match us, hl with | [_], _ => rfl⟩
abbrev b0_ltakes : SJ :=
  (jIfS (jTest (jOp (isRJ (!·)) (jMeth "Layout" "is_filling" w_Layout_is_filling [] (jVar 1) (jCons (jVar 9) jNil)) (jC (.bl false))))
  (jRet (jC (.bl false)))
  jNext)
abbrev b1_ltakes : SJ :=
  (jSeq (jAsg (jC (.non)) (jgSub (jVar 10) (jVar 4)))
  (jRet (jOp (isRJ id) (jMeth "Layout" "is_filling" w_Layout_is_filling [] (jVar 1) (jCons (jVar 10) jNil)) (jC (.bl true)))))
abbrev b2_ltakes : SJ :=
  (jSeq (jFor (jIU (jLst (jCons (jVar 5) (jCons (jVar 6) (jCons (jVar 7) (jCons (jVar 8) (jCons jDct0 (jCons (jC (.non)) (jCons (jC (.bl true)) (jCons (jCB jListD (jCons (jVar 3) jNil)) (jCons (jCB jTupD (jCons (jVar 3) jNil)) (jCons (jCB showDJ (jCons (jVar 3) jNil)) jNil)))))))))))) (jgName 9)
  b0_ltakes)
  (jSeq (jAsg (jCB jDictO (jCons (jVar 3) jNil)) (jgName 10))
  b1_ltakes))
abbrev b3_ltakes : SJ :=
  (jSeq (jAsg (jCall w_lof [] (jCons (jVar 0) (jCons (jLst (jCons (jC (.non)) (jCons (jOp ixJ (jVar 3) (jVar 4)) jNil))) jNil))) (jgSub (jVar 7) (jC (.str "kd"))))
  (jSeq (jAsg (jCB jDictO (jCons (jVar 7) jNil)) (jgName 8))
  (jSeq (jDrop (jBMD popDJ (jVar 8) (jCons (jC (.str "kd")) jNil)))
  b2_ltakes)))
abbrev b4_ltakes : SJ :=
  (jSeq (jAsg (jCall w_lwrong [] (jCons (jVar 0) (jCons (jOp ixJ (jVar 2) (jBM "list" idxLJ (jLst (jCons (jC (.str "ka")) (jCons (jC (.str "kb")) (jCons (jC (.str "kc")) jNil)))) (jCons (jVar 4) jNil))) jNil))) (jgSub (jVar 5) (jVar 4)))
  (jSeq (jAsg (jC (.non)) (jgSub (jVar 6) (jC (.str "kd"))))
  (jSeq (jDrop (jBMD popDJ (jVar 7) (jCons (jVar 4) jNil)))
  b3_ltakes)))
abbrev b5_ltakes : SJ :=
  (jSeq (jPar3 5 6 7 (jCons (jCB jDictO (jCons (jVar 3) jNil)) (jCons (jCB jDictO (jCons (jVar 3) jNil)) (jCons (jCB jDictO (jCons (jVar 3) jNil)) jNil))))
  b4_ltakes)
abbrev b6_ltakes : SJ :=
  (jSeq (jAsg (jCall w_lof [] (jCons (jVar 0) (jCons (jLst (jCons (jC (.str "ka")) (jCons (jC (.str "kb")) (jCons (jC (.str "kc")) jNil)))) jNil))) (jgName 4))
  b5_ltakes)
abbrev b7_ltakes : SJ :=
  (jSeq (jIfS (jOr (jTest (jOp (isRJ (!·)) (jMeth "Layout" "is_filling" w_Layout_is_filling [] (jVar 1) (jCons (jVar 3) jNil)) (jC (.bl true)))) (jTest (jOp (isRJ (!·)) (jMeth "Layout" "is_filling" w_Layout_is_filling [] (jVar 1) (jCons (jCall w_lturned [] (jCons (jVar 3) jNil)) jNil)) (jC (.bl true)))))
  (jRet (jC (.bl false)))
  jNext)
  b6_ltakes)
def q_ltakes : SJ :=
  b7_ltakes
def qf_ltakes : SJ :=
  (jSeq (jIfS (jOr (jTest (jOp (isRJ (!·)) (jMeth "Layout" "is_filling" w_Layout_is_filling [] (jVar 1) (jCons (jVar 3) jNil)) (jC (.bl true)))) (jTest (jOp (isRJ (!·)) (jMeth "Layout" "is_filling" w_Layout_is_filling [] (jVar 1) (jCons (jCall w_lturned [] (jCons (jVar 3) jNil)) jNil)) (jC (.bl true)))))
  (jRet (jC (.bl false)))
  jNext)
  (jSeq (jAsg (jCall w_lof [] (jCons (jVar 0) (jCons (jLst (jCons (jC (.str "ka")) (jCons (jC (.str "kb")) (jCons (jC (.str "kc")) jNil)))) jNil))) (jgName 4))
  (jSeq (jPar3 5 6 7 (jCons (jCB jDictO (jCons (jVar 3) jNil)) (jCons (jCB jDictO (jCons (jVar 3) jNil)) (jCons (jCB jDictO (jCons (jVar 3) jNil)) jNil))))
  (jSeq (jAsg (jCall w_lwrong [] (jCons (jVar 0) (jCons (jOp ixJ (jVar 2) (jBM "list" idxLJ (jLst (jCons (jC (.str "ka")) (jCons (jC (.str "kb")) (jCons (jC (.str "kc")) jNil)))) (jCons (jVar 4) jNil))) jNil))) (jgSub (jVar 5) (jVar 4)))
  (jSeq (jAsg (jC (.non)) (jgSub (jVar 6) (jC (.str "kd"))))
  (jSeq (jDrop (jBMD popDJ (jVar 7) (jCons (jVar 4) jNil)))
  (jSeq (jAsg (jCall w_lof [] (jCons (jVar 0) (jCons (jLst (jCons (jC (.non)) (jCons (jOp ixJ (jVar 3) (jVar 4)) jNil))) jNil))) (jgSub (jVar 7) (jC (.str "kd"))))
  (jSeq (jAsg (jCB jDictO (jCons (jVar 7) jNil)) (jgName 8))
  (jSeq (jDrop (jBMD popDJ (jVar 8) (jCons (jC (.str "kd")) jNil)))
  (jSeq (jFor (jIU (jLst (jCons (jVar 5) (jCons (jVar 6) (jCons (jVar 7) (jCons (jVar 8) (jCons jDct0 (jCons (jC (.non)) (jCons (jC (.bl true)) (jCons (jCB jListD (jCons (jVar 3) jNil)) (jCons (jCB jTupD (jCons (jVar 3) jNil)) (jCons (jCB showDJ (jCons (jVar 3) jNil)) jNil)))))))))))) (jgName 9)
  (jIfS (jTest (jOp (isRJ (!·)) (jMeth "Layout" "is_filling" w_Layout_is_filling [] (jVar 1) (jCons (jVar 9) jNil)) (jC (.bl false))))
  (jRet (jC (.bl false)))
  jNext))
  (jSeq (jAsg (jCB jDictO (jCons (jVar 3) jNil)) (jgName 10))
  (jSeq (jAsg (jC (.non)) (jgSub (jVar 10) (jVar 4)))
  (jRet (jOp (isRJ id) (jMeth "Layout" "is_filling" w_Layout_is_filling [] (jVar 1) (jCons (jVar 10) jNil)) (jC (.bl true))))))))))))))))
theorem qe_ltakes : qf_ltakes = q_ltakes := rfl
def w_ltakes : WJ := wOf 4 11 q_ltakes
theorem len_ltakes {K : PySem.W.Frag} : ∀ vs H Q E, spJ K w_ltakes vs H Q E → vs.length = 4 := len_J fun _ _ _ _ h => h.1
theorem fn_ltakes {P : Program} {w : World} {K : PySem.W.Frag} {mg : Str → Option Value} {base : Heap} (T : Txt w K mg) {fd : FuncData} (F : FunD K "_law_takes" "_law_takes" (defArgs s_ltakes) (defBody s_ltakes) (defScope s_ltakes) [] [] (He.ga K "_law_takes") fd) : FnG P w K mg base (L2N.CX P w) 6 (He.ga K "_law_takes") fd ["_law_bag_here", "_law_layout", "_law_kinds", "_law_filling"] (spJ K w_ltakes) := by
  refine fnG_of F (k := 5) sc_ltakes len_ltakes fun cdv A outer s H vs Q E gd hr h => ?_
  have key : ∃ t, PSs (cxOf (L2N.CX P w) P w K mg base N_ltakes "_law_takes" (defScope s_ltakes) (He.ga K "_law_takes") cdv A outer s H E) (defBody s_ltakes) t ∧ Ss K (WE' E) t qf_ltakes := by
    exact ex_of ((pss_cons (ps_if (PW.pt (pw_or (pt_cmpR op_notBl (pe_mU (ok_Layout_is_filling T) hr (by decide) T.c_Layout T.m_Layout_is_filling (L2N.takes_of rfl rfl rfl rfl) (pv 1) (pa_cons (pv 3) pa_nil)) pe_bl (nomark _)) (pw_or1 (pt_cmpR op_notBl (pe_mU (ok_Layout_is_filling T) hr (by decide) T.c_Layout T.m_Layout_is_filling (L2N.takes_of rfl rfl rfl rfl) (pv 1) (pa_cons (pe_cU (ok_lturned T) hr (by decide) T.g__law_turned (L2N.takes_of rfl rfl rfl rfl) (pa_cons (pv 3) pa_nil)) pa_nil)) pe_bl (nomark _)))))
  (pss_one (ps_ret pe_bl))
  pss_nil)
  (pss_cons (ps_set (i := 4) sc_ltakes.nd rfl (Or.inl rfl) (pe_cU (ok_lof T) hr (by decide) T.g__law_of (L2N.takes_of rfl rfl rfl rfl) (pa_cons (pv 0) (pa_cons (pe_lst (pa_cons pe_str (pa_cons pe_str (pa_cons pe_str pa_nil)))) pa_nil))))
  (pss_cons (ps_par3 (i := 5) (j := 6) (l := 7) rfl sc_ltakes.nd rfl rfl rfl (by decide) (by decide) (by decide) rfl rfl rfl (pa_cons (pe_callTy (call_dictU rfl) (by rfl) T.n_dict (by decide +kernel) (pa_cons (pv 3) pa_nil)) (pa_cons (pe_callTy (call_dictU rfl) (by rfl) T.n_dict (by decide +kernel) (pa_cons (pv 3) pa_nil)) (pa_cons (pe_callTy (call_dictU rfl) (by rfl) T.n_dict (by decide +kernel) (pa_cons (pv 3) pa_nil)) pa_nil))) (by rfl))
  (pss_cons (ps_asg (pe_cU (ok_lwrong T) hr (by decide) T.g__law_wrong (L2N.takes_of rfl rfl rfl rfl) (pa_cons (pv 0) (pa_cons (pe_ix (ix_U (hu_of hr)) (pv 2) (pe_bm PySem.F.plainAttrs_list PySem.F.slot_list_index PySem.F.type_list_index (mt_idxL (hu65 hr)) (pe_lst (pa_cons pe_str (pa_cons pe_str (pa_cons pe_str pa_nil)))) (pa_cons (pv 4) pa_nil)) (fun _ _ => rfl)) pa_nil))) (pg_sub (pv 5) (pv 4) (set_U (hu_of hr))))
  (pss_cons (ps_asg pe_non (pg_sub (pv 6) pe_str (set_U (hu_of hr))))
  (pss_cons (ps_expr (pe_bmD PySem.F.slot_dict_pop PySem.F.type_dict_pop mt_popD (pv 7) (pa_cons (pv 4) pa_nil)))
  (pss_cons (ps_asg (pe_cU (ok_lof T) hr (by decide) T.g__law_of (L2N.takes_of rfl rfl rfl rfl) (pa_cons (pv 0) (pa_cons (pe_lst (pa_cons pe_non (pa_cons (pe_ix (ix_U (hu_of hr)) (pv 3) (pv 4) (fun _ _ => rfl)) pa_nil))) pa_nil))) (pg_sub (pv 7) pe_str (set_U (hu_of hr))))
  (pss_cons (ps_set (i := 8) sc_ltakes.nd rfl (Or.inl rfl) (pe_callTy (call_dictU rfl) (by rfl) T.n_dict (by decide +kernel) (pa_cons (pv 7) pa_nil)))
  (pss_cons (ps_expr (pe_bmD PySem.F.slot_dict_pop PySem.F.type_dict_pop mt_popD (pv 8) (pa_cons pe_str pa_nil)))
  (pss_cons (ps_for (passes_of rfl) rfl (pi_U (pe_lst (pa_cons (pv 5) (pa_cons (pv 6) (pa_cons (pv 7) (pa_cons (pv 8) (pa_cons pe_dnewK (pa_cons pe_non (pa_cons pe_bl (pa_cons (pe_callTy (call_listK rfl) (by rfl) T.n_list (by decide +kernel) (pa_cons (pv 3) pa_nil)) (pa_cons (pe_callTy (call_tupD rfl) (by rfl) T.n_tuple (by decide +kernel) (pa_cons (pv 3) pa_nil)) (pa_cons (pe_callTy (call_strDct gd (hu65 hr)) (by rfl) T.n_str (by decide +kernel) (pa_cons (pv 3) pa_nil)) pa_nil)))))))))))) (pg_name (i := 9) sc_ltakes.nd rfl (Or.inl rfl))
  (pss_one (ps_if (pt_cmpR op_notBl (pe_mU (ok_Layout_is_filling T) hr (by decide) T.c_Layout T.m_Layout_is_filling (L2N.takes_of rfl rfl rfl rfl) (pv 1) (pa_cons (pv 9) pa_nil)) pe_bl (nomark _))
  (pss_one (ps_ret pe_bl))
  pss_nil)))
  (pss_cons (ps_set (i := 10) sc_ltakes.nd rfl (Or.inl rfl) (pe_callTy (call_dictU rfl) (by rfl) T.n_dict (by decide +kernel) (pa_cons (pv 3) pa_nil)))
  (pss_cons (ps_asg pe_non (pg_sub (pv 10) (pv 4) (set_U (hu_of hr))))
  (pss_one (ps_ret (pe_cmpR op_isBl (pe_mU (ok_Layout_is_filling T) hr (by decide) T.c_Layout T.m_Layout_is_filling (L2N.takes_of rfl rfl rfl rfl) (pv 1) (pa_cons (pv 10) pa_nil)) pe_bl (nomark _)))))))))))))))))
      ((ss_seq (ss_if (sb_or (sb_test (se_op so_isNot (se_methU (fun _ => .nil) se_var (sa_cons se_var sa_nil)) (se_c fun _ => .bl _))) (sb_test (se_op so_isNot (se_methU (fun _ => .nil) se_var (sa_cons (se_callU (fun _ => .nil) (sa_cons se_var sa_nil)) sa_nil)) (se_c fun _ => .bl _))))
  (ss_ret (se_c fun _ => .bl _))
  ss_next)
  (ss_seq (ss_asg (se_callU (fun _ => .nil) (sa_cons se_var (sa_cons (se_lst (sa_cons (se_c fun _ => .str _) (sa_cons (se_c fun _ => .str _) (sa_cons (se_c fun _ => .str _) sa_nil)))) sa_nil))) sg_name)
  (ss_seq (ss_par3 (sa_cons (se_cb sf_dictO (sa_cons se_var sa_nil)) (sa_cons (se_cb sf_dictO (sa_cons se_var sa_nil)) (sa_cons (se_cb sf_dictO (sa_cons se_var sa_nil)) sa_nil))))
  (ss_seq (ss_asg (se_callU (fun _ => .nil) (sa_cons se_var (sa_cons (se_op so_ix se_var (se_bm sm_idxL (se_lst (sa_cons (se_c fun _ => .str _) (sa_cons (se_c fun _ => .str _) (sa_cons (se_c fun _ => .str _) sa_nil)))) (sa_cons se_var sa_nil))) sa_nil))) (sg_sub se_var se_var))
  (ss_seq (ss_asg (se_c fun _ => .non) (sg_sub se_var (se_c fun _ => .str _)))
  (ss_seq (ss_drop (se_bmD sm_popD se_var (sa_cons se_var sa_nil)))
  (ss_seq (ss_asg (se_callU (fun _ => .nil) (sa_cons se_var (sa_cons (se_lst (sa_cons (se_c fun _ => .non) (sa_cons (se_op so_ix se_var se_var) sa_nil))) sa_nil))) (sg_sub se_var (se_c fun _ => .str _)))
  (ss_seq (ss_asg (se_cb sf_dictO (sa_cons se_var sa_nil)) sg_name)
  (ss_seq (ss_drop (se_bmD sm_popD se_var (sa_cons (se_c fun _ => .str _) sa_nil)))
  (ss_seq (ss_for (si_U (se_lst (sa_cons se_var (sa_cons se_var (sa_cons se_var (sa_cons se_var (sa_cons se_dct0 (sa_cons (se_c fun _ => .non) (sa_cons (se_c fun _ => .bl _) (sa_cons (se_cb sf_listD (sa_cons se_var sa_nil)) (sa_cons (se_cb sf_tupD (sa_cons se_var sa_nil)) (sa_cons (se_cb sf_showD (sa_cons se_var sa_nil)) sa_nil)))))))))))) sg_name
  (ss_if (sb_test (se_op so_isNot (se_methU (fun _ => .nil) se_var (sa_cons se_var sa_nil)) (se_c fun _ => .bl _)))
  (ss_ret (se_c fun _ => .bl _))
  ss_next))
  (ss_seq (ss_asg (se_cb sf_dictO (sa_cons se_var sa_nil)) sg_name)
  (ss_seq (ss_asg (se_c fun _ => .non) (sg_sub se_var se_var))
  (ss_ret (se_op so_is (se_methU (fun _ => .nil) se_var (sa_cons se_var sa_nil)) (se_c fun _ => .bl _))))))))))))))))
  obtain ⟨t, h1, h2⟩ := key
  rw [qe_ltakes] at h2
  exact ⟨t, h1, rd_J (n := 4) (N := N_ltakes) h2 h⟩
theorem ok_ltakes {P : Program} {w : World} {K : PySem.W.Frag} {mg : Str → Option Value} {base : Heap} (T : Txt w K mg) : OkG P w K mg base 6 (He.ga K "_law_takes") ["_law_bag_here", "_law_layout", "_law_kinds", "_law_filling"] [] (spJ K w_ltakes) := by
  obtain ⟨fd, F⟩ := T.f_ltakes
  exact ⟨fd, [], fn_ltakes T F, F.kp, .nil, F.bindsN fun _ _ _ _ _ _ us hl => match us, hl with | [_, _, _, _], _ => rfl⟩
abbrev b0_lis_new : SJ :=
  (jRet (jAndV (jOp eqRJ (jVar 5) (jVar 4)) (jAndV (jOp eqRJ (jCB jListD (jCons (jVar 5) jNil)) (jLst (jCons (jC (.str "ka")) (jCons (jC (.str "kb")) (jCons (jC (.str "kc")) jNil))))) (jOp eqRJ (jMethW "Layout" "fill" [] w_Layout_fill (jVar 0) jNil) (jDisp [((jC (.str "ka")), (jC (.non))), ((jC (.str "kb")), (jC (.non))), ((jC (.str "kc")), (jC (.non)))])))))
abbrev b1_lis_new : SJ :=
  (jSeq (jDrop (jBMD popDJ (jVar 3) (jCons (jC (.str "kc")) jNil)))
  (jSeq (jAsg (jMethW "Layout" "fill" ["ka", "kb"] w_Layout_fill (jVar 0) (jCons (jVar 1) (jCons (jVar 2) jNil))) (jgName 5))
  b0_lis_new))
abbrev b2_lis_new : SJ :=
  (jSeq (jIfS (jOr (jTest (jOp neRJ (jVar 3) (jVar 4))) (jTest (jOp neRJ (jCB jListD (jCons (jVar 3) jNil)) (jLst (jCons (jC (.str "ka")) (jCons (jC (.str "kb")) (jCons (jC (.str "kc")) jNil)))))))
  (jRet (jC (.bl false)))
  jNext)
  (jSeq (jAsg (jC (.str "spoilt")) (jgSub (jVar 3) (jC (.str "ka"))))
  b1_lis_new))
abbrev b3_lis_new : SJ :=
  (jSeq (jAsg (jMethW "Layout" "fill" ["kb", "ka"] w_Layout_fill (jVar 0) (jCons (jVar 2) (jCons (jVar 1) jNil))) (jgName 3))
  (jSeq (jAsg (jDisp [((jC (.str "ka")), (jVar 1)), ((jC (.str "kb")), (jVar 2)), ((jC (.str "kc")), (jC (.non)))]) (jgName 4))
  b2_lis_new))
def q_lis_new : SJ :=
  b3_lis_new
def qf_lis_new : SJ :=
  (jSeq (jAsg (jMethW "Layout" "fill" ["kb", "ka"] w_Layout_fill (jVar 0) (jCons (jVar 2) (jCons (jVar 1) jNil))) (jgName 3))
  (jSeq (jAsg (jDisp [((jC (.str "ka")), (jVar 1)), ((jC (.str "kb")), (jVar 2)), ((jC (.str "kc")), (jC (.non)))]) (jgName 4))
  (jSeq (jIfS (jOr (jTest (jOp neRJ (jVar 3) (jVar 4))) (jTest (jOp neRJ (jCB jListD (jCons (jVar 3) jNil)) (jLst (jCons (jC (.str "ka")) (jCons (jC (.str "kb")) (jCons (jC (.str "kc")) jNil)))))))
  (jRet (jC (.bl false)))
  jNext)
  (jSeq (jAsg (jC (.str "spoilt")) (jgSub (jVar 3) (jC (.str "ka"))))
  (jSeq (jDrop (jBMD popDJ (jVar 3) (jCons (jC (.str "kc")) jNil)))
  (jSeq (jAsg (jMethW "Layout" "fill" ["ka", "kb"] w_Layout_fill (jVar 0) (jCons (jVar 1) (jCons (jVar 2) jNil))) (jgName 5))
  (jRet (jAndV (jOp eqRJ (jVar 5) (jVar 4)) (jAndV (jOp eqRJ (jCB jListD (jCons (jVar 5) jNil)) (jLst (jCons (jC (.str "ka")) (jCons (jC (.str "kb")) (jCons (jC (.str "kc")) jNil))))) (jOp eqRJ (jMethW "Layout" "fill" [] w_Layout_fill (jVar 0) jNil) (jDisp [((jC (.str "ka")), (jC (.non))), ((jC (.str "kb")), (jC (.non))), ((jC (.str "kc")), (jC (.non)))])))))))))))
theorem qe_lis_new : qf_lis_new = q_lis_new := rfl
def w_lis_new : WJ := wOf 3 6 q_lis_new
theorem len_lis_new {K : PySem.W.Frag} : ∀ vs H Q E, spJ K w_lis_new vs H Q E → vs.length = 3 := len_J fun _ _ _ _ h => h.1
theorem fn_lis_new {P : Program} {w : World} {K : PySem.W.Frag} {mg : Str → Option Value} {base : Heap} (T : Txt w K mg) {fd : FuncData} (F : FunD K "_law_is_new" "_law_is_new" (defArgs s_lis_new) (defBody s_lis_new) (defScope s_lis_new) [] [] (He.ga K "_law_is_new") fd) : FnOk P w K mg base (L2N.CX P w) 6 (He.ga K "_law_is_new") fd ["_law_layout", "_law_one", "_law_two"] (spJ K w_lis_new) := by
  refine F.ok (k := 5) sc_lis_new len_lis_new fun cdv A outer s H vs Q E hr h => ?_
  have key : ∃ t, PSs (cxOf (L2N.CX P w) P w K mg base N_lis_new "_law_is_new" (defScope s_lis_new) (He.ga K "_law_is_new") cdv A outer s H E) (defBody s_lis_new) t ∧ Ss K (WE' E) t qf_lis_new := by
    exact ex_of ((pss_cons (ps_set (i := 3) sc_lis_new.nd rfl (Or.inl rfl) (pe_mW (okw_Layout_fill T) kwb_Layout_fill_kb_ka hr (by decide) T.c_Layout T.m_Layout_fill (L2N.takes_of rfl rfl rfl rfl) (pv 0) (pk_cons (pv 2) (pk_cons (pv 1) pk_nil))))
  (pss_cons (ps_set (i := 4) sc_lis_new.nd rfl (Or.inl rfl) (pe_disp (pps_cons pe_str (pv 1) (pps_cons pe_str (pv 2) (pps_cons pe_str pe_non pps_nil))) (by rfl) (by rfl) (by simp) (by decide)))
  (pss_cons (ps_if (PW.pt (pw_or (pt_cmpR (op_neU (hu65 hr)) (pv 3) (pv 4) (nomark _)) (pw_or1 (pt_cmpR (op_neU (hu65 hr)) (pe_callTy (call_listK rfl) (by rfl) T.n_list (by decide +kernel) (pa_cons (pv 3) pa_nil)) (pe_lst (pa_cons pe_str (pa_cons pe_str (pa_cons pe_str pa_nil)))) (nomark _)))))
  (pss_one (ps_ret pe_bl))
  pss_nil)
  (pss_cons (ps_asg pe_str (pg_sub (pv 3) pe_str (set_U (hu_of hr))))
  (pss_cons (ps_expr (pe_bmD PySem.F.slot_dict_pop PySem.F.type_dict_pop mt_popD (pv 3) (pa_cons pe_str pa_nil)))
  (pss_cons (ps_set (i := 5) sc_lis_new.nd rfl (Or.inl rfl) (pe_mW (okw_Layout_fill T) kwb_Layout_fill_ka_kb hr (by decide) T.c_Layout T.m_Layout_fill (L2N.takes_of rfl rfl rfl rfl) (pv 0) (pk_cons (pv 1) (pk_cons (pv 2) pk_nil))))
  (pss_one (ps_ret (pe_and (pe_cmpR (op_eqU (hu65 hr)) (pv 5) (pv 4) (nomark _)) (pe_and (pe_cmpR (op_eqU (hu65 hr)) (pe_callTy (call_listK rfl) (by rfl) T.n_list (by decide +kernel) (pa_cons (pv 5) pa_nil)) (pe_lst (pa_cons pe_str (pa_cons pe_str (pa_cons pe_str pa_nil)))) (nomark _)) (pe_one (pe_cmpR (op_eqU (hu65 hr)) (pe_mW (okw_Layout_fill T) kwb_Layout_fill hr (by decide) T.c_Layout T.m_Layout_fill (L2N.takes_of rfl rfl rfl rfl) (pv 0) pk_nil) (pe_disp (pps_cons pe_str pe_non (pps_cons pe_str pe_non (pps_cons pe_str pe_non pps_nil))) (by rfl) (by rfl) (by simp) (by decide)) (nomark _))))))))))))))
      ((ss_seq (ss_asg (se_methW se_var (sa_cons se_var (sa_cons se_var sa_nil))) sg_name)
  (ss_seq (ss_asg (se_disp (.cons (se_c fun _ => .str _) se_var (.cons (se_c fun _ => .str _) se_var (.cons (se_c fun _ => .str _) (se_c fun _ => .non) .nil)))) sg_name)
  (ss_seq (ss_if (sb_or (sb_test (se_op so_ne se_var se_var)) (sb_test (se_op so_ne (se_cb sf_listD (sa_cons se_var sa_nil)) (se_lst (sa_cons (se_c fun _ => .str _) (sa_cons (se_c fun _ => .str _) (sa_cons (se_c fun _ => .str _) sa_nil)))))))
  (ss_ret (se_c fun _ => .bl _))
  ss_next)
  (ss_seq (ss_asg (se_c fun _ => .str _) (sg_sub se_var (se_c fun _ => .str _)))
  (ss_seq (ss_drop (se_bmD sm_popD se_var (sa_cons (se_c fun _ => .str _) sa_nil)))
  (ss_seq (ss_asg (se_methW se_var (sa_cons se_var (sa_cons se_var sa_nil))) sg_name)
  (ss_ret (se_andV (se_op so_eq se_var se_var) (se_andV (se_op so_eq (se_cb sf_listD (sa_cons se_var sa_nil)) (se_lst (sa_cons (se_c fun _ => .str _) (sa_cons (se_c fun _ => .str _) (sa_cons (se_c fun _ => .str _) sa_nil))))) (se_op so_eq (se_methW se_var sa_nil) (se_disp (.cons (se_c fun _ => .str _) (se_c fun _ => .non) (.cons (se_c fun _ => .str _) (se_c fun _ => .non) (.cons (se_c fun _ => .str _) (se_c fun _ => .non) .nil)))))))))))))))
  obtain ⟨t, h1, h2⟩ := key
  rw [qe_lis_new] at h2
  exact ⟨t, h1, rd_J (n := 3) (N := N_lis_new) h2 h⟩
theorem ok_lis_new {P : Program} {w : World} {K : PySem.W.Frag} {mg : Str → Option Value} {base : Heap} (T : Txt w K mg) : Ok P w K mg base 6 (He.ga K "_law_is_new") ["_law_layout", "_law_one", "_law_two"] [] (spJ K w_lis_new) := by
  obtain ⟨fd, F⟩ := T.f_lis_new
  exact ⟨fd, [], fn_lis_new T F, F.kp, .nil, F.bindsN fun _ _ _ _ _ _ us hl => match us, hl with | [_, _, _], _ => rfl⟩
abbrev b0_law : SJ :=
  (jSeq (jAsg (jDisp [((jC (.str "ka")), (jOp ixJ (jOp ixJ (jVar 5) (jC (.int 0))) (jC (.int 1)))), ((jC (.str "kb")), (jOp ixJ (jOp ixJ (jVar 5) (jC (.int 1))) (jC (.int 1)))), ((jC (.str "kc")), (jOp ixJ (jOp ixJ (jVar 5) (jC (.int 2))) (jC (.int 0))))]) (jgName 7))
  (jIfS (jNot (jTruth (jCall w_ltakes [] (jCons (jVar 2) (jCons (jVar 4) (jCons (jVar 3) (jCons (jVar 7) jNil)))))))
  (jRet (jC (.bl false)))
  jNext))
abbrev b1_law : SJ :=
  (jSeq (jIfS (jOr (jTest (jOp neRJ (jCall w_lsaid [] (jCons (jVar 4) (jCons (jC (.int 3)) (jCons (jOp ixJ (jVar 6) (jC (.int 1))) (jCons (jC (.non)) jNil))))) (jTup (jCons (jC (.str "value")) (jCons (jC (.str "kb")) (jCons (jC (.bl true)) jNil)))))) (jTest (jNotN (jCall w_lsaid [] (jCons (jVar 4) (jCons (jC (.int 3)) (jCons (jC (.non)) (jCons (jC (.non)) jNil))))))))
  (jRet (jC (.bl false)))
  jNext)
  b0_law)
abbrev b2_law : SJ :=
  (jSeq (jIfS (jTest (jOp neRJ (jCall w_lsaid [] (jCons (jVar 4) (jCons (jC (.int 5)) (jCons (jOp ixJ (jVar 6) (jC (.int 1))) (jCons (jC (.non)) jNil))))) (jTup (jCons (jC (.str "field")) (jCons (jC (.str "kd")) (jCons (jC (.bl true)) jNil))))))
  (jRet (jC (.bl false)))
  jNext)
  b1_law)
abbrev b3_law : SJ :=
  (jSeq (jIfS (jTest (jOp neRJ (jCall w_lsaid [] (jCons (jVar 4) (jCons (jC (.int 4)) (jCons (jOp ixJ (jVar 6) (jC (.int 0))) (jCons (jOp ixJ (jOp ixJ (jVar 5) (jC (.int 0))) (jC (.int 0))) jNil))))) (jTup (jCons (jC (.str "field")) (jCons (jC (.str "ke")) (jCons (jC (.bl true)) jNil))))))
  (jRet (jC (.bl false)))
  jNext)
  b2_law)
abbrev b4_law : SJ :=
  (jSeq (jIfS (jTest (jOp neRJ (jCall w_lsaid [] (jCons (jVar 4) (jCons (jC (.int 2)) (jCons (jOp ixJ (jOp ixJ (jVar 5) (jC (.int 0))) (jC (.int 0))) (jCons (jOp ixJ (jVar 6) (jC (.int 0))) jNil))))) (jTup (jCons (jC (.str "field")) (jCons (jC (.str "kd")) (jCons (jC (.bl true)) jNil))))))
  (jRet (jC (.bl false)))
  jNext)
  b3_law)
abbrev b5_law : SJ :=
  (jSeq (jIfS (jTest (jOp neRJ (jCall w_lsaid [] (jCons (jVar 4) (jCons (jC (.int 1)) (jCons (jOp ixJ (jVar 6) (jC (.int 0))) (jCons (jOp ixJ (jOp ixJ (jVar 5) (jC (.int 0))) (jC (.int 0))) jNil))))) (jTup (jCons (jC (.str "field")) (jCons (jC (.str "kd")) (jCons (jC (.bl true)) jNil))))))
  (jRet (jC (.bl false)))
  jNext)
  b4_law)
abbrev b6_law : SJ :=
  (jSeq (jIfS (jTest (jOp neRJ (jCall w_lsaid [] (jCons (jVar 4) (jCons (jC (.int 0)) (jCons (jOp ixJ (jOp ixJ (jVar 5) (jC (.int 1))) (jC (.int 1))) (jCons (jOp ixJ (jVar 6) (jC (.int 2))) jNil))))) (jTup (jCons (jC (.str "value")) (jCons (jC (.str "kc")) (jCons (jC (.bl true)) jNil))))))
  (jRet (jC (.bl false)))
  jNext)
  b5_law)
abbrev b7_law : SJ :=
  (jSeq (jIfS (jTest (jOp neRJ (jCall w_lsaid [] (jCons (jVar 4) (jCons (jC (.int 0)) (jCons (jOp ixJ (jVar 6) (jC (.int 1))) (jCons (jOp ixJ (jVar 6) (jC (.int 2))) jNil))))) (jTup (jCons (jC (.str "value")) (jCons (jC (.str "kb")) (jCons (jC (.bl true)) jNil))))))
  (jRet (jC (.bl false)))
  jNext)
  b6_law)
abbrev b8_law : SJ :=
  (jSeq (jIfS (jOr (jNot (jTruth (jCall w_lis_new [] (jCons (jVar 4) (jCons (jOp ixJ (jOp ixJ (jVar 5) (jC (.int 0))) (jC (.int 0))) (jCons (jOp ixJ (jOp ixJ (jVar 5) (jC (.int 1))) (jC (.int 0))) jNil)))))) (jTest (jOp neRJ (jOp ixJ (jMethW "Layout" "fill" ["kc"] w_Layout_fill (jVar 4) (jCons (jOp ixJ (jOp ixJ (jVar 5) (jC (.int 2))) (jC (.int 1))) jNil)) (jC (.str "kc"))) (jOp ixJ (jOp ixJ (jVar 5) (jC (.int 2))) (jC (.int 1))))))
  (jRet (jC (.bl false)))
  jNext)
  b7_law)
abbrev b9_law : SJ :=
  (jSeq (jAsg (jLc (jIU (jVar 3)) (jgName 10) jYes (jCall w_lworths [] (jCons (jVar 2) (jCons (jVar 10) jNil))) [8, 10]) (jgName 5))
  (jSeq (jAsg (jLc (jIU (jVar 3)) (jgName 10) jYes (jCall w_lwrong [] (jCons (jVar 2) (jCons (jVar 10) jNil))) [8, 10]) (jgName 6))
  b8_law))
abbrev b10_law : SJ :=
  (jSeq (jAsg (jMake "Layout" w_Layout__init [] (jCons (jLst (jCons (jTup (jCons (jC (.str "ka")) (jCons (jOp ixJ (jVar 3) (jC (.int 0))) jNil))) (jCons (jTup (jCons (jC (.str "kb")) (jCons (jOp ixJ (jVar 3) (jC (.int 1))) jNil))) (jCons (jTup (jCons (jC (.str "kc")) (jCons (jOp ixJ (jVar 3) (jC (.int 2))) jNil))) jNil)))) jNil)) (jgName 4))
  b9_law)
abbrev b11_law : SJ :=
  (jSeq (jAsg (jLc (jRng1 (jCons (jC (.int 3)) jNil)) (jgName 9) jYes (jCall w_lof [] (jCons (jVar 2) (jCons (jLst (jCons (jC (.str "number")) (jCons (jC (.str "word")) jNil))) jNil))) [8, 9]) (jgName 3))
  b10_law)
abbrev b12_law : SJ :=
  (jSeq (jFor (jRng1 (jCons (jCB jMax2 (jCons (jC (.int 1)) (jCons (jCB jMin2 (jCons (jC (.int 6)) (jCons (jCB lenJ (jCons (jVar 0) jNil)) jNil))) jNil))) jNil)) (jgName 1)
  (jSeq (jAsg (jCall w_lbag [] (jCons (jVar 0) (jCons (jVar 1) jNil))) (jgName 2))
  b11_law))
  (jRet (jC (.bl true))))
def q_law : SJ :=
  b12_law
def qf_law : SJ :=
  (jSeq (jFor (jRng1 (jCons (jCB jMax2 (jCons (jC (.int 1)) (jCons (jCB jMin2 (jCons (jC (.int 6)) (jCons (jCB lenJ (jCons (jVar 0) jNil)) jNil))) jNil))) jNil)) (jgName 1)
  (jSeq (jAsg (jCall w_lbag [] (jCons (jVar 0) (jCons (jVar 1) jNil))) (jgName 2))
  (jSeq (jAsg (jLc (jRng1 (jCons (jC (.int 3)) jNil)) (jgName 9) jYes (jCall w_lof [] (jCons (jVar 2) (jCons (jLst (jCons (jC (.str "number")) (jCons (jC (.str "word")) jNil))) jNil))) [8, 9]) (jgName 3))
  (jSeq (jAsg (jMake "Layout" w_Layout__init [] (jCons (jLst (jCons (jTup (jCons (jC (.str "ka")) (jCons (jOp ixJ (jVar 3) (jC (.int 0))) jNil))) (jCons (jTup (jCons (jC (.str "kb")) (jCons (jOp ixJ (jVar 3) (jC (.int 1))) jNil))) (jCons (jTup (jCons (jC (.str "kc")) (jCons (jOp ixJ (jVar 3) (jC (.int 2))) jNil))) jNil)))) jNil)) (jgName 4))
  (jSeq (jAsg (jLc (jIU (jVar 3)) (jgName 10) jYes (jCall w_lworths [] (jCons (jVar 2) (jCons (jVar 10) jNil))) [8, 10]) (jgName 5))
  (jSeq (jAsg (jLc (jIU (jVar 3)) (jgName 10) jYes (jCall w_lwrong [] (jCons (jVar 2) (jCons (jVar 10) jNil))) [8, 10]) (jgName 6))
  (jSeq (jIfS (jOr (jNot (jTruth (jCall w_lis_new [] (jCons (jVar 4) (jCons (jOp ixJ (jOp ixJ (jVar 5) (jC (.int 0))) (jC (.int 0))) (jCons (jOp ixJ (jOp ixJ (jVar 5) (jC (.int 1))) (jC (.int 0))) jNil)))))) (jTest (jOp neRJ (jOp ixJ (jMethW "Layout" "fill" ["kc"] w_Layout_fill (jVar 4) (jCons (jOp ixJ (jOp ixJ (jVar 5) (jC (.int 2))) (jC (.int 1))) jNil)) (jC (.str "kc"))) (jOp ixJ (jOp ixJ (jVar 5) (jC (.int 2))) (jC (.int 1))))))
  (jRet (jC (.bl false)))
  jNext)
  (jSeq (jIfS (jTest (jOp neRJ (jCall w_lsaid [] (jCons (jVar 4) (jCons (jC (.int 0)) (jCons (jOp ixJ (jVar 6) (jC (.int 1))) (jCons (jOp ixJ (jVar 6) (jC (.int 2))) jNil))))) (jTup (jCons (jC (.str "value")) (jCons (jC (.str "kb")) (jCons (jC (.bl true)) jNil))))))
  (jRet (jC (.bl false)))
  jNext)
  (jSeq (jIfS (jTest (jOp neRJ (jCall w_lsaid [] (jCons (jVar 4) (jCons (jC (.int 0)) (jCons (jOp ixJ (jOp ixJ (jVar 5) (jC (.int 1))) (jC (.int 1))) (jCons (jOp ixJ (jVar 6) (jC (.int 2))) jNil))))) (jTup (jCons (jC (.str "value")) (jCons (jC (.str "kc")) (jCons (jC (.bl true)) jNil))))))
  (jRet (jC (.bl false)))
  jNext)
  (jSeq (jIfS (jTest (jOp neRJ (jCall w_lsaid [] (jCons (jVar 4) (jCons (jC (.int 1)) (jCons (jOp ixJ (jVar 6) (jC (.int 0))) (jCons (jOp ixJ (jOp ixJ (jVar 5) (jC (.int 0))) (jC (.int 0))) jNil))))) (jTup (jCons (jC (.str "field")) (jCons (jC (.str "kd")) (jCons (jC (.bl true)) jNil))))))
  (jRet (jC (.bl false)))
  jNext)
  (jSeq (jIfS (jTest (jOp neRJ (jCall w_lsaid [] (jCons (jVar 4) (jCons (jC (.int 2)) (jCons (jOp ixJ (jOp ixJ (jVar 5) (jC (.int 0))) (jC (.int 0))) (jCons (jOp ixJ (jVar 6) (jC (.int 0))) jNil))))) (jTup (jCons (jC (.str "field")) (jCons (jC (.str "kd")) (jCons (jC (.bl true)) jNil))))))
  (jRet (jC (.bl false)))
  jNext)
  (jSeq (jIfS (jTest (jOp neRJ (jCall w_lsaid [] (jCons (jVar 4) (jCons (jC (.int 4)) (jCons (jOp ixJ (jVar 6) (jC (.int 0))) (jCons (jOp ixJ (jOp ixJ (jVar 5) (jC (.int 0))) (jC (.int 0))) jNil))))) (jTup (jCons (jC (.str "field")) (jCons (jC (.str "ke")) (jCons (jC (.bl true)) jNil))))))
  (jRet (jC (.bl false)))
  jNext)
  (jSeq (jIfS (jTest (jOp neRJ (jCall w_lsaid [] (jCons (jVar 4) (jCons (jC (.int 5)) (jCons (jOp ixJ (jVar 6) (jC (.int 1))) (jCons (jC (.non)) jNil))))) (jTup (jCons (jC (.str "field")) (jCons (jC (.str "kd")) (jCons (jC (.bl true)) jNil))))))
  (jRet (jC (.bl false)))
  jNext)
  (jSeq (jIfS (jOr (jTest (jOp neRJ (jCall w_lsaid [] (jCons (jVar 4) (jCons (jC (.int 3)) (jCons (jOp ixJ (jVar 6) (jC (.int 1))) (jCons (jC (.non)) jNil))))) (jTup (jCons (jC (.str "value")) (jCons (jC (.str "kb")) (jCons (jC (.bl true)) jNil)))))) (jTest (jNotN (jCall w_lsaid [] (jCons (jVar 4) (jCons (jC (.int 3)) (jCons (jC (.non)) (jCons (jC (.non)) jNil))))))))
  (jRet (jC (.bl false)))
  jNext)
  (jSeq (jAsg (jDisp [((jC (.str "ka")), (jOp ixJ (jOp ixJ (jVar 5) (jC (.int 0))) (jC (.int 1)))), ((jC (.str "kb")), (jOp ixJ (jOp ixJ (jVar 5) (jC (.int 1))) (jC (.int 1)))), ((jC (.str "kc")), (jOp ixJ (jOp ixJ (jVar 5) (jC (.int 2))) (jC (.int 0))))]) (jgName 7))
  (jIfS (jNot (jTruth (jCall w_ltakes [] (jCons (jVar 2) (jCons (jVar 4) (jCons (jVar 3) (jCons (jVar 7) jNil)))))))
  (jRet (jC (.bl false)))
  jNext))))))))))))))))
  (jRet (jC (.bl true))))
theorem qe_law : qf_law = q_law := rfl
def w_law : WJ := wOf 1 11 q_law
theorem len_law {K : PySem.W.Frag} : ∀ vs H Q E, spJ K w_law vs H Q E → vs.length = 1 := len_J fun _ _ _ _ h => h.1
theorem fn_law {P : Program} {w : World} {K : PySem.W.Frag} {mg : Str → Option Value} {base : Heap} (T : Txt w K mg) {fd : FuncData} (F : FunD K "law" "law" (defArgs s_law) (defBody s_law) (defScope s_law) [] [] (He.ga K "law") fd) : FnG P w K mg base (L2N.CX P w) 7 (He.ga K "law") fd ["_law_script"] (spJ K w_law) := by
  refine fnG_of F (k := 6) sc_law len_law fun cdv A outer s H vs Q E gd hr h => ?_
  have key : ∃ t, PSs (cxOf (L2N.CX P w) P w K mg base N_law "law" (defScope s_law) (He.ga K "law") cdv A outer s H E) (defBody s_law) t ∧ Ss K (WE' E) t qf_law := by
    exact ex_of ((pss_cons (ps_for (passes_of rfl) rfl (pi_range1 (by rfl) T.n_range (pa_cons (pe_callB (call_max2 rfl) (by rfl) T.n_max (by decide +kernel) (pa_cons pe_int (pa_cons (pe_callB (call_min2 rfl) (by rfl) T.n_min (by decide +kernel) (pa_cons pe_int (pa_cons (pe_callB call_lenU (by rfl) T.n_len (by decide +kernel) (pa_cons (pv 0) pa_nil)) pa_nil))) pa_nil))) pa_nil)) (pg_name (i := 1) sc_law.nd rfl (Or.inl rfl))
  (pss_cons (ps_set (i := 2) sc_law.nd rfl (Or.inr rfl) (pe_cU (ok_lbag T) hr (by decide) T.g__law_bag (L2N.takes_of rfl rfl rfl rfl) (pa_cons (pv 0) (pa_cons (pv 1) pa_nil))))
  (pss_cons (ps_setLc (i := 3) (own := [(".0", 8), ("_law_turn", 9)]) rfl sc_law.nd rfl rfl (sw_true rfl rfl rfl (by decide +kernel)) (pi_range1 (by rfl) T.n_range (pa_cons pe_int pa_nil)) (blkOk_by (own := [(".0", 8), ("_law_turn", 9)]) (N := N_law) (sc := defScope s_law) (by decide +kernel)) (fun _ _ _ _ _ => (pg_name (i := 9) sc_law.nd rfl (Or.inl rfl))) (fun _ _ _ _ _ => pts_nil) (fun _ _ _ _ _ => (pe_cU (ok_lof T) hr (by decide) T.g__law_of takesN0 (pa_cons (pv 2) (pa_cons (pe_lst (pa_cons pe_str (pa_cons pe_str pa_nil))) pa_nil)))))
  (pss_cons (ps_set (i := 4) sc_law.nd rfl (Or.inl rfl) (pe_kU T.k_Layout (ok_Layout__init T) hr (by decide) T.g_Layout (L2N.takes_of rfl rfl rfl rfl) (pa_cons (pe_lst (pa_cons (pe_tup (pa_cons pe_str (pa_cons (pe_ix (ix_U (hu_of hr)) (pv 3) pe_int (fun _ _ => rfl)) pa_nil))) (pa_cons (pe_tup (pa_cons pe_str (pa_cons (pe_ix (ix_U (hu_of hr)) (pv 3) pe_int (fun _ _ => rfl)) pa_nil))) (pa_cons (pe_tup (pa_cons pe_str (pa_cons (pe_ix (ix_U (hu_of hr)) (pv 3) pe_int (fun _ _ => rfl)) pa_nil))) pa_nil)))) pa_nil)))
  (pss_cons (ps_setLc (i := 5) (own := [(".0", 8), ("_law_kind", 10)]) rfl sc_law.nd rfl rfl (sw_true rfl rfl rfl (by decide +kernel)) (pi_U (pv 3)) (blkOk_by (own := [(".0", 8), ("_law_kind", 10)]) (N := N_law) (sc := defScope s_law) (by decide +kernel)) (fun _ _ _ _ _ => (pg_name (i := 10) sc_law.nd rfl (Or.inl rfl))) (fun _ _ _ _ _ => pts_nil) (fun _ _ _ _ _ => (pe_cU (ok_lworths T) hr (by decide) T.g__law_worths takesN0 (pa_cons (pv 2) (pa_cons (pv 10) pa_nil)))))
  (pss_cons (ps_setLc (i := 6) (own := [(".0", 8), ("_law_kind", 10)]) rfl sc_law.nd rfl rfl (sw_true rfl rfl rfl (by decide +kernel)) (pi_U (pv 3)) (blkOk_by (own := [(".0", 8), ("_law_kind", 10)]) (N := N_law) (sc := defScope s_law) (by decide +kernel)) (fun _ _ _ _ _ => (pg_name (i := 10) sc_law.nd rfl (Or.inl rfl))) (fun _ _ _ _ _ => pts_nil) (fun _ _ _ _ _ => (pe_cU (ok_lwrong T) hr (by decide) T.g__law_wrong takesN0 (pa_cons (pv 2) (pa_cons (pv 10) pa_nil)))))
  (pss_cons (ps_if (PW.pt (pw_or (pt_not (pt_tru (pe_cU (ok_lis_new T) hr (by decide) T.g__law_is_new (L2N.takes_of rfl rfl rfl rfl) (pa_cons (pv 4) (pa_cons (pe_ix (ix_U (hu_of hr)) (pe_ix (ix_U (hu_of hr)) (pv 5) pe_int (fun _ _ => rfl)) pe_int (fun _ _ => rfl)) (pa_cons (pe_ix (ix_U (hu_of hr)) (pe_ix (ix_U (hu_of hr)) (pv 5) pe_int (fun _ _ => rfl)) pe_int (fun _ _ => rfl)) pa_nil)))))) (pw_or1 (pt_cmpR (op_neU (hu65 hr)) (pe_ix (ix_U (hu_of hr)) (pe_mW (okw_Layout_fill T) kwb_Layout_fill_kc hr (by decide) T.c_Layout T.m_Layout_fill (L2N.takes_of rfl rfl rfl rfl) (pv 4) (pk_cons (pe_ix (ix_U (hu_of hr)) (pe_ix (ix_U (hu_of hr)) (pv 5) pe_int (fun _ _ => rfl)) pe_int (fun _ _ => rfl)) pk_nil)) pe_str (fun _ _ => rfl)) (pe_ix (ix_U (hu_of hr)) (pe_ix (ix_U (hu_of hr)) (pv 5) pe_int (fun _ _ => rfl)) pe_int (fun _ _ => rfl)) (nomark _)))))
  (pss_one (ps_ret pe_bl))
  pss_nil)
  (pss_cons (ps_if (pt_cmpR (op_neU (hu65 hr)) (pe_cU (ok_lsaid T) hr (by decide) T.g__law_said (L2N.takes_of rfl rfl rfl rfl) (pa_cons (pv 4) (pa_cons pe_int (pa_cons (pe_ix (ix_U (hu_of hr)) (pv 6) pe_int (fun _ _ => rfl)) (pa_cons (pe_ix (ix_U (hu_of hr)) (pv 6) pe_int (fun _ _ => rfl)) pa_nil))))) (pe_tup (pa_cons pe_str (pa_cons pe_str (pa_cons pe_bl pa_nil)))) (nomark _))
  (pss_one (ps_ret pe_bl))
  pss_nil)
  (pss_cons (ps_if (pt_cmpR (op_neU (hu65 hr)) (pe_cU (ok_lsaid T) hr (by decide) T.g__law_said (L2N.takes_of rfl rfl rfl rfl) (pa_cons (pv 4) (pa_cons pe_int (pa_cons (pe_ix (ix_U (hu_of hr)) (pe_ix (ix_U (hu_of hr)) (pv 5) pe_int (fun _ _ => rfl)) pe_int (fun _ _ => rfl)) (pa_cons (pe_ix (ix_U (hu_of hr)) (pv 6) pe_int (fun _ _ => rfl)) pa_nil))))) (pe_tup (pa_cons pe_str (pa_cons pe_str (pa_cons pe_bl pa_nil)))) (nomark _))
  (pss_one (ps_ret pe_bl))
  pss_nil)
  (pss_cons (ps_if (pt_cmpR (op_neU (hu65 hr)) (pe_cU (ok_lsaid T) hr (by decide) T.g__law_said (L2N.takes_of rfl rfl rfl rfl) (pa_cons (pv 4) (pa_cons pe_int (pa_cons (pe_ix (ix_U (hu_of hr)) (pv 6) pe_int (fun _ _ => rfl)) (pa_cons (pe_ix (ix_U (hu_of hr)) (pe_ix (ix_U (hu_of hr)) (pv 5) pe_int (fun _ _ => rfl)) pe_int (fun _ _ => rfl)) pa_nil))))) (pe_tup (pa_cons pe_str (pa_cons pe_str (pa_cons pe_bl pa_nil)))) (nomark _))
  (pss_one (ps_ret pe_bl))
  pss_nil)
  (pss_cons (ps_if (pt_cmpR (op_neU (hu65 hr)) (pe_cU (ok_lsaid T) hr (by decide) T.g__law_said (L2N.takes_of rfl rfl rfl rfl) (pa_cons (pv 4) (pa_cons pe_int (pa_cons (pe_ix (ix_U (hu_of hr)) (pe_ix (ix_U (hu_of hr)) (pv 5) pe_int (fun _ _ => rfl)) pe_int (fun _ _ => rfl)) (pa_cons (pe_ix (ix_U (hu_of hr)) (pv 6) pe_int (fun _ _ => rfl)) pa_nil))))) (pe_tup (pa_cons pe_str (pa_cons pe_str (pa_cons pe_bl pa_nil)))) (nomark _))
  (pss_one (ps_ret pe_bl))
  pss_nil)
  (pss_cons (ps_if (pt_cmpR (op_neU (hu65 hr)) (pe_cU (ok_lsaid T) hr (by decide) T.g__law_said (L2N.takes_of rfl rfl rfl rfl) (pa_cons (pv 4) (pa_cons pe_int (pa_cons (pe_ix (ix_U (hu_of hr)) (pv 6) pe_int (fun _ _ => rfl)) (pa_cons (pe_ix (ix_U (hu_of hr)) (pe_ix (ix_U (hu_of hr)) (pv 5) pe_int (fun _ _ => rfl)) pe_int (fun _ _ => rfl)) pa_nil))))) (pe_tup (pa_cons pe_str (pa_cons pe_str (pa_cons pe_bl pa_nil)))) (nomark _))
  (pss_one (ps_ret pe_bl))
  pss_nil)
  (pss_cons (ps_if (pt_cmpR (op_neU (hu65 hr)) (pe_cU (ok_lsaid T) hr (by decide) T.g__law_said (L2N.takes_of rfl rfl rfl rfl) (pa_cons (pv 4) (pa_cons pe_int (pa_cons (pe_ix (ix_U (hu_of hr)) (pv 6) pe_int (fun _ _ => rfl)) (pa_cons pe_non pa_nil))))) (pe_tup (pa_cons pe_str (pa_cons pe_str (pa_cons pe_bl pa_nil)))) (nomark _))
  (pss_one (ps_ret pe_bl))
  pss_nil)
  (pss_cons (ps_if (PW.pt (pw_or (pt_cmpR (op_neU (hu65 hr)) (pe_cU (ok_lsaid T) hr (by decide) T.g__law_said (L2N.takes_of rfl rfl rfl rfl) (pa_cons (pv 4) (pa_cons pe_int (pa_cons (pe_ix (ix_U (hu_of hr)) (pv 6) pe_int (fun _ _ => rfl)) (pa_cons pe_non pa_nil))))) (pe_tup (pa_cons pe_str (pa_cons pe_str (pa_cons pe_bl pa_nil)))) (nomark _)) (pw_or1 (pt_cmp (pc_notN (pe_cU (ok_lsaid T) hr (by decide) T.g__law_said (L2N.takes_of rfl rfl rfl rfl) (pa_cons (pv 4) (pa_cons pe_int (pa_cons pe_non (pa_cons pe_non pa_nil)))))) rfl))))
  (pss_one (ps_ret pe_bl))
  pss_nil)
  (pss_cons (ps_set (i := 7) sc_law.nd rfl (Or.inl rfl) (pe_disp (pps_cons pe_str (pe_ix (ix_U (hu_of hr)) (pe_ix (ix_U (hu_of hr)) (pv 5) pe_int (fun _ _ => rfl)) pe_int (fun _ _ => rfl)) (pps_cons pe_str (pe_ix (ix_U (hu_of hr)) (pe_ix (ix_U (hu_of hr)) (pv 5) pe_int (fun _ _ => rfl)) pe_int (fun _ _ => rfl)) (pps_cons pe_str (pe_ix (ix_U (hu_of hr)) (pe_ix (ix_U (hu_of hr)) (pv 5) pe_int (fun _ _ => rfl)) pe_int (fun _ _ => rfl)) pps_nil))) (by rfl) (by rfl) (by simp) (by decide)))
  (pss_one (ps_if (pt_not (pt_tru (pe_cG (ok_ltakes T) gd hr (by decide) T.g__law_takes (L2N.takes_of rfl rfl rfl rfl) (pa_cons (pv 2) (pa_cons (pv 4) (pa_cons (pv 3) (pa_cons (pv 7) pa_nil)))))))
  (pss_one (ps_ret pe_bl))
  pss_nil)))))))))))))))))
  (pss_one (ps_ret pe_bl))))
      ((ss_seq (ss_for (si_rng1 (sa_cons (se_cb sf_max2 (sa_cons (se_c fun _ => .int _) (sa_cons (se_cb sf_min2 (sa_cons (se_c fun _ => .int _) (sa_cons (se_cb sf_len (sa_cons se_var sa_nil)) sa_nil))) sa_nil))) sa_nil)) sg_name
  (ss_seq (ss_asg (se_callU (fun _ => .nil) (sa_cons se_var (sa_cons se_var sa_nil))) sg_name)
  (ss_seq (ss_asg (se_lc (vs := [8, 9]) (si_rng1 (sa_cons (se_c fun _ => .int _) sa_nil)) (sgw_name (by decide)) sb_yes (se_callU (fun _ => .nil) (sa_cons se_var (sa_cons (se_lst (sa_cons (se_c fun _ => .str _) (sa_cons (se_c fun _ => .str _) sa_nil))) sa_nil)))) sg_name)
  (ss_seq (ss_asg (se_makeU (fun _ => .nil) (sa_cons (se_lst (sa_cons (se_tup (sa_cons (se_c fun _ => .str _) (sa_cons (se_op so_ix se_var (se_c fun _ => .int _)) sa_nil))) (sa_cons (se_tup (sa_cons (se_c fun _ => .str _) (sa_cons (se_op so_ix se_var (se_c fun _ => .int _)) sa_nil))) (sa_cons (se_tup (sa_cons (se_c fun _ => .str _) (sa_cons (se_op so_ix se_var (se_c fun _ => .int _)) sa_nil))) sa_nil)))) sa_nil)) sg_name)
  (ss_seq (ss_asg (se_lc (vs := [8, 10]) (si_U se_var) (sgw_name (by decide)) sb_yes (se_callU (fun _ => .nil) (sa_cons se_var (sa_cons se_var sa_nil)))) sg_name)
  (ss_seq (ss_asg (se_lc (vs := [8, 10]) (si_U se_var) (sgw_name (by decide)) sb_yes (se_callU (fun _ => .nil) (sa_cons se_var (sa_cons se_var sa_nil)))) sg_name)
  (ss_seq (ss_if (sb_or (sb_not (sb_truth (se_callU (fun _ => .nil) (sa_cons se_var (sa_cons (se_op so_ix (se_op so_ix se_var (se_c fun _ => .int _)) (se_c fun _ => .int _)) (sa_cons (se_op so_ix (se_op so_ix se_var (se_c fun _ => .int _)) (se_c fun _ => .int _)) sa_nil)))))) (sb_test (se_op so_ne (se_op so_ix (se_methW se_var (sa_cons (se_op so_ix (se_op so_ix se_var (se_c fun _ => .int _)) (se_c fun _ => .int _)) sa_nil)) (se_c fun _ => .str _)) (se_op so_ix (se_op so_ix se_var (se_c fun _ => .int _)) (se_c fun _ => .int _)))))
  (ss_ret (se_c fun _ => .bl _))
  ss_next)
  (ss_seq (ss_if (sb_test (se_op so_ne (se_callU (fun _ => .nil) (sa_cons se_var (sa_cons (se_c fun _ => .int _) (sa_cons (se_op so_ix se_var (se_c fun _ => .int _)) (sa_cons (se_op so_ix se_var (se_c fun _ => .int _)) sa_nil))))) (se_tup (sa_cons (se_c fun _ => .str _) (sa_cons (se_c fun _ => .str _) (sa_cons (se_c fun _ => .bl _) sa_nil))))))
  (ss_ret (se_c fun _ => .bl _))
  ss_next)
  (ss_seq (ss_if (sb_test (se_op so_ne (se_callU (fun _ => .nil) (sa_cons se_var (sa_cons (se_c fun _ => .int _) (sa_cons (se_op so_ix (se_op so_ix se_var (se_c fun _ => .int _)) (se_c fun _ => .int _)) (sa_cons (se_op so_ix se_var (se_c fun _ => .int _)) sa_nil))))) (se_tup (sa_cons (se_c fun _ => .str _) (sa_cons (se_c fun _ => .str _) (sa_cons (se_c fun _ => .bl _) sa_nil))))))
  (ss_ret (se_c fun _ => .bl _))
  ss_next)
  (ss_seq (ss_if (sb_test (se_op so_ne (se_callU (fun _ => .nil) (sa_cons se_var (sa_cons (se_c fun _ => .int _) (sa_cons (se_op so_ix se_var (se_c fun _ => .int _)) (sa_cons (se_op so_ix (se_op so_ix se_var (se_c fun _ => .int _)) (se_c fun _ => .int _)) sa_nil))))) (se_tup (sa_cons (se_c fun _ => .str _) (sa_cons (se_c fun _ => .str _) (sa_cons (se_c fun _ => .bl _) sa_nil))))))
  (ss_ret (se_c fun _ => .bl _))
  ss_next)
  (ss_seq (ss_if (sb_test (se_op so_ne (se_callU (fun _ => .nil) (sa_cons se_var (sa_cons (se_c fun _ => .int _) (sa_cons (se_op so_ix (se_op so_ix se_var (se_c fun _ => .int _)) (se_c fun _ => .int _)) (sa_cons (se_op so_ix se_var (se_c fun _ => .int _)) sa_nil))))) (se_tup (sa_cons (se_c fun _ => .str _) (sa_cons (se_c fun _ => .str _) (sa_cons (se_c fun _ => .bl _) sa_nil))))))
  (ss_ret (se_c fun _ => .bl _))
  ss_next)
  (ss_seq (ss_if (sb_test (se_op so_ne (se_callU (fun _ => .nil) (sa_cons se_var (sa_cons (se_c fun _ => .int _) (sa_cons (se_op so_ix se_var (se_c fun _ => .int _)) (sa_cons (se_op so_ix (se_op so_ix se_var (se_c fun _ => .int _)) (se_c fun _ => .int _)) sa_nil))))) (se_tup (sa_cons (se_c fun _ => .str _) (sa_cons (se_c fun _ => .str _) (sa_cons (se_c fun _ => .bl _) sa_nil))))))
  (ss_ret (se_c fun _ => .bl _))
  ss_next)
  (ss_seq (ss_if (sb_test (se_op so_ne (se_callU (fun _ => .nil) (sa_cons se_var (sa_cons (se_c fun _ => .int _) (sa_cons (se_op so_ix se_var (se_c fun _ => .int _)) (sa_cons (se_c fun _ => .non) sa_nil))))) (se_tup (sa_cons (se_c fun _ => .str _) (sa_cons (se_c fun _ => .str _) (sa_cons (se_c fun _ => .bl _) sa_nil))))))
  (ss_ret (se_c fun _ => .bl _))
  ss_next)
  (ss_seq (ss_if (sb_or (sb_test (se_op so_ne (se_callU (fun _ => .nil) (sa_cons se_var (sa_cons (se_c fun _ => .int _) (sa_cons (se_op so_ix se_var (se_c fun _ => .int _)) (sa_cons (se_c fun _ => .non) sa_nil))))) (se_tup (sa_cons (se_c fun _ => .str _) (sa_cons (se_c fun _ => .str _) (sa_cons (se_c fun _ => .bl _) sa_nil)))))) (sb_B (se_notN (se_callU (fun _ => .nil) (sa_cons se_var (sa_cons (se_c fun _ => .int _) (sa_cons (se_c fun _ => .non) (sa_cons (se_c fun _ => .non) sa_nil))))))))
  (ss_ret (se_c fun _ => .bl _))
  ss_next)
  (ss_seq (ss_asg (se_disp (.cons (se_c fun _ => .str _) (se_op so_ix (se_op so_ix se_var (se_c fun _ => .int _)) (se_c fun _ => .int _)) (.cons (se_c fun _ => .str _) (se_op so_ix (se_op so_ix se_var (se_c fun _ => .int _)) (se_c fun _ => .int _)) (.cons (se_c fun _ => .str _) (se_op so_ix (se_op so_ix se_var (se_c fun _ => .int _)) (se_c fun _ => .int _)) .nil)))) sg_name)
  (ss_if (sb_not (sb_truth (se_callU (fun _ => .nil) (sa_cons se_var (sa_cons se_var (sa_cons se_var (sa_cons se_var sa_nil)))))))
  (ss_ret (se_c fun _ => .bl _))
  ss_next))))))))))))))))
  (ss_ret (se_c fun _ => .bl _))))
  obtain ⟨t, h1, h2⟩ := key
  rw [qe_law] at h2
  exact ⟨t, h1, rd_J (n := 1) (N := N_law) h2 h⟩
def lets : Str := "abcdefghijklmnopqrstuvwxyz"
def isWordS (z : Str) : Bool := decide (1 ≤ (z.length : Int)) && (decide ((z.length : Int) ≤ 8) && z.cps.toList.all fun c => decide (c ∈ lets.cps.toList))
def isWord : J → Bool
  | .str z => isWordS z
  | _ => false
theorem word_len {z : Str} (h : isWordS z = true) : 1 ≤ z.length ∧ z.length ≤ 8 := by
  unfold isWordS at h
  rw [Bool.and_eq_true, Bool.and_eq_true] at h
  have h1 := of_decide_eq_true h.1
  have h2 := of_decide_eq_true h.2.1
  omega
theorem word_let {z : Str} (h : isWordS z = true) : ∀ c ∈ z.cps.toList, c ∈ lets.cps.toList := by
  unfold isWordS at h
  rw [Bool.and_eq_true, Bool.and_eq_true, List.all_eq_true] at h
  exact fun c hc => of_decide_eq_true (h.2.2 c hc)
theorem let_lt {c : Nat} (h : c ∈ lets.cps.toList) : 97 ≤ c ∧ c ≤ 122 := by
  have e : lets.cps.toList = [97, 98, 99, 100, 101, 102, 103, 104, 105, 106, 107, 108, 109, 110, 111, 112, 113, 114, 115, 116, 117, 118, 119, 120, 121, 122] := by decide +kernel
  rw [e] at h
  simp only [List.mem_cons, List.not_mem_nil, or_false] at h
  omega
theorem let_of {c : Nat} (h : 97 ≤ c ∧ c ≤ 122) : c ∈ lets.cps.toList := by
  have e : lets.cps.toList = [97, 98, 99, 100, 101, 102, 103, 104, 105, 106, 107, 108, 109, 110, 111, 112, 113, 114, 115, 116, 117, 118, 119, 120, 121, 122] := by decide +kernel
  rw [e]
  simp only [List.mem_cons, List.not_mem_nil, or_false]
  omega
theorem isWordS_of {z : Str} (h1 : 1 ≤ z.length) (h2 : z.length ≤ 8) (h3 : ∀ c ∈ z.cps.toList, 97 ≤ c ∧ c ≤ 122) : isWordS z = true := by
  unfold isWordS
  rw [decide_eq_true (by omega), decide_eq_true (by omega), Bool.true_and, Bool.true_and, List.all_eq_true]
  exact fun c hc => decide_eq_true (let_of (h3 c hc))
theorem word_ok {z : Str} {n : Nat} (h : isWordS z = true) : J.okd n (.str z) = true := by
  have := word_len h
  refine okd_str (by omega) fun c hc => ?_
  have := let_lt (word_let h c hc)
  omega
theorem is_word_ok {d : J} {t : String} {s : Sto} {Q : QJ} {R : XJ} (ht : tyJ s d = some t) (hz : ∀ z, d = .str z → z.length ≤ 100000) (q : Q (.bl (isWord d)) s) : w_is_word [d] s Q R := by
  refine w_of ?_
  unfold q_is_word
  walk_at "y"
  by_cases c : ∃ z, d = .str z
  · obtain ⟨z, rfl⟩ := c
    have hz := hz z rfl
    walk_at "y"
    refine y_len_s hz ?_
    walk_at "y"
    have e : isWord (.str z) = isWordS z := rfl
    rw [e] at q
    unfold isWordS at q
    refine ite_d (fun c1 => ?_) (fun c1 => ?_)
    · rw [decide_eq_true c1, Bool.true_and] at q
      walk_at "y"
      refine ite_nd (fun c2 => ?_) (fun c2 => ?_)
      · rw [decide_eq_true c2, Bool.true_and] at q
        walk_at "y"
        refine lc_map (fun x => .bl (match x with | .str ⟨#[c]⟩ => decide (c ∈ lets.cps.toList) | _ => false)) (by unfold sgns; simp; exact hz) trivial ?_ ?_
        · intro x hx Y hy
          unfold sgns at hx
          obtain ⟨n, hn, rfl⟩ := List.mem_map.mp hx
          walk_at "y"
          exact hy
        · walk_at "y"
          have e2 : (sgns z).map (fun x => J.bl (match x with | .str ⟨#[c]⟩ => decide (c ∈ lets.cps.toList) | _ => false)) = (z.cps.toList.map fun c => decide (c ∈ lets.cps.toList)).map J.bl := by
            unfold sgns
            rw [List.map_map, List.map_map]
            rfl
          rw [e2]
          refine y_all ?_
          rw [restr_id, List.all_map]
          exact q
      · rw [decide_eq_false c2, Bool.false_and] at q
        walk_at "y"
        rw [restr_id]
        exact q
    · rw [decide_eq_false c1, Bool.false_and] at q
      walk_at "y"
      rw [restr_id]
      exact q
  · have e : isWord d = false := by
      cases d with
      | str z => exact absurd ⟨z, rfl⟩ c
      | _ => rfl
    have nt : isT t "str" = false := isT_str ht fun z e => c ⟨z, e⟩
    refine y_isi ht ?_
    rw [nt]
    walk_at "y"
    rw [restr_id]
    rw [e] at q
    exact q
def resL : List Str := ["and", "or", "not", "in", "given", "true", "false", "blank", "number", "word", "needs", "instead", "after", "blames", "check", "guard", "barrier", "repair", "default", "exit", "self"]
def isNameS (z : Str) : Bool := isWordS z && !decide (z ∈ resL)
def isName : J → Bool
  | .str z => isNameS z
  | _ => false
theorem eqJ_str (a b : Str) : eqJ (.str a) (.str b) = decide (a = b) := by
  unfold eqJ J.py PyData.eqv
  by_cases h : a = b
  · subst h; simp
  · simp [h]
theorem any_strs (z : Str) (l : List Str) : ((l.map J.str).any fun x => eqJ x (.str z)) = decide (z ∈ l) := by
  induction l with
  | nil => rfl
  | cons a l ih =>
    rw [List.map_cons, List.any_cons, ih, eqJ_str]
    by_cases h : a = z
    · subst h; simp
    · have h' : z ≠ a := fun e => h e.symm
      simp [h, h']
theorem res_okL : (J.tup (resL.map J.str)).ok = true := by decide +kernel
theorem is_name_ok {d : J} {t : String} {s : Sto} {Q : QJ} {R : XJ} (ht : tyJ s d = some t) (hz : ∀ z, d = .str z → z.length ≤ 100000) (q : Q (.bl (isName d)) s) : w_is_name [d] s Q R := by
  refine w_of ?_
  unfold q_is_name
  walk_at "y"
  refine is_word_ok ht hz ?_
  walk_at "y"
  cases d with
  | str z =>
    have e : isWord (.str z) = isWordS z := rfl
    rw [e]
    have e2 : isName (.str z) = (isWordS z && !decide (z ∈ resL)) := rfl
    rw [e2] at q
    refine ite_b (fun c => ?_) (fun c => ?_)
    · rw [c, Bool.true_and] at q
      walk_at "y"
      refine y_nin_t (l := resL.map J.str) (word_ok c) res_okL ?_
      show Q (.bl (!(resL.map J.str).any fun x => eqJ x (.str z))) _
      rw [any_strs, restr_id]
      exact q
    · rw [c, Bool.false_and] at q
      rw [restr_id]
      exact q
  | _ =>
    refine ite_f ?_
    rw [restr_id]
    exact q

def BagJ (s : Sto) (b : Addr) (n : Nat) : Prop := ∃ L M c : Int, s b = some (.lst [.int L, .int M, .int c]) ∧ 0 ≤ M ∧ M < 7 * 2 ^ 61 + 10 ^ 6 ∧ 0 ≤ c ∧ c ≤ n
/-- all stands but b -/
def Chg (b : Addr) (s s' : Sto) : Prop := ∃ o, s' = put s b o
theorem Chg.trans {b : Addr} {s s1 s2 : Sto} (h : Chg b s s1) (g : Chg b s1 s2) : Chg b s s2 := by
  obtain ⟨o, rfl⟩ := h
  obtain ⟨u, rfl⟩ := g
  exact ⟨u, put_put⟩
theorem Chg.at {a b : Addr} {s s' : Sto} (h : Chg b s s') (n : a ≠ b) : s' a = s a := by
  obtain ⟨o, rfl⟩ := h
  exact put_ne n
theorem put_self {s : Sto} {b : Addr} {o : O} (h : s b = some o) : put s b o = s := by
  funext a
  by_cases e : a = b
  · subst e
    rw [put_same, h]
  · rw [put_ne e]
theorem BagJ.chg {s : Sto} {b : Addr} {n : Nat} (h : BagJ s b n) : Chg b s s := by
  obtain ⟨L, M, c, e, _⟩ := h
  exact ⟨_, (put_self e).symm⟩
theorem BagJ.some {s : Sto} {b : Addr} {n : Nat} (h : BagJ s b n) : ∃ o, s b = some o := by
  obtain ⟨L, M, c, e, _⟩ := h
  exact ⟨_, e⟩
theorem BagJ.mono {s : Sto} {b : Addr} {n m : Nat} (h : BagJ s b n) (l : n ≤ m) : BagJ s b m := by
  obtain ⟨L, M, c, e, h1, h2, h3, h4⟩ := h
  exact ⟨L, M, c, e, h1, h2, h3, by omega⟩
theorem BagJ.ne {s : Sto} {a b : Addr} {n : Nat} (h : BagJ s b n) (e : s a = none) : a ≠ b := by
  obtain ⟨o, q⟩ := h.some
  rintro rfl
  rw [e] at q
  cases q
theorem BagJ.new {s : Sto} {a b : Addr} {n : Nat} {o : O} (h : BagJ s b n) (e : s a = none) : BagJ (put s a o) b n := by
  have ne := h.ne e
  obtain ⟨L, M, c, q, r⟩ := h
  exact ⟨L, M, c, by rw [put_ne (Ne.symm ne)]; exact q, r⟩
theorem BagJ.put {s : Sto} {a b : Addr} {n : Nat} {o : O} (h : BagJ s b n) (ne : a ≠ b) : BagJ (M.put s a o) b n := by
  obtain ⟨L, M, c, q, r⟩ := h
  exact ⟨L, M, c, by rw [put_ne (Ne.symm ne)]; exact q, r⟩
theorem restr_chg {s s' : Sto} {b : Addr} {n : Nat} {d : J} (h : BagJ s b n) (c : Chg b s s') : restr s d s' = s' := by
  obtain ⟨o, rfl⟩ := c
  obtain ⟨u, e⟩ := h.some
  rw [restr_put e, restr_id]
theorem atI_of {α : Type} {xs : List α} {i : Int} {x : α} (h0 : 0 ≤ i) (h : xs[i.toNat]? = some x) : atI xs i = some x := by
  have hl : i.toNat < xs.length := by
    rcases Nat.lt_or_ge i.toNat xs.length with l | l
    · exact l
    · rw [List.getElem?_eq_none l] at h; cases h
  unfold atI ixN
  rw [if_pos h0, if_pos (by omega)]
  exact h
theorem get_some {α : Type} {xs : List α} {k : Nat} (h : k < xs.length) : ∃ x, xs[k]? = some x := ⟨xs[k], List.getElem?_eq_getElem h⟩
theorem bag_ok {ns : List Int} {i : Int} {s : Sto} {Q : QJ} {R : XJ} (h0 : 0 ≤ i) (h1 : i ≤ 63) (q : ∀ b o, s b = none → BagJ (put s b o) b 0 → Q (.own b) (put s b o)) : w_lbag [.scr ns, .int i] s Q R := by
  refine w_of ?_
  unfold q_lbag
  walk_at "y"
  refine ite_d (fun c => ?lt) (fun c => ?ge)
  case' lt =>
    walk_at "y"
    obtain ⟨x, hx⟩ := get_some (xs := ns) (k := i.toNat) (by omega)
    refine y_ix_c (d := .int x) (atI_of h0 (by rw [List.getElem?_map, hx]; rfl)) ?_
    generalize x = c
  case' ge => generalize hc : (0 : Int) = c
  all_goals
    have m0 := Int.emod_nonneg c (show (2305843009213693951 : Int) ≠ 0 by omega)
    have m1 := Int.emod_lt_of_pos c (show (0 : Int) < 2305843009213693951 by omega)
    have hB : (10 : Nat) ^ 200 ≤ Big := big_le
    walk_at "y"
    refine ite_d (fun c1 => ?_) (fun c1 => ?_)
    all_goals
      walk_at "y"
      refine y_own fun p hp => ?_
      rw [restr_own hp, restr_id]
      refine q p _ hp ⟨_, _, _, put_same, ?_, ?_, by omega, by omega⟩ <;> omega
theorem take_ok {s : Sto} {b : Addr} {n : Nat} {many : Int} {Q : QJ} {R : XJ} (hb : BagJ s b n) (hn : n ≤ 1000000000) (h0 : 0 < many) (h1 : many.natAbs < 10 ^ 200)
    (q : ∀ (d : Int) s', 0 ≤ d → d < many → Chg b s s' → BagJ s' b (n + 1) → Q (.int d) s') : w_ltake [.own b, .int many] s Q R := by
  obtain ⟨L, M, c, e, m0, m1, c0, c1⟩ := hb
  have hB := big_le
  refine w_of ?_
  unfold q_ltake
  walk_at "y"
  refine ite_d (fun c => ?_) (fun c => ?_)
  · walk_at "y"
    rw [restr_put e, restr_id]
    exact q _ _ (Int.emod_nonneg _ (by omega)) (Int.emod_lt_of_pos _ h0) ⟨_, rfl⟩ ⟨_, _, _, put_same, m0, m1, c0, by omega⟩
  · walk_at "y"
    rw [restr_put e, restr_id]
    exact q _ _ (Int.emod_nonneg _ (by omega)) (Int.emod_lt_of_pos _ h0) ⟨_, rfl⟩ ⟨_, _, _, put_same, m0, m1, by omega, by omega⟩
theorem of_str {s : Sto} {b : Addr} {n : Nat} {z : Str} {Q : QJ} {R : XJ} (hb : BagJ s b n) (hn : n ≤ 1000000000) (l0 : 0 < z.length) (l1 : z.length ≤ 1000)
    (q : ∀ (c : Nat) s', c ∈ z.cps.toList → Chg b s s' → BagJ s' b (n + 1) → Q (.str ⟨#[c]⟩) s') : w_lof [.own b, .str z] s Q R := by
  refine w_of ?_
  unfold q_lof
  walk_at "y"
  refine y_len_s (by omega) ?_
  walk_at "y"
  refine take_ok hb hn (by omega) (by omega) fun d s' d0 d1 ch hb' => ?_
  have hl : z.cps.toList.length = z.length := by simp [Str.length]
  obtain ⟨x, hx⟩ := get_some (xs := z.cps.toList) (k := d.toNat) (by omega)
  refine y_ix_s (by omega) (atI_of d0 hx) ?_
  rw [restr_chg hb ch]
  exact q x s' (List.mem_of_getElem? hx) ch hb'
theorem of_lst {s : Sto} {b : Addr} {n : Nat} {l : List J} {Q : QJ} {R : XJ} (hb : BagJ s b n) (hn : n ≤ 1000000000) (l0 : 0 < l.length) (l1 : l.length ≤ 1000)
    (q : ∀ (k : Nat) x s', l[k]? = some x → Chg b s s' → BagJ s' b (n + 1) → Q x s') : w_lof [.own b, .lst l] s Q R := by
  refine w_of ?_
  unfold q_lof
  walk_at "y"
  refine take_ok hb hn (by omega) (by omega) fun d s' d0 d1 ch hb' => ?_
  obtain ⟨x, hx⟩ := get_some (xs := l) (k := d.toNat) (by omega)
  refine y_ix_l (atI_of d0 hx) ?_
  rw [restr_chg hb ch]
  exact q _ x s' hx ch hb'
def strL (cs : List Nat) : Str := ⟨cs.toArray⟩
theorem strL_len (cs : List Nat) : (strL cs).length = cs.length := by show cs.toArray.size = _; simp
theorem strL_list (cs : List Nat) : (strL cs).cps.toList = cs := by show cs.toArray.toList = _; simp
theorem str_eta (z : Str) : strL z.cps.toList = z := by cases z; rfl
theorem str_ext {y z : Str} (h : y.cps.toList = z.cps.toList) : y = z := by rw [← str_eta y, ← str_eta z, h]
theorem str_add (y z : Str) : (y ++ z).cps.toList = y.cps.toList ++ z.cps.toList := by
  show (y.cps ++ z.cps).toList = _
  simp
theorem join_one (cs : List Nat) : Txt.join "" (cs.map fun c => (⟨#[c]⟩ : Str)) = strL cs := by
  rw [show Txt.join "" (cs.map fun c => (⟨#[c]⟩ : Str)) = Str.join "" (cs.map fun c => (⟨#[c]⟩ : Str)) from PySem.StrLaws.glued_eq_join _ _]
  apply str_ext
  rw [strL_list]
  induction cs with
  | nil => rfl
  | cons c cs ih =>
    cases cs with
    | nil => rfl
    | cons d cs =>
      show (((⟨#[c]⟩ : Str) ++ ("" : Str)) ++ Str.join "" ((⟨#[d]⟩ : Str) :: cs.map fun c => (⟨#[c]⟩ : Str))).cps.toList = _
      rw [str_add, str_add]
      have ih' : (Str.join "" ((⟨#[d]⟩ : Str) :: cs.map fun c => (⟨#[c]⟩ : Str))).cps.toList = d :: cs := ih
      rw [ih']
      rfl
theorem sum_ones (cs : List Nat) : ((cs.map fun c => (⟨#[c]⟩ : Str)).map (·.length)).sum = cs.length := by
  induction cs with
  | nil => rfl
  | cons c cs ih =>
    rw [List.map_cons, List.map_cons, List.sum_cons, ih, List.length_cons]
    show 1 + _ = _
    omega
theorem word_draw {s : Sto} {b : Addr} {n : Nat} {Q : QJ} {R : XJ} (hb : BagJ s b n) (hn : n ≤ 100000000) (q : ∀ z s', isWordS z = true → Chg b s s' → BagJ s' b (n + 10) → Q (.str z) s') : w_lword [.own b] s Q R := by
  refine w_of ?_
  unfold q_lword
  walk_at "y"
  refine take_ok hb (by omega) (by omega) (by omega) fun d s1 d0 d1 ch1 hb1 => ?_
  walk_at "y"
  refine y_rngJ (by omega) ?_
  have hd : ((List.range (1 + d).toNat).map fun (i : Nat) => J.int ((i : Nat) : Int)).length = (1 + d).toNat := by simp
  refine lc_inv (fun i acc s' => Chg b s s' ∧ BagJ s' b (n + 1 + i) ∧ ∃ cs : List Nat, cs.length = i ∧ acc = cs.map (fun c => J.str ⟨#[c]⟩) ∧ ∀ c ∈ cs, c ∈ lets.cps.toList) ⟨ch1, hb1, [], rfl, rfl, fun _ h => nomatch h⟩ (by rw [hd]; omega) (fun _ _ _ _ _ => trivial) ?_ ?_
  · rintro i x acc s2 N hx ⟨ch2, hb2, cs, hl, rfl, hc⟩ hacc hN
    have hi : i < (1 + d).toNat := by rw [← hd]; exact (List.getElem?_eq_some_iff.mp hx).1
    walk_at "y"
    refine of_str hb2 (by omega) (by decide) (by decide) fun c s3 c1 ch3 hb3 => ⟨hacc, ?_⟩
    refine hN _ _ (by simp [hl]) ⟨ch2.trans ch3, hb3, cs ++ [c], by simp [hl], by simp, fun y hy => ?_⟩
    rcases List.mem_append.mp hy with h | h
    · exact hc y h
    · rw [List.mem_singleton.mp h]; exact c1
  · rintro acc s2 _ ⟨ch2, hb2, cs, hl, rfl, hc⟩
    rw [hd] at hl hb2
    walk_at "y"
    have e : (cs.map fun c => J.str ⟨#[c]⟩) = (cs.map fun c => (⟨#[c]⟩ : Str)).map J.str := by rw [List.map_map]; rfl
    rw [e]
    refine y_join ?_ ?_
    · rw [sum_ones, List.length_map, hl]
      show _ + _ * 0 ≤ _
      omega
    rw [join_one, restr_chg hb ch2]
    refine q _ _ (isWordS_of ?_ ?_ ?_) ch2 (hb2.mono (by omega))
    · rw [strL_len]; omega
    · rw [strL_len]; omega
    · rw [strL_list]; exact fun c h => let_lt (hc c h)

def isKind (y : J) : Bool := [J.str "number", .str "word"].any fun z => eqJ z y
def isField : J → Bool
  | .tup [x, y] => isName x && isKind y
  | _ => false
def TyOk (s : Sto) (d : J) : Prop := (∃ t, tyJ s d = some t) ∧ ∀ z, d = .str z → z.length ≤ 100000
/-- may be asked whether it is a field -/
def FdOk (s : Sto) (d : J) : Prop := (∃ t, tyJ s d = some t) ∧ ∀ x y, d = .tup [x, y] → TyOk s x ∧ (isName x = true → y.ok = true)
theorem isT_tup {s : Sto} {d : J} {t : String} (h : tyJ s d = some t) : isT t "tuple" = true ↔ ∃ l, d = .tup l := by
  constructor
  · intro e
    have hm := tyJ_mem h
    unfold tys7 at hm
    simp only [List.mem_cons, List.not_mem_nil, or_false] at hm
    have e2 : t = "tuple" := by
      rcases hm with rfl | rfl | rfl | rfl | rfl | rfl | rfl <;> first | rfl | (exact absurd e (by decide))
    subst e2
    unfold tyJ at h
    split at h
    · simp at h
    · simp at h
    · simp at h
    · simp at h
    · simp at h
    · rename_i l q
      exact ⟨l, res_tup q⟩
    · simp at h
    · cases h
  · rintro ⟨l, rfl⟩
    have : t = "tuple" := by
      have : tyJ s (.tup l) = some "tuple" := rfl
      rw [this] at h
      cases h
      rfl
    subst this
    rfl
theorem is_field_ok {d : J} {s : Sto} {Q : QJ} {R : XJ} (h : FdOk s d) (q : Q (.bl (isField d)) s) : w_is_field [d] s Q R := by
  obtain ⟨⟨t, ht⟩, h2⟩ := h
  refine w_of ?_
  unfold q_is_field
  walk_at "y"
  by_cases c : isT t "tuple" = true
  · obtain ⟨l, rfl⟩ := (isT_tup ht).mp c
    walk_at "y"
    refine ite_d (fun c2 => ?_) (fun c2 => ?_)
    · obtain ⟨x, y, rfl⟩ : ∃ x y, l = [x, y] := by
        match l, c2 with
        | [x, y], _ => exact ⟨x, y, rfl⟩
        | [], c2 => simp at c2
        | [x], c2 => simp at c2
        | x :: y :: z :: r, c2 => simp only [List.length_cons] at c2; omega
      obtain ⟨⟨⟨u, hu⟩, hz⟩, hy⟩ := h2 x y rfl
      walk_at "y"
      refine is_name_ok hu hz ?_
      walk_at "y"
      have e : isField (.tup [x, y]) = (isName x && isKind y) := rfl
      rw [e] at q
      refine ite_b (fun c3 => ?_) (fun c3 => ?_)
      · rw [c3, Bool.true_and] at q
        have ho := hy c3
        walk_at "y"
        refine y_in_t (l := [.str "number", .str "word"]) (by rw [res_ok ho]; exact ho) (by decide +kernel) ?_
        rw [res_ok ho, restr_id]
        exact q
      · rw [c3, Bool.false_and] at q
        rw [restr_id]
        exact q
    · have e : isField (.tup l) = false := by
        unfold isField
        split
        · rename_i h; cases h; exact absurd rfl c2
        · rfl
      rw [e] at q
      rw [restr_id]
      exact q
  · have c' : isT t "tuple" = false := by cases z : isT t "tuple" with | false => rfl | true => exact absurd z c
    refine y_isi ht ?_
    rw [c']
    walk_at "y"
    have e : isField d = false := by
      unfold isField
      split
      · exact absurd ((isT_tup ht).mpr ⟨_, rfl⟩) c
      · rfl
    rw [e] at q
    rw [restr_id]
    exact q
theorem kind_of {y : J} (h : isKind y = true) (ho : y.ok = true) : y = .str "number" ∨ y = .str "word" := by
  unfold isKind at h
  rw [List.any_cons, List.any_cons, List.any_nil, Bool.or_false, Bool.or_eq_true] at h
  have e : ∀ z : Str, eqJ (.str z) y = true → y = .str z := by
    intro z h
    cases y with
    | str w =>
      rw [eqJ_str] at h
      rw [of_decide_eq_true h]
    | non => cases h
    | bl b => cases h
    | int b => cases h
    | lst b => cases h
    | tup b => cases h
    | _ => unfold J.ok J.okd at ho; cases ho
  rcases h with h | h
  · exact .inl (e _ h)
  · exact .inr (e _ h)
theorem field_of {s : Sto} {d : J} (h : isField d = true) (f : FdOk s d) : ∃ n k, d = .tup [.str n, .str k] ∧ isNameS n = true ∧ (k = "number" ∨ k = "word") := by
  unfold isField at h
  split at h
  · rename_i x y
    rw [Bool.and_eq_true] at h
    have ho := (f.2 x y rfl).2 h.1
    have hx := h.1
    unfold isName at hx
    split at hx
    · rename_i n
      rcases kind_of h.2 ho with rfl | rfl
      · exact ⟨n, _, rfl, hx, .inl rfl⟩
      · exact ⟨n, _, rfl, hx, .inr rfl⟩
    · cases hx
  · cases h
def nkOf : J → Str × Str
  | .tup [.str n, .str k] => (n, k)
  | _ => ("", "")
def layGo : List J → Int → List (Str × Str) → Except Int (List (Str × Str))
  | [], _, acc => .ok acc
  | d :: r, i, acc => if isField d = true ∧ ¬ (nkOf d).1 ∈ acc.map Prod.fst then layGo r (i + 1) (acc ++ [nkOf d]) else .error i
/-- what Layout(..) makes of a list: its fields, or the index of the wrong one -/
def layOf (l : List J) : Except Int (List (Str × Str)) := if 1 ≤ (l.length : Int) ∧ (l.length : Int) ≤ 5 then layGo l 0 [] else .error (-1)
def kindsJ (fs : List (Str × Str)) : List (Key × J) := fs.map fun f => (.inr f.1, .str f.2)
def layJ (fs : List (Str × Str)) : J := .obj "Layout" [("_kinds", .dct (kindsJ fs)), ("names", .tup (fs.map fun f => .str f.1))]
theorem valJ_kinds (fs : List (Str × Str)) (n : Str) : (valJ (kindsJ fs) (.inr n)).isSome = decide (n ∈ fs.map Prod.fst) := by
  unfold valJ kindsJ
  induction fs with
  | nil => rfl
  | cons f fs ih =>
    rw [List.map_cons, List.map_cons]
    by_cases h : f.1 = n
    · rw [List.find?_cons_of_pos (by simp [h])]
      simp [h]
    · rw [List.find?_cons_of_neg (by simp [h]), ih]
      have h' : ¬ n = f.1 := fun e => h e.symm
      simp [h']
theorem kinds_put {fs : List (Str × Str)} {n k : Str} (h : ¬ n ∈ fs.map Prod.fst) : putK' (kindsJ fs) (.inr n) (.str k) = kindsJ (fs ++ [(n, k)]) := by
  unfold putK'
  rw [if_neg]
  · unfold kindsJ
    rw [List.map_append]
    rfl
  · intro e
    rw [List.any_eq_true] at e
    obtain ⟨p, hp, e⟩ := e
    unfold kindsJ at hp
    obtain ⟨f, hf, rfl⟩ := List.mem_map.mp hp
    have e2 : (Sum.inr f.1 : Key) = .inr n := of_decide_eq_true e
    cases e2
    exact h (List.mem_map_of_mem hf)
theorem layGo_cons (d : J) (r : List J) (i : Int) (acc : List (Str × Str)) : layGo (d :: r) i acc = if isField d = true ∧ ¬ (nkOf d).1 ∈ acc.map Prod.fst then layGo r (i + 1) (acc ++ [nkOf d]) else .error i := rfl
theorem lstX_ty {s : Sto} {d : J} {l : List J} (e : lstX s d = some l) : tyJ s d = some "list" := by
  cases d with
  | lst m => rfl
  | own a =>
    unfold lstX at e
    dsimp only at e
    split at e
    · rename_i h
      unfold tyJ res
      dsimp only
      rw [h]
    · cases e
  | _ => cases e
theorem lstX_lst {s : Sto} {d : J} {l : List J} (e : lstX s d = some l) : lstOf s d = some l ∧ itsOf s d = some l := by
  cases d with
  | lst m => exact ⟨e, e⟩
  | own a => exact ⟨e, e⟩
  | _ => cases e
theorem lstX_len {s : Sto} {d : J} {l : List J} {Q : QJ} (e : lstX s d = some l) (q : Q (.int l.length) s) : lenJ [d] s Q := by
  cases d with
  | lst m => cases e; exact q
  | own a =>
    unfold lstX at e
    dsimp only at e
    split at e
    · rename_i h
      cases e
      exact y_len_o h q
    · cases e
  | _ => cases e
theorem lstX_put {s : Sto} {d : J} {l : List J} {a : Addr} {o : O} (e : lstX s d = some l) (h : s a = none) : lstX (put s a o) d = some l ∧ stOf s d (put s a o) := by
  cases d with
  | lst m => exact ⟨e, trivial⟩
  | own b =>
    have hb : b ≠ a := by
      rintro rfl
      unfold lstX at e
      dsimp only at e
      rw [h] at e
      cases e
    refine ⟨?_, put_ne hb⟩
    unfold lstX at e ⊢
    dsimp only at e ⊢
    rw [put_ne hb]
    exact e
  | _ => cases e
theorem lstX_to {s s' : Sto} {d : J} {l : List J} (e : lstX s d = some l) (h : ∀ a, s a ≠ none → s' a = s a) : lstX s' d = some l := by
  cases d with
  | own b =>
    unfold lstX at e ⊢
    dsimp only at e ⊢
    have hb : s b ≠ none := by
      intro z
      rw [z] at e
      cases e
    rw [h b hb]
    exact e
  | _ => exact e
theorem stOf_two {s s1 s2 : Sto} {d : J} {l : List J} (e : lstX s d = some l) (h1 : ∀ a, s a ≠ none → s1 a = s a) (h2 : ∀ a, s a ≠ none → s2 a = s a) : stOf s1 d s2 := by
  cases d with
  | own a =>
    have n : s a ≠ none := by
      intro z
      unfold lstX at e
      dsimp only at e
      rw [z] at e
      cases e
    show s2 a = s1 a
    rw [h1 a n, h2 a n]
  | _ => trivial
theorem tyJ_to {s s' : Sto} {d : J} {t : String} (e : tyJ s d = some t) (h : ∀ a, s a ≠ none → s' a = s a) : tyJ s' d = some t := by
  cases d with
  | own b =>
    have hb : s b ≠ none := by
      intro z
      unfold tyJ res at e
      dsimp only at e
      rw [z] at e
      cases e
    unfold tyJ res at e ⊢
    dsimp only at e ⊢
    rw [h b hb]
    exact e
  | _ => exact e
theorem FdOk.to {s s' : Sto} {d : J} (f : FdOk s d) (h : ∀ a, s a ≠ none → s' a = s a) : FdOk s' d := by
  obtain ⟨⟨t, ht⟩, g⟩ := f
  refine ⟨⟨t, tyJ_to ht h⟩, fun x y e => ?_⟩
  obtain ⟨⟨⟨u, hu⟩, hz⟩, ho⟩ := g x y e
  exact ⟨⟨⟨u, tyJ_to hu h⟩, hz⟩, ho⟩
theorem layGo_all : ∀ {l : List J} {i : Int} {acc fs : List (Str × Str)}, layGo l i acc = .ok fs → ∀ x ∈ l, isField x = true
  | d :: r, i, acc, fs, h, x, hx => by
    unfold layGo at h
    split at h
    · rename_i c
      rcases List.mem_cons.mp hx with e | hx
      · rw [e]; exact c.1
      · exact layGo_all h x hx
    · cases h
theorem layGo_fs : ∀ {l : List J} {i : Int} {acc fs : List (Str × Str)}, layGo l i acc = .ok fs → fs = acc ++ l.map nkOf
  | [], _, _, _, h => by cases h; simp
  | d :: r, i, acc, fs, h => by
    unfold layGo at h
    split at h
    · rw [layGo_fs h, List.append_assoc]
      rfl
    · cases h
theorem y_it_X {s : Sto} {d : J} {l : List J} {P : ItJ → Prop} (e : itsOf s d = some l) (h : P ⟨l, stOf s d⟩) : ItX s d P := ⟨l, e, h⟩
theorem y_en_X {s : Sto} {d : J} {l : List J} {P : ItJ → Prop} (e : lstOf s d = some l) (h : P ⟨(List.range l.length).map fun (i : Nat) => J.tup [.int (i : Int), l.getD i .non], stOf s d⟩) : EnX s d P := ⟨l, e, h⟩
/-- the store while a layout is made -/
def layS (s : Sto) (p p1 : Addr) (fs : List (Str × Str)) : Sto := put (put s p1 (.dct (kindsJ fs))) p (.ins "Layout" [("_kinds", .own p1)])
theorem layS_at {s : Sto} {p p1 a : Addr} {fs : List (Str × Str)} (hp : s p = none) (hp1 : s p1 = none) (h : s a ≠ none) : layS s p p1 fs a = s a := by
  unfold layS
  rw [put_ne (by rintro rfl; exact h hp), put_ne (by rintro rfl; exact h hp1)]
theorem restr_lay {s : Sto} {p p1 : Addr} {fs : List (Str × Str)} (hp : s p = none) (hp1 : s p1 = none) : restr s .non (layS s p p1 fs) = s := by
  unfold layS
  rw [restr_new hp rfl, restr_new hp1 rfl, restr_id]
theorem lay_init {s : Sto} {p : Addr} {d : J} {l : List J} {Q : QJ} {R : XJ} (hp : s p = none) (hd : lstX s d = some l) (hf : ∀ x ∈ l, FdOk s x)
    (he : ∀ i, layOf l = .error i → R "BadLayout" [("at", .int i)] s)
    (hq : ∀ fs, layOf l = .ok fs → Q (layJ fs) s) :
    w_Layout__init [.own p, d] (put s p (.ins "Layout" [])) (MkC "Layout" s p Q) (MkR s R) := by
  show w_Layout__init [.own p, d] (put s p (.ins "Layout" [])) (fun v s2 => v = .non ∧ ∃ fs, s2 p = some (.ins "Layout" fs) ∧ Q (.obj "Layout" (frzFs s s2 fs)) (restr s .non s2)) (fun c fs s2 => R c fs (restr s .non s2))
  have hd1 := lstX_put (o := .ins "Layout" []) hd hp
  refine w_ofK ?_
  unfold q_Layout__init
  walk_at "y"
  refine y_isi (lstX_ty hd1.1) ?_
  walk_at "y"
  refine lstX_len hd1.1 ?_
  walk_at "y"
  have hbad : ¬ (1 ≤ (l.length : Int) ∧ (l.length : Int) ≤ 5) → R "BadLayout" [("at", .int (-1))] s := fun c => he (-1) (by unfold layOf; rw [if_neg c])
  refine ite_d (fun c1 => ?_) (fun c1 => ?_)
  rotate_left
  · walk_at "y"
    rw [restr_new hp rfl, restr_id]
    exact hbad fun c => c1 c.1
  walk_at "y"
  refine ite_nd (fun c2 => ?_) (fun c2 => ?_)
  rotate_left
  · walk_at "y"
    rw [restr_new hp rfl, restr_id]
    exact hbad fun c => c2 c.2
  walk_at "y"
  refine y_own fun p1 h1 => ?_
  obtain ⟨n1, hp1⟩ := put_none h1
  walk_at "y"
  refine ⟨p, "Layout", [], rfl, by rw [put_ne (Ne.symm n1), put_same], List.mem_cons_self, by decide, ?_⟩
  rw [show put (put (put s p (.ins "Layout" [])) p1 (.dct [])) p (.ins "Layout" (putJ "_kinds" (.own p1) [])) = layS s p p1 [] from put_sh (Ne.symm n1)]
  have hl : layOf l = layGo l 0 [] := by unfold layOf; rw [if_pos ⟨c1, c2⟩]
  have hS : ∀ fs, lstX (layS s p p1 fs) d = some l := fun fs => lstX_to hd fun a ha => layS_at hp hp1 ha
  walk_at "y"
  refine y_en_X (lstX_lst (hS [])).1 ?_
  have hn : ((List.range l.length).map fun (i : Nat) => J.tup [.int (i : Int), l.getD i .non]).length = l.length := by simp
  refine for_inv (fun i ρ s' => ∃ acc x2 x3, layGo l 0 [] = layGo (l.drop i) (i : Int) acc ∧ acc.length = i ∧ ρ = [some (.own p), some d, x2, x3, none, none, none] ∧ s' = layS s p p1 acc) ⟨[], none, none, rfl, rfl, rfl, rfl⟩ ?_ ?_ ?_
  · rintro i ρ s' _ ⟨acc, x2, x3, _, _, rfl, rfl⟩
    exact stOf_two (s := s) hd (fun a ha => layS_at hp hp1 ha) (fun a ha => layS_at hp hp1 ha)
  · rintro i x ρ s' N hx ⟨acc, x2, x3, e, ha, rfl, rfl⟩ hN
    have hi : i < l.length := by rw [← hn]; exact (List.getElem?_eq_some_iff.mp hx).1
    have hx2 : x = .tup [.int (i : Int), l[i]] := by
      rw [List.getElem?_map, List.getElem?_range hi] at hx
      have := Option.some.inj hx
      rw [← this]
      dsimp only
      rw [List.getD_eq_getElem?_getD, List.getElem?_eq_getElem hi]
      rfl
    subst hx2
    have hm : l[i] ∈ l := List.getElem_mem hi
    have fo := hf _ hm
    rw [List.drop_eq_getElem_cons hi] at e
    generalize l[i] = x at *
    rw [layGo_cons] at e
    have a1 : layS s p p1 acc p = some (.ins "Layout" [("_kinds", .own p1)]) := put_same
    have a2 : layS s p p1 acc p1 = some (.dct (kindsJ acc)) := by unfold layS; rw [put_ne n1, put_same]
    walk_at "y"
    refine is_field_ok (fo.to fun a ha => layS_at hp hp1 ha) ?_
    walk_at "y"
    have bad : ¬ (isField x = true ∧ ¬ (nkOf x).1 ∈ acc.map Prod.fst) → R "BadLayout" [("at", .int (i : Int))] (restr s .non (layS s p p1 acc)) := fun c => by
      rw [restr_lay hp hp1]
      refine he _ ?_
      rw [hl, e, if_neg c]
    refine ite_b (fun c3 => ?_) (fun c3 => ?_)
    · walk_at "y"
      refine bad fun c => ?_
      rw [c.1] at c3
      cases c3
    have c3' : isField x = true := by cases z : isField x with | true => rfl | false => rw [z] at c3; cases c3
    obtain ⟨n, k, rfl, hn1, hk1⟩ := field_of c3' fo
    walk_at "y"
    refine y_in_do a2 (k := .inr n) rfl ?_
    rw [valJ_kinds]
    walk_at "y"
    refine ite_d (fun c4 => ?_) (fun c4 => ?_)
    · walk_at "y"
      exact bad fun c => c.2 c4
    walk_at "y"
    refine y_set_d a2 (k := .inr n) rfl (by unfold kindsJ; rw [List.length_map]; omega) ?_
    refine hN _ _ ⟨acc ++ [(n, k)], _, _, ?_, ?_, rfl, ?_⟩
    · rw [e, if_pos ⟨c3', c4⟩]
      rfl
    · simp [ha]
    · unfold layS
      rw [kinds_put c4, put_in n1]
  · rintro ρ s' ⟨acc, x2, x3, e, ha, rfl, rfl⟩
    rw [hn] at e
    rw [List.drop_length] at e
    have a1 : layS s p p1 acc p = some (.ins "Layout" [("_kinds", .own p1)]) := put_same
    have a2 : layS s p p1 acc p1 = some (.dct (kindsJ acc)) := by unfold layS; rw [put_ne n1, put_same]
    have e2 : layGo l 0 [] = .ok acc := e
    walk_at "y"
    refine y_it_X (lstX_lst (hS acc)).2 ?_
    refine lc_map (fun x => match x with | .tup (a :: _) => a | _ => .non) (by show l.length ≤ 100000; omega) (stOf_two (s := s) hd (fun a ha => layS_at hp hp1 ha) (fun a ha => layS_at hp hp1 ha)) ?_ ?_
    · intro x hx Y hy
      obtain ⟨n, k, rfl, _, _⟩ := field_of (layGo_all e2 x hx) (hf x hx)
      walk_at "y"
      exact hy
    · walk_at "y"
      refine ⟨p, "Layout", _, rfl, a1, List.mem_cons_self, by show 1 < 1000; decide, rfl, _, put_same, ?_⟩
      have e3 : l.map (fun x => match x with | .tup (a :: _) => a | _ => .non) = acc.map fun f => J.str f.1 := by
        rw [layGo_fs e2, List.nil_append, List.map_map]
        refine List.map_congr_left fun x hx => ?_
        obtain ⟨n, k, rfl, _, _⟩ := field_of (layGo_all e2 x hx) (hf x hx)
        rfl
      rw [e3]
      have e4 : frzFs s (put (layS s p p1 acc) p (.ins "Layout" (putJ "names" (.tup (acc.map fun f => J.str f.1)) [("_kinds", .own p1)]))) (putJ "names" (.tup (acc.map fun f => J.str f.1)) [("_kinds", .own p1)]) = ([("_kinds", J.dct (kindsJ acc)), ("names", J.tup (acc.map fun f => J.str f.1))] : List (Str × J)) := by
        show ([("_kinds", frz s _ (.own p1)), ("names", frz s _ (.tup _))] : List (Str × J)) = _
        unfold frz
        dsimp only
        rw [hp1, put_ne n1, a2]
      rw [e4, restr_new hp rfl, restr_lay hp hp1]
      exact hq acc (hl.trans e2)
theorem lay_make {s : Sto} {d : J} {l : List J} {Q : QJ} {R : XJ} (hd : lstX s d = some l) (hf : ∀ x ∈ l, FdOk s x)
    (he : ∀ i, layOf l = .error i → R "BadLayout" [("at", .int i)] s) (hq : ∀ fs, layOf l = .ok fs → Q (layJ fs) s) : MkX "Layout" w_Layout__init [d] s Q R := fun p hp => lay_init hp hd hf he hq

def isInt : J → Bool
  | .int _ => true
  | _ => false
theorem tyJ_name {s : Sto} {d : J} {t : String} (h : tyJ s d = some t) : t = (res s d).tname ∧ isInt (res s d) = isInt d := by
  unfold tyJ at h
  constructor
  · cases e : res s d <;> rw [e] at h <;> first | (cases h; rfl) | cases h
  · cases d with
    | own a =>
      unfold res
      dsimp only
      split <;> rfl
    | _ => rfl
theorem ty_int {s : Sto} {d : J} {t : String} (h : tyJ s d = some t) : (isT t "int" && !isT t "bool") = isInt d := by
  obtain ⟨rfl, e⟩ := tyJ_name h
  rw [← e]
  unfold tyJ at h
  cases e2 : res s d <;> rw [e2] at h <;> first | rfl | cases h
theorem is_integer_ok {d : J} {s : Sto} {t : String} {Q : QJ} {R : XJ} (ht : tyJ s d = some t) (q : Q (.bl (isInt d)) s) : w_is_integer [d] s Q R := by
  refine w_of ?_
  unfold q_is_integer
  walk_at "y"
  refine y_isi ht ?_
  walk_at "y"
  rw [← ty_int ht] at q
  refine ite_b (fun c => ?_) (fun c => ?_)
  · walk_at "y"
    refine y_isi ht ?_
    walk_at "y"
    rw [c, Bool.true_and] at q
    rw [restr_id]
    exact q
  · rw [c, Bool.false_and] at q
    rw [restr_id]
    exact q
theorem common_divisor_ok {a b : Int} {s : Sto} {Q : QJ} {R : XJ} (hb : 0 ≤ b) (q : Q (.int (Int.gcd a b)) s) : w_common_divisor [.int a, .int b] s Q R := by
  refine w_of ?_
  unfold q_common_divisor
  walk_at "y"
  refine y_while (fun ρ s' => s' = s ∧ ∃ l g : Int, ρ = [some (.int a), some (.int b), some (.int l), some (.int g)] ∧ 0 ≤ l ∧ 0 ≤ g ∧ Int.gcd l g = Int.gcd a b) (fun ρ _ => match ρ with | [_, _, some (.int l), _] => l.toNat | _ => 0) ⟨rfl, (a.natAbs : Int), b, rfl, by omega, hb, ?_⟩ ?_
  · show Int.gcd (a.natAbs : Int) b = Int.gcd a b
    unfold Int.gcd
    rw [Int.natAbs_natCast]
  rintro ρ s1 ⟨rfl, l, g, rfl, hl, hg, e⟩
  walk_at "y"
  refine ite_d (fun h => ?_) (fun h => ?_)
  · walk_at "y"
    refine ⟨⟨rfl, _, _, rfl, Int.emod_nonneg _ (by omega), hl, ?_⟩, ?_⟩
    · rw [← e]
      obtain ⟨m, rfl⟩ := Int.eq_ofNat_of_zero_le hl
      obtain ⟨n, rfl⟩ := Int.eq_ofNat_of_zero_le hg
      show Int.gcd ((n : Int) % (m : Int)) (m : Int) = Int.gcd (m : Int) (n : Int)
      rw [← Int.natCast_emod]
      exact (Nat.gcd_rec m n).symm
    · show (g % l).toNat < l.toNat
      have := Int.emod_lt_of_pos g h
      have := Int.emod_nonneg g (by omega : l ≠ 0)
      omega
  · walk_at "y"
    have e0 : l = 0 := by omega
    subst e0
    have : (Int.gcd a b : Int) = g := by rw [← e]; simp; omega
    rw [← this, restr_id]
    exact q
def isNum : J → Bool
  | .int _ => true
  | .tup [.int p, .int q] => decide (2 ≤ q) && decide (Int.gcd p q = 1)
  | _ => false
/-- typed, and its items if it is a pair -/
def TyD (s : Sto) (d : J) : Prop := (∃ t, tyJ s d = some t) ∧ (∀ z, d = .str z → z.length ≤ 100000) ∧ ∀ x y, d = .tup [x, y] → (∃ t, tyJ s x = some t) ∧ ∃ t, tyJ s y = some t
theorem isNum_tup {l : List J} (h : isNum (.tup l) = true) : ∃ p q : Int, l = [.int p, .int q] ∧ 2 ≤ q ∧ Int.gcd p q = 1 := by
  unfold isNum at h
  split at h
  · rename_i h2; cases h2
  · rename_i h2
    cases h2
    rw [Bool.and_eq_true] at h
    exact ⟨_, _, rfl, of_decide_eq_true h.1, of_decide_eq_true h.2⟩
  · cases h
theorem isInt_of {d : J} (h : isInt d = true) : ∃ i, d = .int i := by
  cases d with
  | int i => exact ⟨i, rfl⟩
  | _ => cases h
theorem is_number_ok {d : J} {s : Sto} {Q : QJ} {R : XJ} (hd : TyD s d) (q : Q (.bl (isNum d)) s) : w_is_number [d] s Q R := by
  obtain ⟨⟨t, ht⟩, _, hp⟩ := hd
  refine w_of ?_
  unfold q_is_number
  walk_at "y"
  by_cases c : ∃ l, d = .tup l
  · obtain ⟨l, rfl⟩ := c
    walk_at "y"
    by_cases c2 : ∃ x y, l = [x, y]
    · obtain ⟨x, y, rfl⟩ := c2
      obtain ⟨⟨tx, hx⟩, ty, hy⟩ := hp x y rfl
      refine ite_nd (fun _ => ?_) (fun c => absurd rfl c)
      walk_at "y"
      refine is_integer_ok hx ?_
      walk_at "y"
      refine ite_b (fun c => ?_) (fun c => ?_)
      · walk_at "y"
        have e : isNum (.tup [x, y]) = false := by
          cases z : isNum (.tup [x, y]) with
          | false => rfl
          | true =>
            obtain ⟨p, r, e, _⟩ := isNum_tup z
            cases e
            cases c
        rw [e] at q
        rw [restr_id]
        exact q
      walk_at "y"
      refine is_integer_ok hy ?_
      walk_at "y"
      refine ite_b (fun c' => ?_) (fun c' => ?_)
      · walk_at "y"
        have e : isNum (.tup [x, y]) = false := by
          cases z : isNum (.tup [x, y]) with
          | false => rfl
          | true =>
            obtain ⟨p, r, e, _⟩ := isNum_tup z
            cases e
            cases c'
        rw [e] at q
        rw [restr_id]
        exact q
      obtain ⟨p, rfl⟩ := isInt_of (d := x) (by cases z : isInt x with | true => rfl | false => rw [z] at c; cases c)
      obtain ⟨r, rfl⟩ := isInt_of (d := y) (by cases z : isInt y with | true => rfl | false => rw [z] at c'; cases c')
      walk_at "y"
      have e : isNum (.tup [.int p, .int r]) = (decide (2 ≤ r) && decide (Int.gcd p r = 1)) := rfl
      rw [e] at q
      refine ite_d (fun c => ?_) (fun c => ?_)
      · rw [decide_eq_true c, Bool.true_and] at q
        walk_at "y"
        refine common_divisor_ok (by omega) ?_
        walk_at "y"
        have e2 : decide ((Int.gcd p r : Int) = 1) = decide (Int.gcd p r = 1) := decide_eq_decide.mpr (by omega)
        rw [e2, restr_id]
        exact q
      · rw [decide_eq_false c, Bool.false_and] at q
        rw [restr_id]
        exact q
    · refine ite_nd (fun c => ?_) (fun c => ?_)
      · exfalso
        match l, c, c2 with
        | [x, y], _, c2 => exact c2 ⟨x, y, rfl⟩
        | [], c, _ => simp at c
        | [x], c, _ => simp at c
        | x :: y :: z :: r, c, _ => simp only [List.length_cons] at c; omega
      · walk_at "y"
        have e : isNum (.tup l) = false := by
          cases z : isNum (.tup l) with
          | false => rfl
          | true =>
            obtain ⟨p, r, e, _⟩ := isNum_tup z
            exact absurd ⟨_, _, e⟩ c2
        rw [e] at q
        rw [restr_id]
        exact q
  · have nt : isT t "tuple" = false := by
      cases z : isT t "tuple" with
      | false => rfl
      | true => exact absurd ((isT_tup ht).mp z) c
    refine y_isi ht ?_
    rw [nt]
    walk_at "y"
    refine is_integer_ok ht ?_
    have e : isNum d = isInt d := by
      unfold isNum isInt
      cases d with
      | tup l => exact absurd ⟨l, rfl⟩ c
      | _ => rfl
    rw [e] at q
    rw [restr_id]
    exact q
def isValue (d : J) (k : Str) : Bool := if k = "number" then isNum d else isWord d
theorem is_value_ok {d : J} {k : Str} {s : Sto} {Q : QJ} {R : XJ} (hd : TyD s d) (q : Q (.bl (isValue d k)) s) : w_is_value [d, .str k] s Q R := by
  refine w_of ?_
  unfold q_is_value
  walk_at "y"
  unfold isValue at q
  refine ite_d (fun c => ?_) (fun c => ?_)
  · rw [if_pos c] at q
    walk_at "y"
    refine is_number_ok hd ?_
    rw [restr_id]
    exact q
  · rw [if_neg c] at q
    obtain ⟨⟨t, ht⟩, hz, _⟩ := hd
    walk_at "y"
    refine is_word_ok ht hz ?_
    rw [restr_id]
    exact q
def mayStand (d : J) (k : Str) : Bool := d.isN || isValue d k
theorem may_stand_ok {d : J} {k : Str} {s : Sto} {Q : QJ} {R : XJ} (hd : TyD s d) (q : Q (.bl (mayStand d k)) s) : w_may_stand [d, .str k] s Q R := by
  refine w_of ?_
  unfold q_may_stand
  walk_at "y"
  unfold mayStand at q
  refine ite_b (fun c => ?_) (fun c => ?_)
  · rw [c, Bool.true_or] at q
    rw [restr_id]
    exact q
  · rw [c, Bool.false_or] at q
    walk_at "y"
    refine is_value_ok hd ?_
    rw [restr_id]
    exact q
theorem valJ_kind {fs : List (Str × Str)} {n k : Str} (hn : (fs.map Prod.fst).Nodup) (h : (n, k) ∈ fs) : valJ (kindsJ fs) (.inr n) = some (.str k) := by
  induction fs with
  | nil => cases h
  | cons f fs ih =>
    unfold valJ kindsJ
    rw [List.map_cons]
    rw [List.map_cons, List.nodup_cons] at hn
    rcases List.mem_cons.mp h with e | h
    · subst e
      rw [List.find?_cons_of_pos (by simp)]
      rfl
    · have ne : f.1 ≠ n := fun e => hn.1 (e ▸ List.mem_map_of_mem (f := Prod.fst) h)
      rw [List.find?_cons_of_neg (by simp [ne])]
      exact ih hn.2 h
def fillsJ (fs : List (Str × Str)) (kvs : List (Key × J)) : Bool := decide (kvs.length = fs.length) && fs.all fun f => match valJ kvs (.inr f.1) with
  | some v => mayStand v f.2
  | none => false
def isFilling (fs : List (Str × Str)) : J → Bool
  | .dct kvs => fillsJ fs kvs
  | _ => false
/-- a thing that may be asked whether it is a filling -/
def FlOk (s : Sto) (d : J) : Prop := (∃ t, tyJ s d = some t) ∧ (tyJ s d = some "dict" → ∃ kvs, d = .dct kvs ∧ ∀ k v, valJ kvs k = some v → TyD s v)
theorem is_filling_ok {fs : List (Str × Str)} {d : J} {s : Sto} {Q : QJ} {R : XJ} (hn : (fs.map Prod.fst).Nodup) (hl : fs.length ≤ 5) (hd : FlOk s d) (q : Q (.bl (isFilling fs d)) s) : w_Layout_is_filling [layJ fs, d] s Q R := by
  obtain ⟨⟨t, ht⟩, hv⟩ := hd
  refine w_of ?_
  unfold q_Layout_is_filling
  walk_at "y"
  refine y_isi ht ?_
  by_cases c : t = "dict"
  · subst c
    obtain ⟨kvs, rfl, hw⟩ := hv ht
    unfold layJ
    walk_at "y"
    rw [List.length_map]
    unfold isFilling fillsJ at q
    dsimp only at q
    refine ite_nd (fun c => ?_) (fun c => ?_)
    · have c' : kvs.length = fs.length := by omega
      rw [decide_eq_true c', Bool.true_and] at q
      walk_at "y"
      refine lc_map (fun x => match x with | .str n => .bl (match valJ kvs (.inr n), valJ (kindsJ fs) (.inr n) with | some v, some (.str k) => mayStand v k | _, _ => false) | _ => .non) (by show (fs.map _).length ≤ _; rw [List.length_map]; omega) trivial ?_ ?_
      · intro x hx Y hy
        obtain ⟨f, hf, rfl⟩ := List.mem_map.mp hx
        have ek := valJ_kind hn (n := f.1) (k := f.2) hf
        dsimp only at hy
        rw [ek] at hy
        walk_at "y"
        refine y_in_d (k := .inr f.1) rfl ?_
        cases e : valJ kvs (.inr f.1) with
        | none =>
          rw [e] at hy
          walk_at "y"
          exact hy
        | some v =>
          rw [e] at hy
          walk_at "y"
          refine y_ix_d (k := .inr f.1) rfl e ?_
          walk_at "y"
          refine y_ix_d (k := .inr f.1) rfl ek ?_
          walk_at "y"
          exact may_stand_ok (hw _ _ e) hy
      · walk_at "y"
        have e3 : (fs.map fun f => J.str f.1).map (fun x => match x with | .str n => J.bl (match valJ kvs (.inr n), valJ (kindsJ fs) (.inr n) with | some v, some (.str k) => mayStand v k | _, _ => false) | _ => .non) =
          (fs.map fun f => match valJ kvs (.inr f.1) with | some v => mayStand v f.2 | none => false).map J.bl := by
          rw [List.map_map, List.map_map]
          refine List.map_congr_left fun f hf => ?_
          have ek := valJ_kind hn (n := f.1) (k := f.2) hf
          show J.bl _ = J.bl _
          dsimp only
          rw [ek]
          cases valJ kvs (.inr f.1) <;> rfl
        rw [e3]
        refine y_all ?_
        rw [restr_id, List.all_map]
        exact q
    · have c' : ¬ kvs.length = fs.length := by omega
      rw [decide_eq_false c', Bool.false_and] at q
      walk_at "y"
      rw [restr_id]
      exact q
  · have hm := tyJ_mem ht
    have nt : isT t "dict" = false := by
      unfold tys7 at hm
      simp only [List.mem_cons, List.not_mem_nil, or_false] at hm
      rcases hm with rfl | rfl | rfl | rfl | rfl | rfl | rfl <;> first | rfl | exact absurd rfl c
    rw [nt]
    walk_at "y"
    have e : isFilling fs d = false := by
      unfold isFilling
      split
      · rename_i kvs
        have : tyJ s (.dct kvs) = some "dict" := rfl
        rw [this] at ht
        cases ht
        exact absurd rfl c
      · rfl
    rw [e] at q
    rw [restr_id]
    exact q

def pj (p q : Int) : J := if q = 1 then .int p else .tup [.int p, .int q]
def Lo (p q : Int) : Prop := 1 ≤ q ∧ Int.gcd p q = 1
theorem pj_one (p : Int) : pj p 1 = .int p := if_pos rfl
theorem pj_two {p q : Int} (h : q ≠ 1) : pj p q = .tup [.int p, .int q] := if_neg h
theorem pj_num {p q : Int} (h : Lo p q) : isNum (pj p q) = true := by
  unfold pj
  split
  · rfl
  · show (decide (2 ≤ q) && decide (Int.gcd p q = 1)) = true
    rw [decide_eq_true (by have := h.1; omega), decide_eq_true h.2]
    rfl
theorem lo_cut {p q : Int} (h : 0 < q) : Lo (p / (Int.gcd p q : Int)) (q / (Int.gcd p q : Int)) := by
  have g0 : 0 < (Int.gcd p q : Int) := by exact_mod_cast Int.gcd_pos_of_ne_zero_right p (by omega)
  refine ⟨?_, ?_⟩
  · have e := Int.ediv_mul_cancel (Int.gcd_dvd_right p q)
    have : 0 < q / (Int.gcd p q : Int) * (Int.gcd p q : Int) := by rw [e]; exact h
    have : 0 < q / (Int.gcd p q : Int) := by
      rcases Int.lt_trichotomy 0 (q / (Int.gcd p q : Int)) with c | c | c
      · exact c
      · rw [← c, Int.zero_mul] at this; omega
      · have := Int.mul_neg_of_neg_of_pos c g0
        omega
    omega
  · exact Int.gcd_ediv_gcd_ediv_gcd (by exact_mod_cast g0)
def runEnd (cs ps : List Nat) (k : Nat) : Nat := k + ((cs.drop k).takeWhile fun c => decide (c ∈ ps)).length
def letL : List Nat := (Str.cps "abcdefghijklmnopqrstuvwxyz").toList
def digL : List Nat := (Str.cps "0123456789").toList
def numEnd (cs : List Nat) (k : Nat) : Nat :=
  let st := if cs[k]? = some 45 then k + 1 else k
  let e := runEnd cs digL st
  if e = st then k else
    let b := runEnd cs digL (e + 1)
    if cs[e]? = some 47 ∧ e + 1 < b then b else e
def quoEnd (cs : List Nat) (k : Nat) : Nat :=
  if cs[k]? = some 39 then
    let e := runEnd cs letL (k + 1)
    if cs[e]? = some 39 ∧ 2 ≤ e - k ∧ e - k ≤ 9 then e + 1 else k
  else k
def signsL : List Str := ["=>", "<=", ">=", "!=", "(", ")", ",", "=", "<", ">"]
def signEnd (cs : List Nat) (k : Nat) : Nat := match signsL.find? fun g => g.cps.toList.isPrefixOf (cs.drop k) with
  | some g => k + g.length
  | none => k + 1
def tokEnd (cs : List Nat) (k : Nat) : Nat := if k < runEnd cs letL k then runEnd cs letL k else if k < numEnd cs k then numEnd cs k else if k < quoEnd cs k then quoEnd cs k else signEnd cs k
theorem atI_nat {α : Type} {xs : List α} {k : Nat} {x : α} (h : xs[k]? = some x) : atI xs (k : Int) = some x := atI_of (by omega) (by simpa using h)
/-- the tokens from a place on -/
def toks (cs : List Nat) : Nat → Nat → List (Nat × List Nat)
  | 0, _ => []
  | f + 1, k => if k < cs.length then (if cs[k]? = some 32 then toks cs f (k + 1) else (k, (cs.drop k).take (tokEnd cs k - k)) :: toks cs f (tokEnd cs k)) else []
/-- numbers that are written: at most 300 digits above and below the line -/
def Nw (p q : Int) : Prop := Lo p q ∧ p.natAbs < 10 ^ 300 ∧ q.natAbs < 10 ^ 300
theorem value_ok {p q : Int} {s : Sto} {Q : QJ} {R : XJ} (hq : 0 < q) (h1 : q.natAbs < Big) (k : Q (pj (p / (Int.gcd p q : Int)) (q / (Int.gcd p q : Int))) s) : w_lvalue [.int p, .int q] s Q R := by
  have g0 : 0 < (Int.gcd p q : Int) := by exact_mod_cast Int.gcd_pos_of_ne_zero_right p (by omega)
  have gl : (Int.gcd p q : Int) ≤ q := Int.le_of_dvd hq (Int.gcd_dvd_right p q)
  have gb : ((Int.gcd p q : Int)).natAbs < Big := by omega
  refine w_of ?_
  unfold q_lvalue
  walk_at "y"
  refine y_while (fun ρ s' => s' = s ∧ ∃ l g : Int, ρ = [some (.int p), some (.int q), some (.int l), some (.int g)] ∧ 0 ≤ l ∧ 0 ≤ g ∧ Int.gcd l g = Int.gcd p q) (fun ρ _ => match ρ with | [_, _, some (.int l), _] => l.toNat | _ => 0) ⟨rfl, (p.natAbs : Int), q, rfl, by omega, by omega, ?_⟩ ?_
  · show Int.gcd (p.natAbs : Int) q = Int.gcd p q
    unfold Int.gcd
    rw [Int.natAbs_natCast]
  rintro ρ s1 ⟨rfl, l, g, rfl, hl, hg, e⟩
  walk_at "y"
  refine ite_d (fun h => ?_) (fun h => ?_)
  · walk_at "y"
    refine ⟨⟨rfl, _, _, rfl, Int.emod_nonneg _ (by omega), hl, ?_⟩, ?_⟩
    · rw [← e]
      obtain ⟨m, rfl⟩ := Int.eq_ofNat_of_zero_le hl
      obtain ⟨n, rfl⟩ := Int.eq_ofNat_of_zero_le hg
      show Int.gcd ((n : Int) % (m : Int)) (m : Int) = Int.gcd (m : Int) (n : Int)
      rw [← Int.natCast_emod]
      exact (Nat.gcd_rec m n).symm
    · show (g % l).toNat < l.toNat
      have := Int.emod_lt_of_pos g h
      have := Int.emod_nonneg g (by omega : l ≠ 0)
      omega
  · walk_at "y"
    have e0 : l = 0 := by omega
    subst e0
    have eg : (Int.gcd p q : Int) = g := by rw [← e]; simp; omega
    rw [← eg]
    refine ite_d (fun h => ?_) (fun h => ?_)
    · walk_at "y"
      rw [restr_id]
      have e : q / (Int.gcd p q : Int) = 1 := by
        conv => lhs; lhs; rw [h]
        exact Int.ediv_self (by omega)
      rw [e, pj_one] at k
      exact k
    · walk_at "y"
      rw [restr_id]
      have e : q / (Int.gcd p q : Int) ≠ 1 := fun z => h (by
        have := Int.ediv_mul_cancel (Int.gcd_dvd_right p q)
        rw [z, Int.one_mul] at this
        omega)
      rw [pj_two e] at k
      exact k
theorem nw_cut {p q : Int} {m : Nat} (hq : 0 < q) (h1 : p.natAbs ≤ m) (h2 : q.natAbs ≤ m) (hm : m < 10 ^ 300) : Nw (p / (Int.gcd p q : Int)) (q / (Int.gcd p q : Int)) := by
  have g0 : 0 < Int.gcd p q := Int.gcd_pos_of_ne_zero_right p (by omega)
  refine ⟨lo_cut hq, ?_, ?_⟩
  · rw [Int.natAbs_ediv_of_dvd (Int.gcd_dvd_left p q)]
    exact Nat.lt_of_le_of_lt (Nat.div_le_self _ _) (by omega)
  · rw [Int.natAbs_ediv_of_dvd (Int.gcd_dvd_right p q)]
    exact Nat.lt_of_le_of_lt (Nat.div_le_self _ _) (by omega)
theorem cut_le {p q : Int} {m n : Nat} (h1 : p.natAbs ≤ m) (h2 : q.natAbs ≤ n) : (p / (Int.gcd p q : Int)).natAbs ≤ m ∧ (q / (Int.gcd p q : Int)).natAbs ≤ n := by
  have k : ∀ a : Int, (a / (Int.gcd p q : Int)).natAbs ≤ a.natAbs := fun a => by
    first
      | exact Int.natAbs_ediv_le_natAbs a _
      | exact Int.natAbs_div_le_natAbs a _
  exact ⟨Nat.le_trans (k p) h1, Nat.le_trans (k q) h2⟩
theorem number_drawK {s : Sto} {b : Addr} {n : Nat} {Q : QJ} {R : XJ} (hb : BagJ s b n) (hn : n ≤ 100000000) (q : ∀ (p r : Int) s', Nw p r → p.natAbs ≤ 10 ^ 20 → r.natAbs ≤ 10 ^ 9 → Chg b s s' → BagJ s' b (n + 3) → Q (pj p r) s') : w_lnumber [.own b] s Q R := by
  refine w_of ?_
  unfold q_lnumber
  have hB := big_le
  walk_at "y"
  refine take_ok hb (by omega) (by decide) (by decide) fun d s1 d0 d1 c1 b1 => ?_
  walk_at "y"
  refine ite_d (fun h => ?_) (fun h => ?_)
  · walk_at "y"
    refine take_ok b1 (by omega) (by decide) (by decide) fun d2 s2 _ _ c2 b2 => ?_
    walk_at "y"
    refine take_ok b2 (by omega) (by decide) (by decide) fun d3 s3 _ _ c3 b3 => ?_
    walk_at "y"
    refine value_ok (by omega) (by omega) ?_
    walk_at "y"
    have cc := (c1.trans c2).trans c3
    rw [restr_chg hb cc]
    obtain ⟨l1, l2⟩ := cut_le (p := d2 - 5) (q := 1 + d3) (m := 10 ^ 20) (n := 10 ^ 9) (by omega) (by omega)
    exact q _ _ _ (nw_cut (m := 20) (by omega) (by omega) (by omega) (by decide)) l1 l2 cc b3
  · have t20 : (10 : Int) ^ 20 = 100000000000000000000 := by decide +kernel
    have t9 : (10 : Int) ^ 9 = 1000000000 := by decide +kernel
    walk_at "y"
    rw [t20]
    walk_at "y"
    refine take_ok b1 (by omega) (by decide) (by decide) fun d2 s2 _ _ c2 b2 => ?_
    walk_at "y"
    rw [t20]
    walk_at "y"
    rw [t9]
    refine take_ok b2 (by omega) (by decide) (by decide) fun d3 s3 _ _ c3 b3 => ?_
    walk_at "y"
    refine value_ok (by omega) (by omega) ?_
    have cc := (c1.trans c2).trans c3
    rw [restr_chg hb cc]
    obtain ⟨l1, l2⟩ := cut_le (p := d2 - 100000000000000000000) (q := 1 + d3) (m := 10 ^ 20) (n := 10 ^ 9) (by omega) (by omega)
    exact q _ _ _ (nw_cut (m := 100000000000000000000) (by omega) (by omega) (by omega) (by decide)) l1 l2 cc b3
def f3 (a b c : Str) : List (Str × Str) := [("ka", a), ("kb", b), ("kc", c)]
def n3 : List Str := ["ka", "kb", "kc"]
theorem find_at {α : Type} {p : α → Bool} : ∀ {l : List α} {i : Nat} {x : α}, l[i]? = some x → p x = true → (∀ y ∈ l.take i, p y = false) → l.find? p = some x
  | [], _, _, h, _, _ => nomatch h
  | y :: l, 0, x, h, hp, _ => by
    cases h
    rw [List.find?_cons_of_pos hp]
  | y :: l, i + 1, x, h, hp, pre => by
    rw [List.find?_cons_of_neg (by rw [pre y (by rw [List.take_succ_cons]; exact List.mem_cons_self)]; decide)]
    exact find_at (i := i) h hp fun z hz => pre z (by rw [List.take_succ_cons]; exact List.mem_cons_of_mem _ hz)
theorem find_no {α : Type} {p : α → Bool} {l : List α} (h : ∀ y ∈ l, p y = false) : l.find? p = none := List.find?_eq_none.mpr fun x hx => by rw [h x hx]; decide
/-- the first strange name of those that are passed -/
def strangeN (ks : List Str) : Option Str := ks.find? fun k => !decide (k ∈ n3)
def badF (l : List (Key × J)) (f : Str × Str) : Bool := match valJ l (.inr f.1) with
  | some v => !mayStand v f.2
  | none => false
/-- the first field with a wrong value -/
def wrongN (a b c : Str) (l : List (Key × J)) : Option (Str × Str) := (f3 a b c).find? (badF l)
def fillOf (l : List (Key × J)) : List (Key × J) := n3.map fun n => (.inr n, (valJ l (.inr n)).getD .non)
theorem n3_any (a b c z : Str) : (((f3 a b c).map fun f => J.str f.1).any fun x => eqJ x (.str z)) = decide (z ∈ n3) := any_strs z n3
theorem n3_ok : (J.tup [J.str "ka", .str "kb", .str "kc"]).ok = true := by decide +kernel
theorem f3_at {a b c : Str} {i : Nat} {x : J} (h : ((f3 a b c).map fun f => J.str f.1)[i]? = some x) : ∃ f, (f3 a b c)[i]? = some f ∧ n3[i]? = some f.1 ∧ f ∈ f3 a b c ∧ x = .str f.1 := by
  match i, h with
  | 0, h => cases h; exact ⟨_, rfl, rfl, List.Mem.head _, rfl⟩
  | 1, h => cases h; exact ⟨_, rfl, rfl, List.Mem.tail _ (List.Mem.head _), rfl⟩
  | 2, h => cases h; exact ⟨_, rfl, rfl, List.Mem.tail _ (List.Mem.tail _ (List.Mem.head _)), rfl⟩
  | _ + 3, h => cases h
theorem f3_nd (a b c : Str) : ((f3 a b c).map Prod.fst).Nodup := by
  show n3.Nodup
  decide +kernel
theorem n3_at {i : Nat} {z : Str} (h : n3[i]? = some z) : ∀ w ∈ n3.take i, w ≠ z := by
  match i, h with
  | 0, h => intro w hw; cases hw
  | 1, h => cases h; decide +kernel
  | 2, h => cases h; decide +kernel
  | _ + 3, h => cases h
theorem putK_newF {kvs : List (Key × J)} {k : Key} {v : J} (h : ∀ kv ∈ kvs, kv.1 ≠ k) : putK' kvs k v = kvs ++ [(k, v)] := by
  unfold putK'
  rw [if_neg]
  intro c
  obtain ⟨kv, hm, he⟩ := List.any_eq_true.mp c
  exact h kv hm (of_decide_eq_true he)
theorem y_dcO {p : IJ} {g : GJ} {pt : BJ} {pk pv : TJ} {vs : List Nat} {ρ : Rho} {s : Sto} {Q : QJ} {R : XJ} (h : p ρ s (fun I s1 => dcJ I.st g pt pk pv (wipeJ ρ vs) (fun acc s2 => ∀ p, s2 p = none → Q (.own p) (put s2 p (.dct acc))) I.items [] s1) R) : jDcO p g pt pk pv vs ρ s Q R := h
theorem fillW {s : Sto} {a b c : Str} {l : List (Key × J)} {ks : List Str} {Q : QJ} {R : XJ} (hk : l.map (·.1) = ks.map (Sum.inr : Str → Key)) (few : ks.length ≤ 100) (ok : ∀ z ∈ ks, (J.str z).ok = true) (hv : ∀ k v, valJ l k = some v → TyD s v)
    (e1 : ∀ z, strangeN ks = some z → R "BadField" [("name", .str z)] s) (e2 : ∀ f, strangeN ks = none → wrongN a b c l = some f → R "BadValue" [("name", .str f.1)] s)
    (q : strangeN ks = none → wrongN a b c l = none → ∀ p, s p = none → Q (.own p) (put s p (.dct (fillOf l)))) : w_Layout_fill [layJ (f3 a b c), .dct l] s Q R := by
  refine w_of ?_
  unfold q_Layout_fill layJ
  walk_at "y"
  refine y_keys ?_
  walk_at "y"
  refine ⟨l, rfl, ?_⟩
  have it : (l.map fun kv => kJ kv.1) = ks.map J.str := by
    rw [show (fun kv : Key × J => kJ kv.1) = kJ ∘ Prod.fst from rfl, ← List.map_map, hk, List.map_map]
    rfl
  rw [it]
  refine for_inv (fun i ρ s' => s' = s ∧ (∀ z ∈ ks.take i, z ∈ n3) ∧ ∃ x, ρ = [some (layJ (f3 a b c)), some (.dct l), x, none]) ⟨rfl, (fun _ h => by rw [List.take_zero] at h; cases h), none, rfl⟩ (fun _ _ _ _ _ => trivial) ?_ ?_
  · rintro i x ρ s' N hx ⟨rfl, pre, x2, rfl⟩ hN
    rw [List.getElem?_map] at hx
    cases e : ks[i]? with
    | none => rw [e] at hx; cases hx
    | some z =>
      rw [e] at hx
      cases hx
      unfold layJ
      walk_at "y"
      refine y_nin_t (ok z (List.mem_of_getElem? e)) n3_ok ?_
      rw [show res s' (.str z) = .str z from rfl, n3_any]
      by_cases h : z ∈ n3
      · rw [decide_eq_true h]
        walk_at "y"
        refine hN _ _ ⟨rfl, fun w hw => ?_, _, rfl⟩
        rw [List.take_add_one, e] at hw
        rcases List.mem_append.mp hw with hw | hw
        · exact pre w hw
        · rw [List.mem_singleton.mp hw]; exact h
      · rw [decide_eq_false h]
        walk_at "y"
        rw [restr_id]
        refine e1 z (find_at e ?_ fun w hw => ?_)
        · rw [decide_eq_false h]; rfl
        · rw [decide_eq_true (pre w hw)]; rfl
  rintro ρ s' ⟨rfl, pre, x2, rfl⟩
  rw [List.length_map, List.take_length] at pre
  have sn : strangeN ks = none := find_no fun z hz => by rw [decide_eq_true (pre z hz)]; rfl
  unfold layJ
  walk_at "y"
  refine for_inv (fun i ρ s2 => s2 = s' ∧ (∀ f ∈ (f3 a b c).take i, badF l f = false) ∧ ∃ x, ρ = [some (layJ (f3 a b c)), some (.dct l), x, none]) ⟨rfl, (fun _ h => by rw [List.take_zero] at h; cases h), _, rfl⟩ (fun _ _ _ _ _ => trivial) ?_ ?_
  · rintro i x ρ s2 N hx ⟨rfl, pf, x2, rfl⟩ hN
    obtain ⟨f, ef, _, mf, rfl⟩ := f3_at (a := a) (b := b) (c := c) hx
    have kd := valJ_kind (f3_nd a b c) (n := f.1) (k := f.2) mf
    have next : badF l f = false → N [some (layJ (f3 a b c)), some (.dct l), some (.str f.1), none] s2 := fun hb => hN _ _ ⟨rfl, fun g hg => by
      rw [List.take_add_one, ef] at hg
      rcases List.mem_append.mp hg with hg | hg
      · exact pf g hg
      · rw [List.mem_singleton.mp hg]; exact hb, _, rfl⟩
    unfold layJ
    walk_at "y"
    refine y_in_d (k := .inr f.1) rfl ?_
    cases e : valJ l (.inr f.1) with
    | none =>
      walk_at "y"
      exact next (by unfold badF; rw [e])
    | some v =>
      walk_at "y"
      refine y_ix_d (k := .inr f.1) rfl e ?_
      walk_at "y"
      refine y_ix_d (k := .inr f.1) rfl kd ?_
      walk_at "y"
      refine may_stand_ok (hv _ _ e) ?_
      cases m : mayStand v f.2 with
      | true =>
        walk_at "y"
        exact next (by unfold badF; rw [e]; dsimp only; rw [m]; rfl)
      | false =>
        walk_at "y"
        rw [restr_id]
        exact e2 f sn (find_at ef (by unfold badF; rw [e]; dsimp only; rw [m]; rfl) pf)
  rintro ρ s2 ⟨rfl, pf, x2, rfl⟩
  have wn : wrongN a b c l = none := find_no fun f hf => pf f (by
    rw [List.length_map, List.take_length]
    exact hf)
  unfold layJ
  walk_at "y"
  refine y_dcO ?_
  walk_at "y"
  refine dc_inv (fun i acc s3 => s3 = s2 ∧ acc = (n3.take i).map fun n => (.inr n, (valJ l (.inr n)).getD .non)) ⟨rfl, rfl⟩ (fun _ _ _ _ _ => trivial) ?_ ?_
  · rintro i x acc s3 N hx ⟨rfl, rfl⟩ hN
    obtain ⟨f, _, en, _, rfl⟩ := f3_at (a := a) (b := b) (c := c) hx
    walk_at "y"
    refine y_getD1 rfl (k := .inr f.1) rfl ?_
    refine ⟨.inr f.1, rfl, ?_, hN _ _ ⟨rfl, ?_⟩⟩
    · rw [List.length_map, List.length_take]
      have : n3.length = 3 := rfl
      omega
    · rw [putK_newF, List.take_add_one, en]
      · rw [List.map_append]
        rfl
      · rintro kv hkv e
        obtain ⟨w, hw, rfl⟩ := List.mem_map.mp hkv
        exact n3_at en w hw (Sum.inr.inj e)
  · rintro acc s3 ⟨rfl, rfl⟩
    intro p hp
    walk_at "y"
    rw [restr_own hp, restr_id]
    exact q sn wn p hp

inductive WV : Str → J → Prop
  | word {w : Str} (h : isWordS w = true) : WV "word" (.str w)
  | num {p q : Int} (h : Lo p q) (h1 : p.natAbs ≤ 10 ^ 20) (h2 : q.natAbs ≤ 10 ^ 9) : WV "number" (pj p q)
theorem WV.ty {k : Str} {s : Sto} {x : J} (h : WV k x) : TyD s x := by
  cases h with
  | @word w h => exact ⟨⟨_, rfl⟩, (fun z e => by cases e; have := word_len h; omega), (fun x y e => by cases e)⟩
  | @num p q h h1 h2 =>
    unfold pj
    split
    · exact ⟨⟨_, rfl⟩, (fun z e => by cases e), (fun x y e => by cases e)⟩
    · exact ⟨⟨_, rfl⟩, (fun z e => by cases e), (fun x y e => by cases e; exact ⟨⟨_, rfl⟩, ⟨_, rfl⟩⟩)⟩
theorem non_ty {s : Sto} : TyD s .non := ⟨⟨_, rfl⟩, (fun z e => by cases e), (fun x y e => by cases e)⟩
theorem WV.stand {k : Str} {x : J} (h : WV k x) : mayStand x k = true := by
  unfold mayStand isValue
  cases h with
  | @word w h => rw [if_neg (by decide +kernel)]; exact h
  | @num p q h h1 h2 => rw [if_pos rfl, pj_num h, Bool.or_true]
theorem WV.ok {k : Str} {x : J} (h : WV k x) : x.ok = true := by
  cases h with
  | @word w h => exact word_ok h
  | @num p q h h1 h2 =>
    unfold pj
    split
    · unfold J.ok J.okd; rfl
    · simp [J.ok, J.okd, J.oks]
theorem WV.eqS {k : Str} {x : J} (h : WV k x) : eqJ x x = true := by
  cases h with
  | @word w h => rw [eqJ_str]; exact decide_eq_true rfl
  | @num p q h h1 h2 =>
    unfold pj
    split
    · simp [eqJ, J.py, PyData.eqv]
    · simp [eqJ, J.py, J.pys, PyData.eqv, PyData.eqvAll]
/-- it can be shown -/
def Sh (x : J) : Prop := ∃ d : PyData, PyT x d ∧ d.showable = true ∧ d.depth ≤ 50 ∧ d.shown.length ≤ 20000
theorem log_le {i : Int} (h : i.natAbs ≤ 10 ^ 20) : i.natAbs.log2 < 1920 := by
  rcases Nat.eq_zero_or_pos i.natAbs with e | e
  · rw [e]; decide
  · exact (Nat.log2_lt (by omega)).mpr (Nat.lt_of_le_of_lt h (by decide +kernel))
theorem WV.sh {k : Str} {x : J} (h : WV k x) : Sh x := by
  cases h with
  | @word w h =>
    have hl := word_len h
    obtain ⟨d, h1, h2, _, _, h5⟩ := shw_tree (n := 60) (x := .str w) (word_ok h) (by unfold wtJ; omega)
    cases h1
    unfold wtJ at h5
    exact ⟨.str w, .str w, h2, by simp [PyData.depth], by omega⟩
  | @num p q h h1 h2 =>
    have l1 := log_le h1
    have l2 := log_le (i := q) (by omega)
    unfold pj
    split
    · obtain ⟨d, h1, h2, _, _, h5⟩ := shw_tree (n := 60) (x := .int p) (by unfold J.okd; rfl) (by unfold wtJ; rw [if_pos l1]; omega)
      cases h1
      unfold wtJ at h5
      rw [if_pos l1] at h5
      exact ⟨.int p, .int p, h2, by simp [PyData.depth], by omega⟩
    · obtain ⟨d, h1, h2, _, _, h5⟩ := shw_tree (n := 60) (x := .tup [.int p, .int q]) (by simp [J.okd, J.oks]) (by simp only [wtJ, wtJs]; rw [if_pos l1, if_pos l2]; omega)
      cases h1 with | tup ps =>
      cases ps with | cons a r =>
      cases a
      cases r with | cons b r =>
      cases b
      cases r
      simp only [wtJ, wtJs] at h5
      rw [if_pos l1, if_pos l2] at h5
      exact ⟨.tuple [.int p, .int q], .tup (.cons (.int p) (.cons (.int q) .nil)), h2, by simp [PyData.depth, PyData.depthAll], by omega⟩
theorem dict_len {a b c : Str} : (dictText [a, b, c]).length ≤ a.length + b.length + c.length + 10 := by
  have e : (dictText [a, b, c]).length = 1 + (Str.join ", " [a, b, c]).length + 1 := by
    unfold dictText
    rw [strLen_append, strLen_append]
    rfl
  have := join_length_add [a, b, c] (by simp)
  have p : piled [a, b, c] = a.length + 2 + (b.length + 2 + (c.length + 2 + 0)) := by
    rw [piled_cons, piled_cons, piled_cons]
    rfl
  omega
theorem shwD3 {x y z : J} (hx : Sh x) (hy : Sh y) (hz : Sh z) : ∃ ds, ShwD [((.inr "ka" : Key), x), (.inr "kb", y), (.inr "kc", z)] ds := by
  obtain ⟨d1, p1, s1, t1, l1⟩ := hx
  obtain ⟨d2, p2, s2, t2, l2⟩ := hy
  obtain ⟨d3, p3, s3, t3, l3⟩ := hz
  refine ⟨[(.str "ka", d1), (.str "kb", d2), (.str "kc", d3)], ⟨.cons p1 (.cons p2 (.cons p3 .nil)), ?_, ?_, ?_⟩⟩
  · simp [PyData.showable, PyData.showableKv, s1, s2, s3]
  · simp only [PyData.depth, PyData.depthKv]
    omega
  · simp only [PyData.shown, PyData.shownKv]
    have e1 : (reprText "ka").length = 4 := by decide +kernel
    have e2 : (reprText "kb").length = 4 := by decide +kernel
    have e3 : (reprText "kc").length = 4 := by decide +kernel
    have e4 : ((": " : String) : Str).length = 2 := by decide +kernel
    refine Nat.le_trans dict_len ?_
    rw [strLen_append, strLen_append, strLen_append, strLen_append, strLen_append, strLen_append, e1, e2, e3, e4, sizeLine_eq]
    omega

theorem valJ_in {l : List (Key × J)} {k : Key} {v : J} (h : valJ l k = some v) : ∃ p ∈ l, p.2 = v := by
  unfold valJ at h
  cases e : l.find? fun kv => decide (kv.1 = k) with
  | none => rw [e] at h; cases h
  | some p => rw [e] at h; cases h; exact ⟨p, List.mem_of_find?_eq_some e, rfl⟩
theorem y_ne_od {s : Sto} {Q : QJ} {a : Addr} {ks ls : List (Key × J)} (e : s a = some (.dct ks)) (o1 : okKv ks) (o2 : okKv ls) (q : Q (.bl (!dctEq ks ls)) s) : neRJ (.own a) (.dct ls) s Q := by
  unfold neRJ eqR
  exact .inr ⟨_, _, res_od e, rfl, ⟨o1, o2⟩, q⟩
theorem y_eq_od {s : Sto} {Q : QJ} {a : Addr} {ks ls : List (Key × J)} (e : s a = some (.dct ks)) (o1 : okKv ks) (o2 : okKv ls) (q : Q (.bl (dctEq ks ls)) s) : eqRJ (.own a) (.dct ls) s Q := by
  unfold eqRJ eqR
  exact .inr ⟨_, _, res_od e, rfl, ⟨o1, o2⟩, q⟩
/-- a dict of the three fields -/
def d3 (x y z : J) : List (Key × J) := [(.inr "ka", x), (.inr "kb", y), (.inr "kc", z)]
theorem d3_eq {x y z : J} (hx : eqJ x x = true) (hy : eqJ y y = true) (hz : eqJ z z = true) : dctEq (d3 x y z) (d3 x y z) = true := by
  unfold dctEq
  have e1 : valJ (d3 x y z) (.inr "ka") = some x := rfl
  have e2 : valJ (d3 x y z) (.inr "kb") = some y := rfl
  have e3 : valJ (d3 x y z) (.inr "kc") = some z := rfl
  show ((d3 x y z).length == (d3 x y z).length && ([((.inr "ka" : Key), x), (.inr "kb", y), (.inr "kc", z)].all fun kv => match valJ (d3 x y z) kv.1 with | some y => eqJ kv.2 y | none => false)) = true
  rw [beq_self_eq_true, Bool.true_and, List.all_cons, List.all_cons, List.all_cons, List.all_nil]
  dsimp only
  rw [e1, e2, e3]
  dsimp only
  rw [hx, hy, hz]
  rfl
theorem d3_ok {x y z : J} (hx : x.ok = true) (hy : y.ok = true) (hz : z.ok = true) : okKv (d3 x y z) := fun kv h => by
  unfold d3 at h
  simp only [List.mem_cons, List.not_mem_nil, or_false] at h
  rcases h with rfl | rfl | rfl <;> assumption
theorem n3L : eqJ (.lst [.str "ka", .str "kb", .str "kc"]) (.lst [.str "ka", .str "kb", .str "kc"]) = true := by decide +kernel
theorem n3L_ok : (J.lst [.str "ka", .str "kb", .str "kc"]).ok = true := by decide +kernel
theorem wrong_none {a b c : Str} {l : List (Key × J)} (h : ∀ f ∈ f3 a b c, ∀ v, valJ l (.inr f.1) = some v → mayStand v f.2 = true) : wrongN a b c l = none := find_no fun f hf => by
  unfold badF
  cases e : valJ l (.inr f.1) with
  | none => rfl
  | some v => dsimp only; rw [h f hf v e]; rfl
/-- a right call -/
theorem fill_new {s : Sto} {a b c : Str} {l : List (Key × J)} {ks : List Str} {Q : QJ} {R : XJ} (hk : l.map (·.1) = ks.map (Sum.inr : Str → Key)) (few : ks.length ≤ 100) (ok : ∀ z ∈ ks, (J.str z).ok = true) (hv : ∀ k v, valJ l k = some v → TyD s v) (sn : strangeN ks = none)
    (hw : ∀ f ∈ f3 a b c, ∀ v, valJ l (.inr f.1) = some v → mayStand v f.2 = true) (q : ∀ p, s p = none → Q (.own p) (put s p (.dct (fillOf l)))) : w_Layout_fill [layJ (f3 a b c), .dct l] s Q R :=
  fillW hk few ok hv (fun z e => by rw [sn] at e; cases e) (fun f _ e => by rw [wrong_none hw] at e; cases e) fun _ _ => q
theorem f3_cases {a b c : Str} {P : Str × Str → Prop} (h1 : P ("ka", a)) (h2 : P ("kb", b)) (h3 : P ("kc", c)) : ∀ f ∈ f3 a b c, P f := fun f hf => by
  unfold f3 at hf
  simp only [List.mem_cons, List.not_mem_nil, or_false] at hf
  rcases hf with rfl | rfl | rfl <;> assumption
theorem is_new_ok {s : Sto} {a b c : Str} {x y : J} {Q : QJ} {R : XJ} (hx : WV a x) (hy : WV b y) (q : Q (.bl true) s) : w_lis_new [layJ (f3 a b c), x, y] s Q R := by
  have oN : (J.non).ok = true := by decide
  have eN : eqJ .non .non = true := by decide +kernel
  have okd := d3_ok hx.ok hy.ok oN
  have eqd := d3_eq hx.eqS hy.eqS eN
  refine w_of ?_
  unfold q_lis_new
  walk_at "y"
  refine y_methW ?_
  walk_at "y"
  refine y_objX ?_
  walk_at "y"
  refine ⟨rfl, ?_⟩
  refine fill_new (ks := ["kb", "ka"]) rfl (by decide) (by decide +kernel) (fun k v h => ?_) (by decide +kernel) (f3_cases (fun v e => ?_) (fun v e => ?_) fun v e => ?_) fun p hp => ?_
  · obtain ⟨r, hr, rfl⟩ := valJ_in h
    rcases List.mem_cons.mp hr with rfl | hr
    · exact hy.ty
    · rw [List.mem_singleton.mp hr]; exact hx.ty
  · rw [show valJ _ _ = some x from rfl] at e; cases e; exact hx.stand
  · rw [show valJ _ _ = some y from rfl] at e; cases e; exact hy.stand
  · rw [show valJ _ _ = none from rfl] at e; cases e
  rw [show fillOf _ = d3 x y .non from rfl]
  walk_at "y"
  refine y_ne_od (ls := d3 x y .non) put_same okd okd ?_
  rw [eqd]
  walk_at "y"
  refine y_listD (res_od put_same) ?_
  rw [show ((d3 x y .non).map fun kv => kJ kv.1) = [J.str "ka", .str "kb", .str "kc"] from rfl]
  walk_at "y"
  refine y_ne_l n3L_ok n3L_ok ?_
  rw [n3L]
  walk_at "y"
  refine y_set_d put_same (k := .inr "ka") rfl (by show 3 < 100000; decide) ?_
  rw [put_put]
  walk_at "y"
  refine ⟨⟨d3 (.str "spoilt") y .non, res_od put_same⟩, ?_⟩
  walk_at "y"
  refine y_popD (y := .str "kc") (l := d3 (.str "spoilt") y .non) (k := .inr "kc") put_same rfl rfl ?_
  rw [put_put]
  walk_at "y"
  refine y_methW ?_
  walk_at "y"
  refine y_objX ?_
  walk_at "y"
  refine ⟨rfl, ?_⟩
  refine fill_new (ks := ["ka", "kb"]) rfl (by decide) (by decide +kernel) (fun k v h => ?_) (by decide +kernel) (f3_cases (fun v e => ?_) (fun v e => ?_) fun v e => ?_) fun p2 hp2 => ?_
  · obtain ⟨r, hr, rfl⟩ := valJ_in h
    rcases List.mem_cons.mp hr with rfl | hr
    · exact hx.ty
    · rw [List.mem_singleton.mp hr]; exact hy.ty
  · rw [show valJ _ _ = some x from rfl] at e; cases e; exact hx.stand
  · rw [show valJ _ _ = some y from rfl] at e; cases e; exact hy.stand
  · rw [show valJ _ _ = none from rfl] at e; cases e
  rw [show fillOf _ = d3 x y .non from rfl]
  walk_at "y"
  refine y_eq_od (ls := d3 x y .non) put_same okd okd ?_
  rw [eqd]
  walk_at "y"
  refine y_listD (res_od put_same) ?_
  rw [show ((d3 x y .non).map fun kv => kJ kv.1) = [J.str "ka", .str "kb", .str "kc"] from rfl]
  walk_at "y"
  refine y_eq_l n3L_ok n3L_ok ?_
  rw [n3L]
  walk_at "y"
  refine y_methW ?_
  walk_at "y"
  refine y_objX ?_
  walk_at "y"
  refine ⟨rfl, ?_⟩
  refine fill_new (ks := []) rfl (by decide) (fun _ h => nomatch h) (fun k v h => ?_) (by decide +kernel) (f3_cases (fun v e => ?_) (fun v e => ?_) fun v e => ?_) fun p3 hp3 => ?_
  · obtain ⟨r, hr, rfl⟩ := valJ_in h
    cases hr
  · rw [show valJ _ _ = none from rfl] at e; cases e
  · rw [show valJ _ _ = none from rfl] at e; cases e
  · rw [show valJ _ _ = none from rfl] at e; cases e
  rw [show fillOf _ = d3 .non .non .non from rfl]
  walk_at "y"
  refine y_eq_od (ls := d3 .non .non .non) put_same (d3_ok oN oN oN) (d3_ok oN oN oN) ?_
  rw [d3_eq eN eN eN]
  walk_at "y"
  obtain ⟨n2, h2⟩ := put_none hp2
  obtain ⟨n3, h3⟩ := put_none hp3
  obtain ⟨n4, h4⟩ := put_none h3
  rw [restr_new h4 rfl, restr_new h2 rfl, restr_new hp rfl, restr_id]
  exact q
theorem ks_ok {ks : List Str} (h : ∀ z ∈ ks, z ∈ (["ka", "kb", "kc", "kd", "ke"] : List Str)) : ∀ z ∈ ks, (J.str z).ok = true := fun z hz => by
  have := h z hz
  revert this
  exact (by decide +kernel : ∀ z ∈ (["ka", "kb", "kc", "kd", "ke"] : List Str), (J.str z).ok = true) z
/-- the call of each way -/
def wayK : Nat → List Str
  | 0 => ["kc", "kb"]
  | 1 => ["ka", "kd"]
  | 2 => ["kd", "ka"]
  | 4 => ["ka", "ke", "kd"]
  | 5 => ["kd", "kb", "ke"]
  | _ => ["kb"]
def wayD (x y : J) : Nat → List J
  | 0 => [y, x]
  | 1 => [x, y]
  | 2 => [x, y]
  | 4 => [y, x, y]
  | 5 => [y, x, x]
  | _ => [x]
def wayL (x y : J) (i : Nat) : List (Key × J) := ((wayK i).map Sum.inr).zip (wayD x y i)
theorem said_ok {s : Sto} {a b c : Str} {x y : J} {i : Nat} {Q : QJ} {R : XJ} (hi : i < 6) (hx : TyD s x) (hy : TyD s y) (e1 : ∀ z, strangeN (wayK i) = some z → Q (.tup [.str "field", .str z, .bl true]) s) (e2 : ∀ f, strangeN (wayK i) = none → wrongN a b c (wayL x y i) = some f → Q (.tup [.str "value", .str f.1, .bl true]) s)
    (q : strangeN (wayK i) = none → wrongN a b c (wayL x y i) = none → Q .non s) : w_lsaid [layJ (f3 a b c), .int (i : Int), x, y] s Q R := by
  have ty : ∀ (l : List (Key × J)), (∀ p ∈ l, p.2 = x ∨ p.2 = y) → ∀ k v, valJ l k = some v → TyD s v := fun l h k v e => by
    obtain ⟨p, hp, rfl⟩ := valJ_in e
    rcases h p hp with e | e <;> rw [e] <;> assumption
  refine w_of ?_
  unfold q_lsaid
  walk_at "y"
  refine y_tryX ?_
  walk_at "y"
  match i, hi with
  | 0, _ =>
    refine ite_d (fun _ => ?_) (fun c => absurd rfl c)
    walk_at "y"
    refine y_methW ?_
    walk_at "y"
    refine y_objX ?_
    walk_at "y"
    refine ⟨rfl, ?_⟩
    refine fillW (l := wayL x y 0) (ks := wayK 0) rfl (by decide) (ks_ok (by decide +kernel)) (ty _ (by simp [wayL, wayK, wayD])) (fun z h => ?_) (fun f h1 h2 => ?_) fun h1 h2 p hp => ?_
    · refine y_mix_n fun a dd ha => ?_
      walk_at "y"
      rw [restr_id]
      exact e1 z h
    · refine y_mix_f ?_
      refine y_mix_n fun a dd ha => ?_
      walk_at "y"
      rw [restr_id]
      exact e2 f h1 h2
    · walk_at "y"
      rw [restr_new hp rfl, restr_id]
      exact q h1 h2
  | 1, _ =>
    refine ite_d (fun c => absurd c (by decide)) (fun _ => ?_)
    walk_at "y"
    refine y_methW ?_
    walk_at "y"
    refine y_objX ?_
    walk_at "y"
    refine ⟨rfl, ?_⟩
    refine fillW (l := wayL x y 1) (ks := wayK 1) rfl (by decide) (ks_ok (by decide +kernel)) (ty _ (by simp [wayL, wayK, wayD])) (fun z h => ?_) (fun f h1 h2 => ?_) fun h1 h2 p hp => ?_
    · refine y_mix_n fun a dd ha => ?_
      walk_at "y"
      rw [restr_id]
      exact e1 z h
    · refine y_mix_f ?_
      refine y_mix_n fun a dd ha => ?_
      walk_at "y"
      rw [restr_id]
      exact e2 f h1 h2
    · walk_at "y"
      rw [restr_new hp rfl, restr_id]
      exact q h1 h2
  | 2, _ =>
    refine ite_d (fun c => absurd c (by decide)) (fun _ => ?_)
    walk_at "y"
    refine y_methW ?_
    walk_at "y"
    refine y_objX ?_
    walk_at "y"
    refine ⟨rfl, ?_⟩
    refine fillW (l := wayL x y 2) (ks := wayK 2) rfl (by decide) (ks_ok (by decide +kernel)) (ty _ (by simp [wayL, wayK, wayD])) (fun z h => ?_) (fun f h1 h2 => ?_) fun h1 h2 p hp => ?_
    · refine y_mix_n fun a dd ha => ?_
      walk_at "y"
      rw [restr_id]
      exact e1 z h
    · refine y_mix_f ?_
      refine y_mix_n fun a dd ha => ?_
      walk_at "y"
      rw [restr_id]
      exact e2 f h1 h2
    · walk_at "y"
      rw [restr_new hp rfl, restr_id]
      exact q h1 h2
  | 3, _ =>
    refine ite_d (fun c => absurd c (by decide)) (fun _ => ?_)
    walk_at "y"
    refine y_methW ?_
    walk_at "y"
    refine y_objX ?_
    walk_at "y"
    refine ⟨rfl, ?_⟩
    refine fillW (l := wayL x y 3) (ks := wayK 3) rfl (by decide) (ks_ok (by decide +kernel)) (ty _ (by simp [wayL, wayK, wayD])) (fun z h => ?_) (fun f h1 h2 => ?_) fun h1 h2 p hp => ?_
    · refine y_mix_n fun a dd ha => ?_
      walk_at "y"
      rw [restr_id]
      exact e1 z h
    · refine y_mix_f ?_
      refine y_mix_n fun a dd ha => ?_
      walk_at "y"
      rw [restr_id]
      exact e2 f h1 h2
    · walk_at "y"
      rw [restr_new hp rfl, restr_id]
      exact q h1 h2
  | 4, _ =>
    refine ite_d (fun c => absurd c (by decide)) (fun _ => ?_)
    walk_at "y"
    refine y_methW ?_
    walk_at "y"
    refine y_objX ?_
    walk_at "y"
    refine ⟨rfl, ?_⟩
    refine fillW (l := wayL x y 4) (ks := wayK 4) rfl (by decide) (ks_ok (by decide +kernel)) (ty _ (by simp [wayL, wayK, wayD])) (fun z h => ?_) (fun f h1 h2 => ?_) fun h1 h2 p hp => ?_
    · refine y_mix_n fun a dd ha => ?_
      walk_at "y"
      rw [restr_id]
      exact e1 z h
    · refine y_mix_f ?_
      refine y_mix_n fun a dd ha => ?_
      walk_at "y"
      rw [restr_id]
      exact e2 f h1 h2
    · walk_at "y"
      rw [restr_new hp rfl, restr_id]
      exact q h1 h2
  | 5, _ =>
    refine ite_d (fun c => absurd c (by decide)) (fun _ => ?_)
    walk_at "y"
    refine y_methW ?_
    walk_at "y"
    refine y_objX ?_
    walk_at "y"
    refine ⟨rfl, ?_⟩
    refine fillW (l := wayL x y 5) (ks := wayK 5) rfl (by decide) (ks_ok (by decide +kernel)) (ty _ (by simp [wayL, wayK, wayD])) (fun z h => ?_) (fun f h1 h2 => ?_) fun h1 h2 p hp => ?_
    · refine y_mix_n fun a dd ha => ?_
      walk_at "y"
      rw [restr_id]
      exact e1 z h
    · refine y_mix_f ?_
      refine y_mix_n fun a dd ha => ?_
      walk_at "y"
      rw [restr_id]
      exact e2 f h1 h2
    · walk_at "y"
      rw [restr_new hp rfl, restr_id]
      exact q h1 h2

theorem worths_ok {s : Sto} {b : Addr} {n : Nat} {k : Str} {Q : QJ} {R : XJ} (hk : k = "number" ∨ k = "word") (hb : BagJ s b n) (hn : n ≤ 1000000) (q : ∀ x y s', WV k x → WV k y → Chg b s s' → BagJ s' b (n + 20) → Q (.lst [x, y]) s') : w_lworths [.own b, .str k] s Q R := by
  refine w_of ?_
  unfold q_lworths
  walk_at "y"
  refine y_rngJ (by decide) ?_
  refine lc_inv (fun i acc s' => Chg b s s' ∧ BagJ s' b (n + 10 * i) ∧ acc.length = i ∧ ∀ x ∈ acc, WV k x) ⟨hb.chg, hb, rfl, fun _ h => (nomatch h)⟩ (by decide) (fun _ _ _ _ _ => trivial) ?_ ?_
  · rintro i x acc s' N hx ⟨c1, b1, hl, ha⟩ la hN
    have hi : i < 2 := (List.getElem?_eq_some_iff.mp hx).1
    have step : ∀ y s2, WV k y → Chg b s' s2 → BagJ s2 b (n + 10 * i + 10) → acc.length < 100000 ∧ N (acc ++ [y]) s2 := fun y s2 hy c2 b2 => ⟨la, hN _ _ (by rw [List.length_append, hl]; exact Nat.le_refl _) ⟨c1.trans c2, b2.mono (by omega), by rw [List.length_append, hl]; rfl, fun z hz => by
      rcases List.mem_append.mp hz with hz | hz
      · exact ha z hz
      · rw [List.mem_singleton.mp hz]; exact hy⟩⟩
    walk_at "y"
    rcases hk with rfl | rfl
    · refine ite_d (fun _ => ?_) (fun c => absurd rfl c)
      walk_at "y"
      refine number_drawK b1 (by omega) fun p r s2 hw h20 h9 c2 b2 => ?_
      exact step _ _ (.num hw.1 h20 h9) c2 (b2.mono (by omega))
    · refine ite_d (fun c => absurd c (by decide +kernel)) (fun _ => ?_)
      walk_at "y"
      refine word_draw b1 (by omega) fun z s2 hz c2 b2 => ?_
      exact step _ _ (.word hz) c2 (b2.mono (by omega))
  · rintro acc s' _ ⟨c1, b1, hl, ha⟩
    have hl : acc.length = 2 := hl
    match acc, hl with
    | [x, y], _ =>
      rw [restr_chg hb c1]
      exact q x y s' (ha x (by simp)) (ha y (by simp)) c1 (b1.mono (by show n + 10 * 2 ≤ _; omega))
def oddA : List J := [.bl true, .bl false, .lst [], .tup [], .tup [.bl true, .int 2], .tup [.int 2, .int 4], .tup [.int 3, .int 1], .tup [.int 1, .int (-2)], .str "", .str "Red", .str "a b", .str "abcdefghi", .str "a1", .lst [.int 3], .tup [.str "red"], .dct []]
def oddN : List J := [.str "red", .str "x", .str "3"]
def oddW : List J := [.int 3, .int 0, .tup [.int 1, .int 2], .int (-7)]
/-- no value of a kind -/
structure Odd (k : Str) (d : J) : Prop where
  no : mayStand d k = false
  ty : ∀ s, TyD s d
theorem odd_all {k : Str} {l : List J} (h : (l.all fun d => !mayStand d k) = true) (hd : ∀ d ∈ l, ∀ s, TyD s d) : ∀ d ∈ l, Odd k d := fun d hm => ⟨by
  have := List.all_eq_true.mp h d hm
  simpa using this, hd d hm⟩
theorem tyX_l {s : Sto} {l : List J} : TyD s (.lst l) := ⟨⟨_, rfl⟩, (fun z e => by cases e), (fun x y e => by cases e)⟩
theorem tyX_b {s : Sto} {b : Bool} : TyD s (.bl b) := ⟨⟨_, rfl⟩, (fun z e => by cases e), (fun x y e => by cases e)⟩
theorem tyX_i {s : Sto} {i : Int} : TyD s (.int i) := ⟨⟨_, rfl⟩, (fun z e => by cases e), (fun x y e => by cases e)⟩
theorem tyX_d {s : Sto} {l : List (Key × J)} : TyD s (.dct l) := ⟨⟨_, rfl⟩, (fun z e => by cases e), (fun x y e => by cases e)⟩
theorem tyX_s {s : Sto} {w : Str} (h : w.length ≤ 100000) : TyD s (.str w) := ⟨⟨_, rfl⟩, (fun z e => by cases e; exact h), (fun x y e => by cases e)⟩
theorem tyX_t {s : Sto} {l : List J} (h : ∀ x ∈ l, ∃ t, tyJ s x = some t) : TyD s (.tup l) := ⟨⟨_, rfl⟩, (fun z e => by cases e), (fun x y e => by cases e; exact ⟨h x (by simp), h y (by simp)⟩)⟩
theorem odd_tys : ∀ d ∈ oddA ++ (oddN ++ oddW), ∀ s, TyD s d := by
  intro d hd s
  unfold oddA oddN oddW at hd
  simp only [List.cons_append, List.nil_append, List.mem_cons, List.not_mem_nil, or_false] at hd
  rcases hd with rfl | rfl | rfl | rfl | rfl | rfl | rfl | rfl | rfl | rfl | rfl | rfl | rfl | rfl | rfl | rfl | rfl | rfl | rfl | rfl | rfl | rfl | rfl
  all_goals first
    | exact tyX_b
    | exact tyX_l
    | exact tyX_i
    | exact tyX_d
    | exact tyX_s (by decide +kernel)
    | (refine tyX_t fun x hx => ?_; simp only [List.not_mem_nil] at hx; done)
    | (refine tyX_t fun x hx => ?_; simp only [List.mem_cons, List.not_mem_nil, or_false] at hx; subst hx; exact ⟨_, rfl⟩)
    | (refine tyX_t fun x hx => ?_; simp only [List.mem_cons, List.not_mem_nil, or_false] at hx; rcases hx with rfl | rfl <;> exact ⟨_, rfl⟩)
theorem odd_of {k : Str} (hk : k = "number" ∨ k = "word") : ∀ d ∈ oddA ++ (if k = "number" then oddN else oddW), Odd k d := by
  rcases hk with rfl | rfl
  · rw [if_pos rfl]
    exact odd_all (by decide +kernel) fun d hd => odd_tys d (by
      rcases List.mem_append.mp hd with h | h
      · exact List.mem_append_left _ h
      · exact List.mem_append_right _ (List.mem_append_left _ h))
  · rw [if_neg (by decide +kernel)]
    exact odd_all (by decide +kernel) fun d hd => odd_tys d (by
      rcases List.mem_append.mp hd with h | h
      · exact List.mem_append_left _ h
      · exact List.mem_append_right _ (List.mem_append_right _ h))
theorem wrong_ok {s : Sto} {b : Addr} {n : Nat} {k : Str} {Q : QJ} {R : XJ} (hk : k = "number" ∨ k = "word") (hb : BagJ s b n) (hn : n ≤ 1000000) (q : ∀ d s', Odd k d → Chg b s s' → BagJ s' b (n + 1) → Q d s') : w_lwrong [.own b, .str k] s Q R := by
  have all := odd_of hk
  refine w_of ?_
  unfold q_lwrong
  walk_at "y"
  rcases hk with rfl | rfl
  · refine ite_d (fun _ => ?_) (fun c => absurd rfl c)
    walk_at "y"
    refine y_add_l (by decide) ?_
    walk_at "y"
    refine of_lst (l := oddA ++ oddN) hb (by omega) (by decide) (by decide) fun i x s' hx c1 b1 => ?_
    rw [restr_chg hb c1]
    exact q x s' (all x (by rw [if_pos rfl]; exact List.mem_of_getElem? hx)) c1 b1
  · refine ite_d (fun c => absurd c (by decide +kernel)) (fun _ => ?_)
    walk_at "y"
    refine y_add_l (by decide) ?_
    walk_at "y"
    refine of_lst (l := oddA ++ oddW) hb (by omega) (by decide) (by decide) fun i x s' hx c1 b1 => ?_
    rw [restr_chg hb c1]
    exact q x s' (all x (by rw [if_neg (by decide +kernel)]; exact List.mem_of_getElem? hx)) c1 b1

theorem ty_r3 {s : Sto} {x : J} {kvs : List (Key × J)} (h : res s x = .dct kvs) : tyJ s x = some "dict" := by unfold tyJ; rw [h]
theorem y_len_r3 {s : Sto} {x : J} {kvs : List (Key × J)} {Q : QJ} (h : res s x = .dct kvs) (q : Q (.int kvs.length) s) : lenJ [x] s Q := by
  cases x with
  | dct l => cases h; exact q
  | own a =>
    unfold res at h
    dsimp only at h
    split at h
    · cases h
    · next l e => cases h; exact y_len_od e q
    · cases h
    · cases h
  | _ => cases h
theorem y_in_r3 {s : Sto} {Q : QJ} {x y : J} {l : List (Key × J)} {k : Key} (e : res s y = .dct l) (h : keyOf x = some k) (q : Q (.bl (valJ l k).isSome) s) : inRJ x y s Q := by
  unfold inRJ M.inR
  rw [e]
  cases x <;> exact ⟨k, h, q⟩
/-- is_filling of a dict, own or not -/
theorem filling_res {s : Sto} {a b c : Str} {x : J} {kvs : List (Key × J)} {Q : QJ} {R : XJ} (hx : res s x = .dct kvs) (hw : ∀ k v, valJ kvs k = some v → TyD s v) (q : Q (.bl (fillsJ (f3 a b c) kvs)) s) : w_Layout_is_filling [layJ (f3 a b c), x] s Q R := by
  have hn := f3_nd a b c
  refine w_of ?_
  unfold q_Layout_is_filling
  walk_at "y"
  refine y_isi (t := "dict") (ty_r3 hx) ?_
  unfold layJ
  walk_at "y"
  refine y_len_r3 hx ?_
  walk_at "y"
  unfold fillsJ at q
  refine ite_nd (fun c' => ?_) (fun c' => ?_)
  · have c2 : kvs.length = (f3 a b c).length := by
      rw [List.length_map] at c'
      omega
    rw [decide_eq_true c2, Bool.true_and] at q
    walk_at "y"
    refine lc_map (fun x => match x with | .str n => .bl (match valJ kvs (.inr n), valJ (kindsJ (f3 a b c)) (.inr n) with | some v, some (.str k) => mayStand v k | _, _ => false) | _ => .non) (by show ((f3 a b c).map _).length ≤ _; rw [List.length_map]; show 3 ≤ _; decide) trivial ?_ ?_
    · intro x hx' Y hy
      obtain ⟨f, hf, rfl⟩ := List.mem_map.mp hx'
      have ek := valJ_kind hn (n := f.1) (k := f.2) hf
      dsimp only at hy
      rw [ek] at hy
      walk_at "y"
      refine y_in_r3 hx (k := .inr f.1) rfl ?_
      cases e : valJ kvs (.inr f.1) with
      | none =>
        rw [e] at hy
        walk_at "y"
        exact hy
      | some v =>
        rw [e] at hy
        walk_at "y"
        refine y_ix_res hx (k := .inr f.1) rfl e ?_
        walk_at "y"
        refine y_ix_d (k := .inr f.1) rfl ek ?_
        walk_at "y"
        exact may_stand_ok (hw _ _ e) hy
    · walk_at "y"
      have e3 : ((f3 a b c).map fun f => J.str f.1).map (fun x => match x with | .str n => J.bl (match valJ kvs (.inr n), valJ (kindsJ (f3 a b c)) (.inr n) with | some v, some (.str k) => mayStand v k | _, _ => false) | _ => .non) =
        ((f3 a b c).map fun f => match valJ kvs (.inr f.1) with | some v => mayStand v f.2 | none => false).map J.bl := by
        rw [List.map_map, List.map_map]
        refine List.map_congr_left fun f hf => ?_
        have ek := valJ_kind hn (n := f.1) (k := f.2) hf
        show J.bl _ = J.bl _
        dsimp only
        rw [ek]
        cases valJ kvs (.inr f.1) <;> rfl
      rw [e3]
      refine y_all ?_
      rw [restr_id, List.all_map]
      exact q
  · have c2 : ¬ kvs.length = (f3 a b c).length := by
      rw [List.length_map] at c'
      omega
    rw [decide_eq_false c2, Bool.false_and] at q
    walk_at "y"
    rw [restr_id]
    exact q
theorem fills_d3 {a b c : Str} {x y z : J} (hx : mayStand x a = true) (hy : mayStand y b = true) (hz : mayStand z c = true) : fillsJ (f3 a b c) (d3 x y z) = true := by
  show (mayStand x a && (mayStand y b && (mayStand z c && true))) = true
  rw [hx, hy, hz]
  rfl
/-- the filling turned -/
def t3 (x y z : J) : List (Key × J) := [(.inr "kc", z), (.inr "kb", y), (.inr "ka", x)]
theorem fills_t3 {a b c : Str} {x y z : J} (hx : mayStand x a = true) (hy : mayStand y b = true) (hz : mayStand z c = true) : fillsJ (f3 a b c) (t3 x y z) = true := by
  show (mayStand x a && (mayStand y b && (mayStand z c && true))) = true
  rw [hx, hy, hz]
  rfl
theorem turned3 {s : Sto} {x y z : J} {Q : QJ} {R : XJ} (q : Q (.dct (t3 x y z)) s) : w_lturned [.dct (d3 x y z)] s Q R := by
  refine w_of ?_
  unfold q_lturned
  walk_at "y"
  refine y_listD (kvs := d3 x y z) rfl ?_
  rw [show ((d3 x y z).map fun kv => kJ kv.1) = [J.str "ka", .str "kb", .str "kc"] from rfl]
  walk_at "y"
  refine lc_map (fun k => .tup [k, (match k with | .str n => (valJ (d3 x y z) (.inr n)).getD .non | _ => .non)]) (by decide) trivial ?_ ?_
  · intro k hk Y hy
    have hk : k ∈ [J.str "kc", .str "kb", .str "ka"] := hk
    simp only [List.mem_cons, List.not_mem_nil, or_false] at hk
    rcases hk with rfl | rfl | rfl
    · walk_at "y"
      refine y_ix_d (k := .inr "kc") (d := z) rfl rfl ?_
      walk_at "y"
      exact hy
    · walk_at "y"
      refine y_ix_d (k := .inr "kb") (d := y) rfl rfl ?_
      walk_at "y"
      exact hy
    · walk_at "y"
      refine y_ix_d (k := .inr "ka") (d := x) rfl rfl ?_
      walk_at "y"
      exact hy
  walk_at "y"
  refine y_dict_l (kvs := t3 x y z) rfl ?_
  rw [show mergeJ [] (t3 x y z) = t3 x y z from rfl, restr_id]
  exact q
/-- the values of a dict -/
def AllV (s : Sto) (l : List (Key × J)) : Prop := ∀ p ∈ l, TyD s p.2
theorem AllV.val {s : Sto} {l : List (Key × J)} (h : AllV s l) : ∀ k v, valJ l k = some v → TyD s v := fun k v e => by
  obtain ⟨p, hp, rfl⟩ := valJ_in e
  exact h p hp
theorem AllV.put {s : Sto} {l : List (Key × J)} {k : Key} {v : J} (h : AllV s l) (hv : TyD s v) : AllV s (putK' l k v) := fun p hp => by
  unfold putK' at hp
  split at hp
  · obtain ⟨r, hr, rfl⟩ := List.mem_map.mp hp
    by_cases c : r.1 = k
    · rw [if_pos c]; exact hv
    · rw [if_neg c]; exact h r hr
  · rcases List.mem_append.mp hp with hp | hp
    · exact h p hp
    · rw [List.mem_singleton.mp hp]; exact hv
theorem AllV.drop {s : Sto} {l : List (Key × J)} {k : Key} (h : AllV s l) : AllV s (dropJ l k) := fun p hp => h p (List.mem_filter.mp hp).1

theorem y_dictO3 {s : Sto} {Q : QJ} {d : J} {kvs : List (Key × J)} (e : res s d = .dct kvs) (q : ∀ p, s p = none → Q (.own p) (put s p (.dct kvs))) : jDictO [d] s Q := ⟨d, rfl, .inr ⟨kvs, e, q⟩⟩
def nmL : List J := [.str "ka", .str "kb", .str "kc"]
/-- a drawn name and what hangs on it -/
structure Pick (a b c : Str) (x y z : J) (w k : Str) (v : J) (j : Nat) : Prop where
  idx : (nmL.map fun u => eqJ u (.str w)).idxOf true = j
  mem : true ∈ (nmL.map fun u => eqJ u (.str w))
  ok : (J.str w).ok = true
  at_ : [J.str a, .str b, .str c][j]? = some (.str k)
  kd : k = "number" ∨ k = "word"
  val : valJ (d3 x y z) (.inr w) = some v
  wv : WV k v
  e1 : ∀ u, mayStand u k = false → fillsJ (f3 a b c) (putK' (d3 x y z) (.inr w) u) = false
  e3 : ∀ u, fillsJ (f3 a b c) (putK' (dropJ (d3 x y z) (.inr w)) (.inr "kd") u) = false
  vk : ∀ u, valJ (putK' (dropJ (d3 x y z) (.inr w)) (.inr "kd") u) (.inr "kd") = some u
  l3 : (dropJ (d3 x y z) (.inr w)).length < 100000
  e4 : ∀ u, fillsJ (f3 a b c) (dropJ (putK' (dropJ (d3 x y z) (.inr w)) (.inr "kd") u) (.inr "kd")) = false
  e5 : fillsJ (f3 a b c) (putK' (d3 x y z) (.inr w) .non) = true
theorem pick_of {a b c : Str} {x y z : J} (ha : a = "number" ∨ a = "word") (hb : b = "number" ∨ b = "word") (hc : c = "number" ∨ c = "word") (hx : WV a x) (hy : WV b y) (hz : WV c z) {i : Nat} {nm : J} (h : nmL[i]? = some nm) :
    ∃ w k v j, nm = .str w ∧ Pick a b c x y z w k v j := by
  have n0 : ∀ k, mayStand .non k = true := fun _ => rfl
  match i, h with
  | 0, h =>
    cases h
    refine ⟨"ka", a, x, 0, rfl, by decide +kernel, by decide +kernel, by decide +kernel, rfl, ha, rfl, hx, fun u hu => ?_, fun u => rfl, fun u => rfl, by show 2 < 100000; decide, fun u => rfl, ?_⟩
    · show (mayStand u a && (mayStand y b && (mayStand z c && true))) = false
      rw [hu]
      rfl
    · exact fills_d3 (n0 _) hy.stand hz.stand
  | 1, h =>
    cases h
    refine ⟨"kb", b, y, 1, rfl, by decide +kernel, by decide +kernel, by decide +kernel, rfl, hb, rfl, hy, fun u hu => ?_, fun u => ?_, fun u => rfl, by show 2 < 100000; decide, fun u => rfl, ?_⟩
    · show (mayStand x a && (mayStand u b && (mayStand z c && true))) = false
      rw [hu, hx.stand]
      rfl
    · show (mayStand x a && (false && (mayStand z c && true))) = false
      rw [hx.stand]
      rfl
    · exact fills_d3 hx.stand (n0 _) hz.stand
  | 2, h =>
    cases h
    refine ⟨"kc", c, z, 2, rfl, by decide +kernel, by decide +kernel, by decide +kernel, rfl, hc, rfl, hz, fun u hu => ?_, fun u => ?_, fun u => rfl, by show 2 < 100000; decide, fun u => rfl, ?_⟩
    · show (mayStand x a && (mayStand y b && (mayStand u c && true))) = false
      rw [hu, hx.stand, hy.stand]
      rfl
    · show (mayStand x a && (mayStand y b && (false && true))) = false
      rw [hx.stand, hy.stand]
      rfl
    · exact fills_d3 hx.stand hy.stand (n0 _)
  | _ + 3, h => cases h
/-- a thing that is no filling -/
def NotF (a b c : Str) (s : Sto) (d : J) : Prop := ∀ (Q : QJ) (R : XJ), Q (.bl false) s → w_Layout_is_filling [layJ (f3 a b c), d] s Q R
theorem notF_res {s : Sto} {a b c : Str} {d : J} {kvs : List (Key × J)} (h : res s d = .dct kvs) (av : AllV s kvs) (e : fillsJ (f3 a b c) kvs = false) : NotF a b c s d := fun Q R q => filling_res h av.val (by rw [e]; exact q)
theorem notF_ty {s : Sto} {a b c : Str} {d : J} {t : String} (h : tyJ s d = some t) (n : t ≠ "dict") (e : isFilling (f3 a b c) d = false) : NotF a b c s d := fun Q R q =>
  is_filling_ok (f3_nd a b c) (by show 3 ≤ 5; decide) ⟨⟨t, h⟩, fun z => by rw [h] at z; exact absurd (Option.some.inj z) n⟩ (by rw [e]; exact q)
theorem takes_ok {s : Sto} {bg : Addr} {n : Nat} {a b c : Str} {x y z : J} {Q : QJ} {R : XJ} (hb : BagJ s bg n) (hn : n ≤ 100000) (ka : a = "number" ∨ a = "word") (kb : b = "number" ∨ b = "word") (kc : c = "number" ∨ c = "word") (hx : WV a x) (hy : WV b y) (hz : WV c z)
    (q : ∀ s', Q (.bl true) s') : w_ltakes [.own bg, layJ (f3 a b c), .lst [.str a, .str b, .str c], .dct (d3 x y z)] s Q R := by
  have av : ∀ s, AllV s (d3 x y z) := fun s p hp => by
    unfold d3 at hp
    simp only [List.mem_cons, List.not_mem_nil, or_false] at hp
    rcases hp with rfl | rfl | rfl
    · exact hx.ty
    · exact hy.ty
    · exact hz.ty
  have at3 : ∀ s, AllV s (t3 x y z) := fun s p hp => by
    unfold t3 at hp
    simp only [List.mem_cons, List.not_mem_nil, or_false] at hp
    rcases hp with rfl | rfl | rfl
    · exact hz.ty
    · exact hy.ty
    · exact hx.ty
  obtain ⟨ds, sw⟩ := shwD3 hx.sh hy.sh hz.sh
  refine w_of ?_
  unfold q_ltakes
  walk_at "y"
  refine y_objX ?_
  walk_at "y"
  refine filling_res (kvs := d3 x y z) rfl (av s).val ?_
  rw [fills_d3 hx.stand hy.stand hz.stand]
  walk_at "y"
  refine y_objX ?_
  walk_at "y"
  refine turned3 ?_
  refine filling_res (kvs := t3 x y z) rfl (at3 s).val ?_
  rw [fills_t3 hx.stand hy.stand hz.stand]
  walk_at "y"
  refine of_lst (l := nmL) hb (by omega) (by decide) (by decide) fun i nm s1 hnm c1 b1 => ?_
  obtain ⟨w, k, v, j, rfl, P⟩ := pick_of ka kb kc hx hy hz hnm
  walk_at "y"
  refine y_dictO3 rfl fun p5 hp5 => ?_
  walk_at "y"
  refine y_dictO3 rfl fun p6 hp6 => ?_
  walk_at "y"
  refine y_dictO3 rfl fun p7 hp7 => ?_
  walk_at "y"
  refine ⟨.inr ⟨rfl, nmL, rfl⟩, ?_⟩
  walk_at "y"
  refine ⟨_, nmL, rfl, rfl, by decide +kernel, P.ok, P.mem, ?_⟩
  rw [show (nmL.map fun u => eqJ u (res _ (.str w))).idxOf true = j from P.idx]
  refine y_ix_l (atI_nat P.at_) ?_
  walk_at "y"
  obtain ⟨n65, hp6⟩ := put_none hp6
  obtain ⟨n76, hp7⟩ := put_none hp7
  obtain ⟨n75, hp7⟩ := put_none hp7
  have nb5 := b1.ne hp5
  have nb6 := b1.ne hp6
  have nb7 := b1.ne hp7
  have g5 : (put (put (put s1 p5 (.dct (d3 x y z))) p6 (.dct (d3 x y z))) p7 (.dct (d3 x y z))) p5 = some (.dct (d3 x y z)) := by rw [put_ne (Ne.symm n75), put_ne (Ne.symm n65), put_same]
  have g6 : (put (put (put s1 p5 (.dct (d3 x y z))) p6 (.dct (d3 x y z))) p7 (.dct (d3 x y z))) p6 = some (.dct (d3 x y z)) := by rw [put_ne (Ne.symm n76), put_same]
  have g7 : (put (put (put s1 p5 (.dct (d3 x y z))) p6 (.dct (d3 x y z))) p7 (.dct (d3 x y z))) p7 = some (.dct (d3 x y z)) := put_same
  have b2 := ((b1.put (o := .dct (d3 x y z)) nb5).put (o := .dct (d3 x y z)) nb6).put (o := .dct (d3 x y z)) nb7
  generalize put (put (put s1 p5 (.dct (d3 x y z))) p6 (.dct (d3 x y z))) p7 (.dct (d3 x y z)) = s2 at g5 g6 g7 b2 ⊢
  refine wrong_ok P.kd b2 (by omega) fun d s3 od c3 b3 => ?_
  walk_at "y"
  have h5 : s3 p5 = some (.dct (d3 x y z)) := by rw [c3.at nb5]; exact g5
  have h6 : s3 p6 = some (.dct (d3 x y z)) := by rw [c3.at nb6]; exact g6
  have h7 : s3 p7 = some (.dct (d3 x y z)) := by rw [c3.at nb7]; exact g7
  refine y_set_d h5 (k := .inr w) rfl (by show 3 < 100000; decide) ?_
  have i5 : (put s3 p5 (.dct (putK' (d3 x y z) (.inr w) d))) p5 = some (.dct (putK' (d3 x y z) (.inr w) d)) := put_same
  have i6 : (put s3 p5 (.dct (putK' (d3 x y z) (.inr w) d))) p6 = some (.dct (d3 x y z)) := by rw [put_ne n65]; exact h6
  have i7 : (put s3 p5 (.dct (putK' (d3 x y z) (.inr w) d))) p7 = some (.dct (d3 x y z)) := by rw [put_ne n75]; exact h7
  have b4 := b3.put (o := .dct (putK' (d3 x y z) (.inr w) d)) nb5
  generalize put s3 p5 (.dct (putK' (d3 x y z) (.inr w) d)) = s4 at i5 i6 i7 b4 ⊢
  walk_at "y"
  refine y_set_d i6 (k := .inr "kd") rfl (by show 3 < 100000; decide) ?_
  have j5 : (put s4 p6 (.dct (putK' (d3 x y z) (.inr "kd") .non))) p5 = some (.dct (putK' (d3 x y z) (.inr w) d)) := by rw [put_ne (Ne.symm n65)]; exact i5
  have j6 : (put s4 p6 (.dct (putK' (d3 x y z) (.inr "kd") .non))) p6 = some (.dct (putK' (d3 x y z) (.inr "kd") .non)) := put_same
  have j7 : (put s4 p6 (.dct (putK' (d3 x y z) (.inr "kd") .non))) p7 = some (.dct (d3 x y z)) := by rw [put_ne n76]; exact i7
  have b5 := b4.put (o := .dct (putK' (d3 x y z) (.inr "kd") .non)) nb6
  generalize put s4 p6 (.dct (putK' (d3 x y z) (.inr "kd") .non)) = s5 at j5 j6 j7 b5 ⊢
  walk_at "y"
  refine ⟨⟨d3 x y z, res_od j7⟩, ?_⟩
  walk_at "y"
  refine y_popD (y := .str w) (k := .inr w) j7 rfl P.val ?_
  have k5 : (put s5 p7 (.dct (dropJ (d3 x y z) (.inr w)))) p5 = some (.dct (putK' (d3 x y z) (.inr w) d)) := by rw [put_ne (Ne.symm n75)]; exact j5
  have k6 : (put s5 p7 (.dct (dropJ (d3 x y z) (.inr w)))) p6 = some (.dct (putK' (d3 x y z) (.inr "kd") .non)) := by rw [put_ne (Ne.symm n76)]; exact j6
  have k7 : (put s5 p7 (.dct (dropJ (d3 x y z) (.inr w)))) p7 = some (.dct (dropJ (d3 x y z) (.inr w))) := put_same
  have b6 := b5.put (o := .dct (dropJ (d3 x y z) (.inr w))) nb7
  generalize put s5 p7 (.dct (dropJ (d3 x y z) (.inr w))) = s6 at k5 k6 k7 b6 ⊢
  walk_at "y"
  refine y_ix_d (k := .inr w) rfl P.val ?_
  walk_at "y"
  refine of_lst (l := [.non, v]) b6 (by omega) (by show 0 < 2; decide) (by show 2 ≤ 1000; decide) fun i2 u s7 hu c7 b7 => ?_
  have tu : ∀ s, TyD s u := fun s => by
    have := List.mem_of_getElem? hu
    simp only [List.mem_cons, List.not_mem_nil, or_false] at this
    rcases this with rfl | rfl
    · exact non_ty
    · exact P.wv.ty
  have l5 : s7 p5 = some (.dct (putK' (d3 x y z) (.inr w) d)) := by rw [c7.at nb5]; exact k5
  have l6 : s7 p6 = some (.dct (putK' (d3 x y z) (.inr "kd") .non)) := by rw [c7.at nb6]; exact k6
  have l7 : s7 p7 = some (.dct (dropJ (d3 x y z) (.inr w))) := by rw [c7.at nb7]; exact k7
  walk_at "y"
  refine y_set_d l7 (k := .inr "kd") rfl P.l3 ?_
  have m5 : (put s7 p7 (.dct (putK' (dropJ (d3 x y z) (.inr w)) (.inr "kd") u))) p5 = some (.dct (putK' (d3 x y z) (.inr w) d)) := by rw [put_ne (Ne.symm n75)]; exact l5
  have m6 : (put s7 p7 (.dct (putK' (dropJ (d3 x y z) (.inr w)) (.inr "kd") u))) p6 = some (.dct (putK' (d3 x y z) (.inr "kd") .non)) := by rw [put_ne (Ne.symm n76)]; exact l6
  have m7 : (put s7 p7 (.dct (putK' (dropJ (d3 x y z) (.inr w)) (.inr "kd") u))) p7 = some (.dct (putK' (dropJ (d3 x y z) (.inr w)) (.inr "kd") u)) := put_same
  generalize put s7 p7 (.dct (putK' (dropJ (d3 x y z) (.inr w)) (.inr "kd") u)) = s8 at m5 m6 m7 ⊢
  walk_at "y"
  refine y_dictO3 (res_od m7) fun p8 hp8 => ?_
  walk_at "y"
  refine ⟨⟨_, res_od put_same⟩, ?_⟩
  walk_at "y"
  refine y_popD (y := .str "kd") (k := .inr "kd") put_same rfl (P.vk u) ?_
  rw [put_put]
  have ne8 : ∀ {q : Addr} {o : O}, s8 q = some o → q ≠ p8 := fun h e => by rw [e, hp8] at h; cases h
  have o5 : (put s8 p8 (.dct (dropJ (putK' (dropJ (d3 x y z) (.inr w)) (.inr "kd") u) (.inr "kd")))) p5 = some (.dct (putK' (d3 x y z) (.inr w) d)) := by rw [put_ne (ne8 m5)]; exact m5
  have o6 : (put s8 p8 (.dct (dropJ (putK' (dropJ (d3 x y z) (.inr w)) (.inr "kd") u) (.inr "kd")))) p6 = some (.dct (putK' (d3 x y z) (.inr "kd") .non)) := by rw [put_ne (ne8 m6)]; exact m6
  have o7 : (put s8 p8 (.dct (dropJ (putK' (dropJ (d3 x y z) (.inr w)) (.inr "kd") u) (.inr "kd")))) p7 = some (.dct (putK' (dropJ (d3 x y z) (.inr w)) (.inr "kd") u)) := by rw [put_ne (ne8 m7)]; exact m7
  have o8 : (put s8 p8 (.dct (dropJ (putK' (dropJ (d3 x y z) (.inr w)) (.inr "kd") u) (.inr "kd")))) p8 = some (.dct (dropJ (putK' (dropJ (d3 x y z) (.inr w)) (.inr "kd") u) (.inr "kd"))) := put_same
  generalize put s8 p8 (.dct (dropJ (putK' (dropJ (d3 x y z) (.inr w)) (.inr "kd") u) (.inr "kd"))) = s9 at o5 o6 o7 o8 ⊢
  walk_at "y"
  refine y_listD (kvs := d3 x y z) rfl ?_
  walk_at "y"
  refine y_tupD (kvs := d3 x y z) rfl ?_
  walk_at "y"
  refine y_showD (l := d3 x y z) rfl sw ?_
  walk_at "y"
  refine for_inv (fun i ρ s' => s' = s9 ∧ ∃ x9, ρ = [some (.own bg), some (layJ (f3 a b c)), some (.lst [.str a, .str b, .str c]), some (.dct (d3 x y z)), some (.str w), some (.own p5), some (.own p6), some (.own p7), some (.own p8), x9, none]) ⟨rfl, none, rfl⟩ (fun _ _ _ _ _ => trivial) ?_ ?_
  · rintro i3 t ρ s' N ht ⟨rfl, x9, rfl⟩ hN
    have nf : NotF a b c s' t := by
      have := List.mem_of_getElem? ht
      simp only [List.mem_cons, List.not_mem_nil, or_false] at this
      rcases this with rfl | rfl | rfl | rfl | rfl | rfl | rfl | rfl | rfl | rfl
      · exact notF_res (res_od o5) ((av _).put (od.ty _)) (P.e1 d od.no)
      · exact notF_res (res_od o6) ((av _).put non_ty) rfl
      · exact notF_res (res_od o7) (((av _).drop).put (tu _)) (P.e3 u)
      · exact notF_res (res_od o8) ((((av _).drop).put (tu _)).drop) (P.e4 u)
      · exact notF_res (kvs := []) rfl (by intro p hp; cases hp) rfl
      · exact notF_ty (t := "NoneType") rfl (by decide) rfl
      · exact notF_ty (t := "bool") rfl (by decide) rfl
      · exact notF_ty (t := "list") rfl (by decide) rfl
      · exact notF_ty (t := "tuple") rfl (by decide) rfl
      · exact notF_ty (t := "str") rfl (by decide) rfl
    walk_at "y"
    refine y_objX ?_
    walk_at "y"
    refine nf _ _ ?_
    walk_at "y"
    exact hN _ _ ⟨rfl, _, rfl⟩
  · rintro ρ s' ⟨rfl, x9, rfl⟩
    walk_at "y"
    refine y_dictO3 rfl fun p10 hp10 => ?_
    walk_at "y"
    refine y_set_d put_same (k := .inr w) rfl (by show 3 < 100000; decide) ?_
    rw [put_put]
    walk_at "y"
    refine y_objX ?_
    walk_at "y"
    refine filling_res (res_od put_same) ((av _).put non_ty).val ?_
    rw [P.e5]
    walk_at "y"
    exact q _

theorem WV.ne {k : Str} {x : J} {s : Sto} {Q : QJ} (h : WV k x) (q : Q (.bl false) s) : neRJ x x s Q := by
  have e := h.eqS
  have o := h.ok
  cases h with
  | @word w h =>
    unfold neRJ eqR
    show Q (.bl (!decide (w = w))) s
    rw [decide_eq_true rfl]
    exact q
  | @num p r h h1 h2 =>
    unfold pj at e o ⊢
    by_cases c : r = 1
    · rw [if_pos c]
      unfold neRJ eqR
      show Q (.bl (!decide (p = p))) s
      rw [decide_eq_true rfl]
      exact q
    · rw [if_neg c] at e o ⊢
      refine y_ne_t o o ?_
      rw [e]
      exact q
section
variable {s : Sto} {a b c : Str} {x y : J} {i : Nat} {Q : QJ} {R : XJ}
theorem said_val {f : Str × Str} (hi : i < 6) (hx : TyD s x) (hy : TyD s y) (hs : strangeN (wayK i) = none) (hw : wrongN a b c (wayL x y i) = some f) (q : Q (.tup [.str "value", .str f.1, .bl true]) s) : w_lsaid [layJ (f3 a b c), .int (i : Int), x, y] s Q R :=
  said_ok (a := a) (b := b) (c := c) hi hx hy (fun z e => by rw [hs] at e; cases e) (fun g _ e => by rw [hw] at e; cases e; exact q) fun _ e => by rw [hw] at e; cases e
theorem said_fld {z : Str} (hi : i < 6) (hx : TyD s x) (hy : TyD s y) (hs : strangeN (wayK i) = some z) (q : Q (.tup [.str "field", .str z, .bl true]) s) : w_lsaid [layJ (f3 a b c), .int (i : Int), x, y] s Q R :=
  said_ok (a := a) (b := b) (c := c) hi hx hy (fun w e => by rw [hs] at e; cases e; exact q) (fun g e _ => by rw [hs] at e; cases e) fun e _ => by rw [hs] at e; cases e
theorem said_non (hi : i < 6) (hx : TyD s x) (hy : TyD s y) (hs : strangeN (wayK i) = none) (hw : wrongN a b c (wayL x y i) = none) (q : Q .non s) : w_lsaid [layJ (f3 a b c), .int (i : Int), x, y] s Q R :=
  said_ok (a := a) (b := b) (c := c) hi hx hy (fun w e => by rw [hs] at e; cases e) (fun g _ e => by rw [hw] at e; cases e) fun _ _ => q
end
theorem wrong_kb {a b c : Str} {l : List (Key × J)} {x : J} (h1 : valJ l (.inr "ka") = none) (h2 : valJ l (.inr "kb") = some x) (h : mayStand x b = false) : wrongN a b c l = some (("kb" : Str), b) := by
  unfold wrongN f3
  rw [List.find?_cons_of_neg (by unfold badF; dsimp only; rw [h1]; exact Bool.false_ne_true), List.find?_cons_of_pos (by unfold badF; dsimp only; rw [h2]; dsimp only; rw [h]; rfl)]
theorem wrong_kc {a b c : Str} {l : List (Key × J)} {x y : J} (h1 : valJ l (.inr "ka") = none) (h2 : valJ l (.inr "kb") = some x) (h : mayStand x b = true) (h3 : valJ l (.inr "kc") = some y) (g : mayStand y c = false) : wrongN a b c l = some (("kc" : Str), c) := by
  unfold wrongN f3
  rw [List.find?_cons_of_neg (by unfold badF; dsimp only; rw [h1]; exact Bool.false_ne_true), List.find?_cons_of_neg (by unfold badF; dsimp only; rw [h2]; dsimp only; rw [h]; decide), List.find?_cons_of_pos (by unfold badF; dsimp only; rw [h3]; dsimp only; rw [g]; rfl)]
theorem lay3 {s : Sto} {a b c : Str} {Q : QJ} {R : XJ} (ha : a = "number" ∨ a = "word") (hb : b = "number" ∨ b = "word") (hc : c = "number" ∨ c = "word") (q : Q (layJ (f3 a b c)) s) :
    MkX "Layout" w_Layout__init [.lst [.tup [.str "ka", .str a], .tup [.str "kb", .str b], .tup [.str "kc", .str c]]] s Q R := by
  have e : layOf [.tup [.str "ka", .str a], .tup [.str "kb", .str b], .tup [.str "kc", .str c]] = .ok (f3 a b c) := by
    rcases ha with rfl | rfl <;> rcases hb with rfl | rfl <;> rcases hc with rfl | rfl <;> rfl
  have ts : ∀ (w : Str), w.length ≤ 100000 → TyOk s (.str w) := fun w h => ⟨⟨_, rfl⟩, fun z e => by cases e; exact h⟩
  have tk : ∀ k : Str, k = "number" ∨ k = "word" → TyOk s (.str k) := fun k h => ts k (by rcases h with rfl | rfl <;> decide +kernel)
  have fd : ∀ (n k : Str), (J.str n).ok = true → n.length ≤ 100000 → (k = "number" ∨ k = "word") → FdOk s (.tup [.str n, .str k]) := fun n k o l hk => ⟨⟨_, rfl⟩, fun x y e => by
    cases e
    exact ⟨ts n l, fun _ => by rcases hk with rfl | rfl <;> decide +kernel⟩⟩
  refine lay_make rfl (fun x hx => ?_) (fun i h => by rw [e] at h; cases h) fun fs h => by rw [e] at h; cases h; exact q
  simp only [List.mem_cons, List.not_mem_nil, or_false] at hx
  rcases hx with rfl | rfl | rfl
  · exact fd _ _ (by decide +kernel) (by decide +kernel) ha
  · exact fd _ _ (by decide +kernel) (by decide +kernel) hb
  · exact fd _ _ (by decide +kernel) (by decide +kernel) hc
section
variable {s : Sto} {bg : Addr} {n : Nat} {nx bk ct : Rho → Sto → Prop} {rt : QJ} {xr : Rho → XJ} {a b c : Str} {x0 x1 y0 y1 z0 z1 w0 w1 w2 : J} {v0 v1 v8 v9 v10 : Option J}
/-- what is drawn -/
structure Dr (a b c : Str) (x0 x1 y0 y1 z0 z1 w0 w1 w2 : J) : Prop where
  ka : a = "number" ∨ a = "word"
  kb : b = "number" ∨ b = "word"
  kc : c = "number" ∨ c = "word"
  hx0 : WV a x0
  hx1 : WV a x1
  hy0 : WV b y0
  hy1 : WV b y1
  hz0 : WV c z0
  hz1 : WV c z1
  o0 : Odd a w0
  o1 : Odd b w1
  o2 : Odd c w2
theorem lw3 {v7 : Option J} (D : Dr a b c x0 x1 y0 y1 z0 z1 w0 w1 w2) (hb : BagJ s bg n) (hn : n ≤ 100000) (q : ∀ v7 s', nx [v0, v1, some (.own bg), some (.lst [.str a, .str b, .str c]), some (layJ (f3 a b c)), some (.lst [.lst [x0, x1], .lst [y0, y1], .lst [z0, z1]]), some (.lst [w0, w1, w2]), v7, v8, v9, v10] s') :
    b3_law (EJ.mk nx rt bk ct xr) [v0, v1, some (.own bg), some (.lst [.str a, .str b, .str c]), some (layJ (f3 a b c)), some (.lst [.lst [x0, x1], .lst [y0, y1], .lst [z0, z1]]), some (.lst [w0, w1, w2]), v7, v8, v9, v10] s := by
  walk_at "y"
  refine said_fld (i := 4) (z := "ke") (by decide) (D.o0.ty s) D.hx0.ty (by decide +kernel) ?_
  walk_at "y"
  refine y_ne_t (by decide +kernel) (by decide +kernel) ?_
  rw [show eqJ (.tup [.str "field", .str "ke", .bl true]) (.tup [.str "field", .str "ke", .bl true]) = true by decide +kernel]
  walk_at "y"
  refine said_fld (i := 5) (z := "kd") (by decide) (D.o1.ty s) non_ty (by decide +kernel) ?_
  walk_at "y"
  refine y_ne_t (by decide +kernel) (by decide +kernel) ?_
  rw [show eqJ (.tup [.str "field", .str "kd", .bl true]) (.tup [.str "field", .str "kd", .bl true]) = true by decide +kernel]
  walk_at "y"
  refine said_val (i := 3) (by decide) (D.o1.ty s) non_ty (by decide +kernel) (wrong_kb rfl rfl D.o1.no) ?_
  walk_at "y"
  refine y_ne_t (l := [.str "value", .str "kb", .bl true]) (by decide +kernel) (by decide +kernel) ?_
  rw [show eqJ (.tup [.str "value", .str "kb", .bl true]) (.tup [.str "value", .str "kb", .bl true]) = true by decide +kernel]
  walk_at "y"
  refine said_non (i := 3) (by decide) non_ty non_ty (by decide +kernel) (wrong_none (f3_cases (fun v e => ?_) (fun v e => ?_) fun v e => ?_)) ?_
  · rw [show valJ _ _ = none from rfl] at e; cases e
  · rw [show valJ _ _ = some .non from rfl] at e; cases e; rfl
  · rw [show valJ _ _ = none from rfl] at e; cases e
  walk_at "y"
  refine takes_ok (x := x1) (y := y1) (z := z0) hb hn D.ka D.kb D.kc D.hx1 D.hy1 D.hz0 fun s' => ?_
  walk_at "y"
  exact q _ _
theorem lw7 {v7 : Option J} (D : Dr a b c x0 x1 y0 y1 z0 z1 w0 w1 w2) (hb : BagJ s bg n) (hn : n ≤ 100000) (q : ∀ v7 s', nx [v0, v1, some (.own bg), some (.lst [.str a, .str b, .str c]), some (layJ (f3 a b c)), some (.lst [.lst [x0, x1], .lst [y0, y1], .lst [z0, z1]]), some (.lst [w0, w1, w2]), v7, v8, v9, v10] s') :
    b7_law (EJ.mk nx rt bk ct xr) [v0, v1, some (.own bg), some (.lst [.str a, .str b, .str c]), some (layJ (f3 a b c)), some (.lst [.lst [x0, x1], .lst [y0, y1], .lst [z0, z1]]), some (.lst [w0, w1, w2]), v7, v8, v9, v10] s := by
  have fin := lw3 (nx := nx) (rt := rt) (bk := bk) (ct := ct) (xr := xr) (v0 := v0) (v1 := v1) (v7 := v7) (v8 := v8) (v9 := v9) (v10 := v10) D hb hn q
  show jSeq _ (jSeq _ (jSeq _ (jSeq _ b3_law))) _ _ _
  generalize (b3_law : SJ) = B at fin ⊢
  walk_at "y"
  refine said_val (i := 0) (by decide) (D.o1.ty s) (D.o2.ty s) (by decide +kernel) (wrong_kb rfl rfl D.o1.no) ?_
  walk_at "y"
  refine y_ne_t (l := [.str "value", .str "kb", .bl true]) (by decide +kernel) (by decide +kernel) ?_
  rw [show eqJ (.tup [.str "value", .str "kb", .bl true]) (.tup [.str "value", .str "kb", .bl true]) = true by decide +kernel]
  walk_at "y"
  refine said_val (i := 0) (by decide) D.hy1.ty (D.o2.ty s) (by decide +kernel) (wrong_kc rfl rfl D.hy1.stand rfl D.o2.no) ?_
  walk_at "y"
  refine y_ne_t (l := [.str "value", .str "kc", .bl true]) (by decide +kernel) (by decide +kernel) ?_
  rw [show eqJ (.tup [.str "value", .str "kc", .bl true]) (.tup [.str "value", .str "kc", .bl true]) = true by decide +kernel]
  walk_at "y"
  refine said_fld (i := 1) (z := "kd") (by decide) (D.o0.ty s) D.hx0.ty (by decide +kernel) ?_
  walk_at "y"
  refine y_ne_t (by decide +kernel) (by decide +kernel) ?_
  rw [show eqJ (.tup [.str "field", .str "kd", .bl true]) (.tup [.str "field", .str "kd", .bl true]) = true by decide +kernel]
  walk_at "y"
  refine said_fld (i := 2) (z := "kd") (by decide) D.hx0.ty (D.o0.ty s) (by decide +kernel) ?_
  walk_at "y"
  refine y_ne_t (by decide +kernel) (by decide +kernel) ?_
  rw [show eqJ (.tup [.str "field", .str "kd", .bl true]) (.tup [.str "field", .str "kd", .bl true]) = true by decide +kernel]
  walk_at "y"
  exact fin
theorem lw8 {v7 : Option J} (D : Dr a b c x0 x1 y0 y1 z0 z1 w0 w1 w2) (hb : BagJ s bg n) (hn : n ≤ 100000) (q : ∀ v7 s', nx [v0, v1, some (.own bg), some (.lst [.str a, .str b, .str c]), some (layJ (f3 a b c)), some (.lst [.lst [x0, x1], .lst [y0, y1], .lst [z0, z1]]), some (.lst [w0, w1, w2]), v7, v8, v9, v10] s') :
    b8_law (EJ.mk nx rt bk ct xr) [v0, v1, some (.own bg), some (.lst [.str a, .str b, .str c]), some (layJ (f3 a b c)), some (.lst [.lst [x0, x1], .lst [y0, y1], .lst [z0, z1]]), some (.lst [w0, w1, w2]), v7, v8, v9, v10] s := by
  have fin : ∀ {s1 : Sto}, BagJ s1 bg n → b7_law (EJ.mk nx rt bk ct xr) [v0, v1, some (.own bg), some (.lst [.str a, .str b, .str c]), some (layJ (f3 a b c)), some (.lst [.lst [x0, x1], .lst [y0, y1], .lst [z0, z1]]), some (.lst [w0, w1, w2]), v7, v8, v9, v10] s1 := fun h => lw7 D h hn q
  show jSeq _ b7_law _ _ _
  generalize (b7_law : SJ) = B at fin ⊢
  walk_at "y"
  refine is_new_ok D.hx0 D.hy0 ?_
  walk_at "y"
  refine y_methW ?_
  walk_at "y"
  refine y_objX ?_
  walk_at "y"
  refine ⟨rfl, ?_⟩
  refine fill_new (ks := ["kc"]) rfl (by decide) (by decide +kernel) (fun k v h => ?_) (by decide +kernel) (f3_cases (fun v e => ?_) (fun v e => ?_) fun v e => ?_) fun p hp => ?_
  · obtain ⟨r, hr, rfl⟩ := valJ_in h
    rw [List.mem_singleton.mp hr]; exact D.hz1.ty
  · rw [show valJ _ _ = none from rfl] at e; cases e
  · rw [show valJ _ _ = none from rfl] at e; cases e
  · rw [show valJ _ _ = some z1 from rfl] at e; cases e; exact D.hz1.stand
  rw [show fillOf _ = d3 .non .non z1 from rfl]
  walk_at "y"
  refine y_ix_od (k := .inr "kc") put_same rfl rfl ?_
  walk_at "y"
  refine D.hz1.ne ?_
  walk_at "y"
  exact fin (hb.put (hb.ne hp))
end

theorem law_ok {ns : List Int} (hl : ns.length ≤ 63) (_ : ∀ z ∈ ns, Builtin.Int.intBits z ≤ 1048576) : ∀ s, w_law [.scr ns] s (fun d _ => d = .bl true) No := by
  intro s
  refine w_of ?_
  unfold q_law
  have fin : ∀ {s1 : Sto} {bg : Addr} {a b c : Str} {x0 y0 z0 x1' y1 z1 w0 w1 w2 : J} {v0 v1 v7 v8 v9 v10 : Option J} {N : Rho → Sto → Prop} {rt : QJ} {bk ct : Rho → Sto → Prop} {xr : Rho → XJ}, Dr a b c x0 x1' y0 y1 z0 z1 w0 w1 w2 → BagJ s1 bg 1000 →
      (∀ v7 s', N [v0, v1, some (.own bg), some (.lst [.str a, .str b, .str c]), some (layJ (f3 a b c)), some (.lst [.lst [x0, x1'], .lst [y0, y1], .lst [z0, z1]]), some (.lst [w0, w1, w2]), v7, v8, v9, v10] s') →
      b8_law (EJ.mk N rt bk ct xr) [v0, v1, some (.own bg), some (.lst [.str a, .str b, .str c]), some (layJ (f3 a b c)), some (.lst [.lst [x0, x1'], .lst [y0, y1], .lst [z0, z1]]), some (.lst [w0, w1, w2]), v7, v8, v9, v10] s1 :=
    fun D hb q => lw8 D hb (by decide) q
  show jSeq (jFor _ _ (jSeq _ (jSeq _ (jSeq _ (jSeq _ (jSeq _ b8_law)))))) _ _ _ _
  generalize (b8_law : SJ) = B at fin ⊢
  walk_at "y"
  refine y_rngJ (by omega) ?_
  have hN : ((List.range (max 1 (min 6 (ns.length : Int))).toNat).map fun (i : Nat) => J.int ((i : Nat) : Int)).length = (max 1 (min 6 (ns.length : Int))).toNat := by simp
  refine for_inv (fun i ρ s' => ∃ x1 x2 x3 x4 x5 x6 x7 x8 x9 x10, ρ = [some (.scr ns), x1, x2, x3, x4, x5, x6, x7, x8, x9, x10]) ⟨none, none, none, none, none, none, none, none, none, none, rfl⟩ (fun _ _ _ _ _ => trivial) ?_ ?_
  · rintro i0 x ρ s' N hx ⟨x1, x2, x3, x4, x5, x6, x7, x8, x9, x10, rfl⟩ hN'
    have hi : i0 < (max 1 (min 6 (ns.length : Int))).toNat := by rw [← hN]; exact (List.getElem?_eq_some_iff.mp hx).1
    rw [List.getElem?_map, List.getElem?_range hi] at hx
    cases hx
    walk_at "y"
    refine bag_ok (by omega) (by omega) fun b o hb0 hb => ?_
    walk_at "y"
    refine y_rngJ (by decide) ?_
    refine lc_inv (fun i acc s' => BagJ s' b i ∧ acc.length = i ∧ ∀ x ∈ acc, ∃ k : Str, x = .str k ∧ (k = "number" ∨ k = "word")) ⟨hb, rfl, fun _ h => (nomatch h)⟩ (by decide) (fun _ _ _ _ _ => trivial) ?_ ?_
    · rintro i x acc s2 N2 hx ⟨b1, hl1, ha⟩ la hN2
      have hi : i < 3 := (List.getElem?_eq_some_iff.mp hx).1
      walk_at "y"
      refine of_lst (l := [.str "number", .str "word"]) b1 (by omega) (by decide) (by decide) fun k y s3 hy c3 b3 => ⟨la, hN2 _ _ (by rw [List.length_append, hl1]; exact Nat.le_refl _) ⟨b3, by rw [List.length_append, hl1]; rfl, fun z hz => ?_⟩⟩
      rcases List.mem_append.mp hz with hz | hz
      · exact ha z hz
      · rw [List.mem_singleton.mp hz]
        have := List.mem_of_getElem? hy
        simp only [List.mem_cons, List.not_mem_nil, or_false] at this
        rcases this with rfl | rfl
        · exact ⟨_, rfl, .inl rfl⟩
        · exact ⟨_, rfl, .inr rfl⟩
    rintro acc s2 _ ⟨b2, hl2, ha⟩
    have hl2 : acc.length = 3 := hl2
    match acc, hl2, ha with
    | [d1, d2, d3'], _, ha =>
    obtain ⟨ka, rfl, hka⟩ := ha d1 (by simp)
    obtain ⟨kb, rfl, hkb⟩ := ha d2 (by simp)
    obtain ⟨kc, rfl, hkc⟩ := ha d3' (by simp)
    walk_at "y"
    refine lay3 hka hkb hkc ?_
    walk_at "y"
    have kof : ∀ {i : Nat} {x : J}, [J.str ka, .str kb, .str kc][i]? = some x → ∃ k : Str, x = .str k ∧ [ka, kb, kc][i]? = some k ∧ (k = "number" ∨ k = "word") := fun {i x} h => by
      match i, h with
      | 0, h => cases h; exact ⟨_, rfl, rfl, hka⟩
      | 1, h => cases h; exact ⟨_, rfl, rfl, hkb⟩
      | 2, h => cases h; exact ⟨_, rfl, rfl, hkc⟩
      | _ + 3, h => cases h
    refine lc_inv (fun i acc s' => BagJ s' b (3 + 20 * i) ∧ acc.length = i ∧ ∀ (j : Nat) d k, acc[j]? = some d → [ka, kb, kc][j]? = some k → ∃ x y, d = .lst [x, y] ∧ WV k x ∧ WV k y) ⟨b2, rfl, fun j d k h _ => (by rw [List.getElem?_nil] at h; cases h)⟩ (by show 3 ≤ 100000; decide) (fun _ _ _ _ _ => trivial) ?_ ?_
    · rintro i x acc s3 N2 hx ⟨b3, hl3, ha3⟩ la hN2
      have hi : i < 3 := (List.getElem?_eq_some_iff.mp hx).1
      obtain ⟨k, rfl, ek, hk⟩ := kof hx
      walk_at "y"
      refine worths_ok hk b3 (by omega) fun x y s4 wx wy c4 b4 => ⟨la, hN2 _ _ (by rw [List.length_append, hl3]; exact Nat.le_refl _) ⟨b4.mono (by omega), by rw [List.length_append, hl3]; rfl, fun j d k' h e => ?_⟩⟩
      rcases Nat.lt_or_ge j acc.length with l | l
      · rw [List.getElem?_append_left l] at h
        exact ha3 j d k' h e
      · have hj := (List.getElem?_eq_some_iff.mp h).1
        rw [List.length_append] at hj
        have ej : j = acc.length := by have : j < acc.length + 1 := hj; omega
        subst ej
        rw [List.getElem?_append_right (Nat.le_refl _), Nat.sub_self] at h
        cases h
        rw [hl3, ek] at e
        cases e
        exact ⟨x, y, rfl, wx, wy⟩
    rintro acc s3 _ ⟨b3, hl3, ha3⟩
    have hl3 : acc.length = 3 := hl3
    match acc, hl3, ha3 with
    | [e1, e2, e3], _, ha3 =>
    obtain ⟨x0, x1', rfl, hx0, hx1⟩ := ha3 0 e1 ka rfl rfl
    obtain ⟨y0, y1, rfl, hy0, hy1⟩ := ha3 1 e2 kb rfl rfl
    obtain ⟨z0, z1, rfl, hz0, hz1⟩ := ha3 2 e3 kc rfl rfl
    have b3 : BagJ s3 b 100 := b3.mono (by show 3 + 20 * 3 ≤ 100; decide)
    walk_at "y"
    refine lc_inv (fun i acc s' => BagJ s' b (100 + i) ∧ acc.length = i ∧ ∀ (j : Nat) d k, acc[j]? = some d → [ka, kb, kc][j]? = some k → Odd k d) ⟨b3, rfl, fun j d k h _ => (by rw [List.getElem?_nil] at h; cases h)⟩ (by show 3 ≤ 100000; decide) (fun _ _ _ _ _ => trivial) ?_ ?_
    · rintro i x acc s4 N2 hx ⟨b4, hl4, ha4⟩ la hN2
      have hi : i < 3 := (List.getElem?_eq_some_iff.mp hx).1
      obtain ⟨k, rfl, ek, hk⟩ := kof hx
      walk_at "y"
      refine wrong_ok hk b4 (by omega) fun w s5 ow c5 b5 => ⟨la, hN2 _ _ (by rw [List.length_append, hl4]; exact Nat.le_refl _) ⟨b5, by rw [List.length_append, hl4]; rfl, fun j d k' h e => ?_⟩⟩
      rcases Nat.lt_or_ge j acc.length with l | l
      · rw [List.getElem?_append_left l] at h
        exact ha4 j d k' h e
      · have hj := (List.getElem?_eq_some_iff.mp h).1
        rw [List.length_append] at hj
        have ej : j = acc.length := by have : j < acc.length + 1 := hj; omega
        subst ej
        rw [List.getElem?_append_right (Nat.le_refl _), Nat.sub_self] at h
        cases h
        rw [hl4, ek] at e
        cases e
        exact ow
    rintro acc s4 _ ⟨b4, hl4, ha4⟩
    have hl4 : acc.length = 3 := hl4
    match acc, hl4, ha4 with
    | [w0, w1, w2], _, ha4 =>
    have D : Dr ka kb kc x0 x1' y0 y1 z0 z1 w0 w1 w2 := ⟨hka, hkb, hkc, hx0, hx1, hy0, hy1, hz0, hz1, ha4 0 w0 ka rfl rfl, ha4 1 w1 kb rfl rfl, ha4 2 w2 kc rfl rfl⟩
    have b4 : BagJ s4 b 1000 := b4.mono (by show 100 + 3 ≤ 1000; decide)
    walk_at "y"
    exact fin D b4 fun v7 s' => hN' _ _ ⟨_, _, _, _, _, _, _, _, _, _, rfl⟩
  · rintro ρ s' ⟨x1, x2, x3, x4, x5, x6, x7, x8, x9, x10, rfl⟩
    walk_at "y"
    rfl

end T
open PySem PySem.W PySem.Calls PyProof.Rows
theorem PySem.Challenge.cw_mendrounds_k07_fillings_holds : PySem.Challenge.rw_mendrounds_k07_fillings.Holds := by
  w_on; o_law
  refine HandSHeadRun.head_any (r := T.Ro) (q := view T.Ro.prog [31]) (H := T.hk) (ob := T.ob) (M := 12000) (loose := T.loose) (d := HandSHeadRun.topDef T.Ro.prog 31) (kwd := []) T.ob_eq
    (by kernel_rfl) (fun s => by kernel_rfl) T.run (by kernel_rfl) (by kernel_rfl) (by kernel_rfl) (by rfl) (by first | assumption | decide +kernel) (by decide +kernel) ⟨rfl, rfl, rfl, rfl, rfl, by decide +kernel⟩ ?hw ?hc
  case hw => w_witness2
  case hc =>
    refine M.walkG (l := PySem.Challenge.rw_mendrounds_k07_fillings) (n := 63) (k := 7) (x := "_law_script") rfl (by decide) (by kernel_rfl) ⟨rfl, by decide, by decide⟩ fun w mg f h Y G hmg0 => ?_
    obtain ⟨K, KX, c⟩ := Y
    have hmg : mg ("law" : PySem.Str) = some (.ref f) := by
      have e : (HandSHeadRun.topDef T.Ro.prog 31).name = ("law" : PySem.Str) := by kernel_rfl
      rw [← e]
      exact hmg0
    have X := T.txt_of (w := w) KX G c.t.d c.more
    have ef := hmg.symm.trans X.g_law
    cases ef
    obtain ⟨fd, F⟩ := X.f_law
    have b := L2.FunD.bindsA (ps := ["_law_script"]) F fun _ _ _ _ _ _ us hl => match us, hl with | [_], _ => rfl
    exact ⟨K, fd, M.spJ K T.w_law, KX, (fun s v => b s [v] rfl), (fun H a ns hl hb hS => M.law_endJ (T.law_ok hl hb) hS fun _ => rfl), fun base hb hm => T.fn_law X F⟩
