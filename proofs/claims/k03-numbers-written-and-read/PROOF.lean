import PyProof.Rows.All
import Wide.All
import OpenK.AllK
import Wide.FinOn
import HandS.ForMost
import HandS.Exc
import HandS.ExcOwn
import HandS.ExcCtx
import HandS.ExcInit
import HandS.ExcField
import HandS.HotCalls
import HandS.TryOnly
import HandS.TryMany
import HandS.WordsExc
import HandS.Wide
import HandS.IsInst
import HandS.Style
import HandS.Defaults
import HandS.TupAny
import HandS.Deep
import HandS.Iter
import HandS.Comp
import HandS.Text
import HandS.RaiseMore
import HandS.NoneIn
import HandS.FStr
import HandS.CallSlots
import HandS.DictComp
import HandS.OwnEq
import HandS.Property
import HandS.Rev
import HandS.Zip
import HandS.Walk
import HandS.StrMore
import HandS.StrSplit
import HandS.Strs
import HandS.SetFor
import HandS.Conv
import HandS.Codes
import HandS.Flow
import HandS.RaiseFrom
import HandS.SuiteRaise
import HandS.GenBody
import HandS.GenYield
import HandS.GenCall
import HandS.GenList
import HandS.Star
import HandS.ClsMeth
import HandS.Head0
import HandS.Head1
import HandS.Head2
import HandS.HeadEnd
import HandS.HeadHook1
import HandS.HeadHook2
import HandS.HeadHook3
import HandS.HeadHook4
import HandS.HeadWalk
import KE.KExcIs
import PyProof.Rows.SortShellAny
import PySem.Challenge.RW_mendrounds_k03_numbers_written_and_read
set_option Elab.async false
set_option linter.all false
set_option maxRecDepth 100000
set_option maxHeartbeats 4000000

namespace M
open PySem PySem.Spec PyProof.Rows L2
/-! ## data: values of any depth; own a: a thing that is kept in the store -/
inductive J where
  | non | bl (b : Bool) | int (i : Int) | str (s : Str) | lst (l : List J) | tup (l : List J) | dct (l : List (Key × J)) | obj (c : Str) (fs : List (Str × J)) | scr (l : List Int) | own (a : Addr) | ty (n : String) | cls (c : Str) | exc (a dd : Addr) (fs : List (Str × J))
/-- a dict that a loop has locked is the dict -/
def cor : HO → HO
  | .frz _ (.dK l) => .dK l
  | o => o
theorem cor_lst {h : HO} {xs : List V} (e : cor h = .lst xs) : h = .lst xs := by
  unfold cor at e
  split at e
  · cases e
  · exact e
theorem cor_ins {h : HO} {C dx : Addr} {fs : List (Str × V)} (e : cor h = .ins C dx fs) : h = .ins C dx fs := by
  unfold cor at e
  split at e
  · cases e
  · exact e
theorem cor_tup {h : HO} {xs : List V} (e : cor h = .tup xs) : h = .tup xs := by
  unfold cor at e
  split at e
  · cases e
  · exact e
theorem cor_xd {h : HO} {xs : List (Str × V)} (e : cor h = .xd xs) : h = .xd xs := by
  unfold cor at e
  split at e
  · cases e
  · exact e
theorem cor_frT {h : HO} {o : Obj} {xs : List V} (e : cor h = .frz o (.tup xs)) : h = .frz o (.tup xs) := by
  unfold cor at e
  split at e
  · cases e
  · exact e
theorem cor_frL {h : HO} {o : Obj} {xs : List V} (e : cor h = .frz o (.lst xs)) : h = .frz o (.lst xs) := by
  unfold cor at e
  split at e
  · cases e
  · exact e
theorem cor_dK {h : HO} {l : List (Key × V)} (e : cor h = .dK l) : h = .dK l ∨ ∃ o, h = .frz o (.dK l) := by
  unfold cor at e
  split at e
  · cases e
    exact .inr ⟨_, rfl⟩
  · exact .inl e
/-- all stands -/
def Le (G G' : Hp) : Prop := ∀ a h, G a = some h → ∃ h', G' a = some h' ∧ cor h' = cor h
theorem Le.refl {G : Hp} : Le G G := fun _ h e => ⟨h, e, rfl⟩
theorem Le.trans {G G1 G2 : Hp} (h1 : Le G G1) (h2 : Le G1 G2) : Le G G2 := fun a h e => by
  obtain ⟨h', e1, c1⟩ := h1 a h e
  obtain ⟨h'', e2, c2⟩ := h2 a h' e1
  exact ⟨h'', e2, c2.trans c1⟩
theorem Le.of_same {G G' : Hp} (h : Same G G') : Le G G' := fun a o e => ⟨o, h a o e, rfl⟩
theorem Le.lst {G G' : Hp} {a : Addr} {xs : List V} (l : Le G G') (e : G a = some (.lst xs)) : G' a = some (.lst xs) := by
  obtain ⟨h', e1, c1⟩ := l a _ e
  rw [e1, cor_lst c1]
theorem Le.ins {G G' : Hp} {a C dx : Addr} {fs : List (Str × V)} (l : Le G G') (e : G a = some (.ins C dx fs)) : G' a = some (.ins C dx fs) := by
  obtain ⟨h', e1, c1⟩ := l a _ e
  rw [e1, cor_ins c1]
theorem Le.xd {G G' : Hp} {a : Addr} {fs : List (Str × V)} (l : Le G G') (e : G a = some (.xd fs)) : G' a = some (.xd fs) := by
  obtain ⟨h', e1, c1⟩ := l a _ e
  rw [e1, cor_xd c1]
theorem Le.sqt {K : PySem.W.Frag} {G G' : Hp} (l : Le G G') {a : Addr} {xs : List V} (h : SqT K G a xs) : SqT K G' a xs := by
  rcases h with (h | ⟨o, h⟩) | h
  · obtain ⟨h', e1, c1⟩ := l a _ h
    exact .inl (.inl (by rw [e1, cor_tup c1]))
  · obtain ⟨h', e1, c1⟩ := l a _ h
    exact .inl (.inr ⟨o, by rw [e1, cor_frT c1]⟩)
  · exact .inr h
theorem Le.sql {K : PySem.W.Frag} {G G' : Hp} (l : Le G G') {a : Addr} {xs : List V} (h : SqL K G a xs) : SqL K G' a xs := by
  rcases h with (h | ⟨o, h⟩) | h
  · exact .inl (.inl (l.lst h))
  · obtain ⟨h', e1, c1⟩ := l a _ h
    exact .inl (.inr ⟨o, by rw [e1, cor_frL c1]⟩)
  · exact .inr h
mutual
inductive Jp (K : PySem.W.Frag) (G : Hp) : V → J → Prop
  | non : Jp K G .non .non
  | bl (b : Bool) : Jp K G (.bl b) (.bl b)
  | int (i : Int) : Jp K G (.int i) (.int i)
  | str (x : Str) : Jp K G (.str x) (.str x)
  | lst {a : Addr} {xs : List V} {ds : List J} : G a = some (.lst xs) → Jps K G xs ds → Jp K G (.ref a) (.lst ds)
  | tup {a : Addr} {xs : List V} {ds : List J} : SqT K G a xs → Jps K G xs ds → Jp K G (.ref a) (.tup ds)
  | dct {a : Addr} {h : HO} {xs : List (Key × V)} {ds : List (Key × J)} : G a = some h → cor h = .dK xs → Jpd K G xs ds → Jp K G (.ref a) (.dct ds)
  | obj {a dx : Addr} {c : Str} {xs : List (Str × V)} {ds : List (Str × J)} : G a = some (.ins (He.ga K c) dx xs) → Jpf K G xs ds → Jp K G (.ref a) (.obj c ds)
  | scr {a : Addr} {l : List Int} : SqL K G a (l.map V.int) → Jp K G (.ref a) (.scr l)
  | own (a : Addr) : Jp K G (.ref a) (.own a)
  | ty (n : String) : Jp K G (.ty n) (.ty n)
  | cls (c : Str) : Jp K G (.ref (He.ga K c)) (.cls c)
  | exc {a dd : Addr} {xs : List (Str × V)} {fs : List (Str × J)} : G dd = some (.xd xs) → Jpf K G xs fs → Jp K G (.ref a) (.exc a dd fs)
inductive Jps (K : PySem.W.Frag) (G : Hp) : List V → List J → Prop
  | nil : Jps K G [] []
  | cons {v : V} {vs : List V} {d : J} {ds : List J} : Jp K G v d → Jps K G vs ds → Jps K G (v :: vs) (d :: ds)
inductive Jpd (K : PySem.W.Frag) (G : Hp) : List (Key × V) → List (Key × J) → Prop
  | nil : Jpd K G [] []
  | cons {k : Key} {v : V} {vs : List (Key × V)} {d : J} {ds : List (Key × J)} : Jp K G v d → Jpd K G vs ds → Jpd K G ((k, v) :: vs) ((k, d) :: ds)
inductive Jpf (K : PySem.W.Frag) (G : Hp) : List (Str × V) → List (Str × J) → Prop
  | nil : Jpf K G [] []
  | cons {k : Str} {v : V} {vs : List (Str × V)} {d : J} {ds : List (Str × J)} : Jp K G v d → Jpf K G vs ds → Jpf K G ((k, v) :: vs) ((k, d) :: ds)
end
section
variable {K : PySem.W.Frag} {G G' : Hp}
mutual
theorem Jp.up (e : Le G G') : ∀ {v : V} {d : J}, Jp K G v d → Jp K G' v d
  | _, _, .non => .non
  | _, _, .bl b => .bl b
  | _, _, .int b => .int b
  | _, _, .str b => .str b
  | _, _, .lst h r => .lst (e.lst h) (Jps.up e r)
  | _, _, .tup h r => .tup (e.sqt h) (Jps.up e r)
  | _, _, .dct h c r => let ⟨h', e1, c1⟩ := e _ _ h; .dct e1 (c1.trans c) (Jpd.up e r)
  | _, _, .obj h r => .obj (e.ins h) (Jpf.up e r)
  | _, _, .scr h => .scr (e.sql h)
  | _, _, .own a => .own a
  | _, _, .ty a => .ty a
  | _, _, .cls a => .cls a
  | _, _, .exc h r => .exc (e.xd h) (Jpf.up e r)
theorem Jps.up (e : Le G G') : ∀ {v : List V} {d : List J}, Jps K G v d → Jps K G' v d
  | _, _, .nil => .nil
  | _, _, .cons h r => .cons (Jp.up e h) (Jps.up e r)
theorem Jpd.up (e : Le G G') : ∀ {v : List (Key × V)} {d : List (Key × J)}, Jpd K G v d → Jpd K G' v d
  | _, _, .nil => .nil
  | _, _, .cons h r => .cons (Jp.up e h) (Jpd.up e r)
theorem Jpf.up (e : Le G G') : ∀ {v : List (Str × V)} {d : List (Str × J)}, Jpf K G v d → Jpf K G' v d
  | _, _, .nil => .nil
  | _, _, .cons h r => .cons (Jp.up e h) (Jpf.up e r)
end
theorem Jps.length : ∀ {v : List V} {d : List J}, Jps K G v d → v.length = d.length
  | _, _, .nil => rfl
  | _, _, .cons _ r => congrArg Nat.succ (Jps.length r)
theorem Jps.append : ∀ {v w : List V} {d e : List J}, Jps K G v d → Jps K G w e → Jps K G (v ++ w) (d ++ e)
  | _, _, _, _, .nil, r => r
  | _, _, _, _, .cons h t, r => .cons h (Jps.append t r)
theorem Jps.get : ∀ {v : List V} {d : List J} {i : Nat} {x : J}, Jps K G v d → d[i]? = some x → ∃ u, v[i]? = some u ∧ Jp K G u x
  | _, _, i, _, .nil, h => by simp at h
  | _, _, 0, x, .cons (v := v) h t, e => ⟨v, rfl, by simp at e; rw [← e]; exact h⟩
  | _, _, i + 1, _, .cons h t, e => by
    rw [List.getElem?_cons_succ] at e ⊢
    exact Jps.get t e
theorem Jps.get' : ∀ {v : List V} {d : List J} {i : Nat} {u : V}, Jps K G v d → v[i]? = some u → ∃ x, d[i]? = some x ∧ Jp K G u x
  | _, _, i, _, .nil, h => by simp at h
  | _, _, 0, x, .cons (d := d) h t, e => ⟨d, rfl, by simp at e; rw [← e]; exact h⟩
  | _, _, i + 1, _, .cons h t, e => by
    rw [List.getElem?_cons_succ] at e ⊢
    exact Jps.get' t e
theorem Jps.set : ∀ {v : List V} {d : List J} (i : Nat) {u : V} {x : J}, Jps K G v d → Jp K G u x → Jps K G (v.set i u) (d.set i x)
  | _, _, _, _, _, .nil, _ => .nil
  | _, _, 0, _, _, .cons _ t, j => .cons j t
  | _, _, i + 1, _, _, .cons h t, j => .cons h (Jps.set i t j)
theorem Jps.drop : ∀ {v : List V} {d : List J} (i : Nat), Jps K G v d → Jps K G (v.drop i) (d.drop i)
  | _, _, 0, h => h
  | _, _, _ + 1, .nil => .nil
  | _, _, i + 1, .cons _ t => Jps.drop i t
theorem Jps.take : ∀ {v : List V} {d : List J} (i : Nat), Jps K G v d → Jps K G (v.take i) (d.take i)
  | _, _, 0, h => .nil
  | _, _, _ + 1, .nil => .nil
  | _, _, i + 1, .cons h t => .cons h (Jps.take i t)
theorem Jps.ints : ∀ {v : List V} {l : List Int}, Jps K G v (l.map J.int) → v = l.map V.int
  | _, [], .nil => rfl
  | _, _ :: _, .cons h t => by cases h; rw [List.map_cons, Jps.ints t]
theorem Jps.strs : ∀ {v : List V} {l : List Str}, Jps K G v (l.map J.str) → v = l.map V.str
  | _, [], .nil => rfl
  | _, _ :: _, .cons h t => by cases h; rw [List.map_cons, Jps.strs t]
theorem Jps.bls : ∀ {v : List V} {l : List Bool}, Jps K G v (l.map J.bl) → v = l.map V.bl
  | _, [], .nil => rfl
  | _, _ :: _, .cons h t => by cases h; rw [List.map_cons, Jps.bls t]
def lookF (ds : List (Str × J)) (f : Str) : Option J := ds.lookup f
theorem Jpf.look : ∀ {v : List (Str × V)} {d : List (Str × J)} {f : Str} {x : J}, Jpf K G v d → d.lookup f = some x → ∃ u, v.lookup f = some u ∧ Jp K G u x
  | _, _, f, _, .nil, e => by cases e
  | _, _, f, x, .cons (k := k) (v := u) h t, e => by
    rw [List.lookup_cons] at e ⊢
    cases hk : f == k with
    | true =>
      rw [hk] at e
      cases e
      exact ⟨u, rfl, h⟩
    | false =>
      rw [hk] at e
      exact Jpf.look t e
theorem Jpf.look_none : ∀ {v : List (Str × V)} {d : List (Str × J)} {f : Str}, Jpf K G v d → d.lookup f = none → v.lookup f = none
  | _, _, f, .nil, e => rfl
  | _, _, f, .cons (k := k) (v := u) h t, e => by
    rw [List.lookup_cons] at e ⊢
    cases hk : f == k with
    | true =>
      rw [hk] at e
      cases e
    | false =>
      rw [hk] at e
      exact Jpf.look_none t e
theorem Jpf.length : ∀ {v : List (Str × V)} {d : List (Str × J)}, Jpf K G v d → v.length = d.length
  | _, _, .nil => rfl
  | _, _, .cons _ r => congrArg Nat.succ (Jpf.length r)
def valJ (kvs : List (Key × J)) (k : Key) : Option J := (kvs.find? fun kv => decide (kv.1 = k)).map (·.2)
theorem Jpd.val : ∀ {v : List (Key × V)} {d : List (Key × J)} {k : Key}, Jpd K G v d → (valV v k = none ∧ valJ d k = none) ∨ ∃ u x, valV v k = some u ∧ valJ d k = some x ∧ Jp K G u x
  | _, _, k, .nil => .inl ⟨rfl, rfl⟩
  | _, _, k, .cons (k := k') (v := u) (d := x) h t => by
    unfold valV valJ
    by_cases e : k' = k
    · rw [List.find?_cons_of_pos (by simpa using e), List.find?_cons_of_pos (by simpa using e)]
      exact .inr ⟨u, x, rfl, rfl, h⟩
    · rw [List.find?_cons_of_neg (by simpa using e), List.find?_cons_of_neg (by simpa using e)]
      exact Jpd.val (k := k) t
theorem Jpd.length : ∀ {v : List (Key × V)} {d : List (Key × J)}, Jpd K G v d → v.length = d.length
  | _, _, .nil => rfl
  | _, _, .cons _ r => congrArg Nat.succ (Jpd.length r)
end
/-! ## the store: what may change; the frame: what is hidden; the mask: what is seen -/
inductive O where
  | lst (l : List J) | dct (l : List (Key × J)) | ins (c : Str) (fs : List (Str × J))
abbrev Sto := Addr → Option O
def put (s : Sto) (a : Addr) (o : O) : Sto := fun b => if b = a then some o else s b
def rem (s : Sto) (a : Addr) : Sto := fun b => if b = a then none else s b
theorem put_same {s : Sto} {a : Addr} {o : O} : put s a o a = some o := by unfold put; rw [if_pos rfl]
theorem put_ne {s : Sto} {a b : Addr} {o : O} (h : b ≠ a) : put s a o b = s b := by unfold put; rw [if_neg h]
theorem put_put {s : Sto} {a : Addr} {o u : O} : put (put s a o) a u = put s a u := by
  funext b
  unfold put
  by_cases h : b = a
  · rw [if_pos h, if_pos h]
  · rw [if_neg h, if_neg h, if_neg h]
theorem rem_put {s : Sto} {a : Addr} {o : O} (h : s a = none) : rem (put s a o) a = s := by
  funext b
  unfold rem put
  by_cases e : b = a
  · rw [if_pos e, e, h]
  · rw [if_neg e, if_neg e]
def mask (F : Hp) (s : Sto) (H : Hp) : Hp := fun a => match F a, s a with
  | none, none => H a
  | _, _ => none
theorem mask_none {F : Hp} {s : Sto} {H : Hp} {a : Addr} (h1 : F a = none) (h2 : s a = none) : mask F s H a = H a := by
  unfold mask; rw [h1, h2]
theorem of_mask {F : Hp} {s : Sto} {H : Hp} {a : Addr} {o : HO} (h : mask F s H a = some o) : F a = none ∧ s a = none ∧ H a = some o := by
  unfold mask at h
  split at h
  · rename_i h1 h2
    exact ⟨h1, h2, h⟩
  · cases h
def Oh (K : PySem.W.Frag) (G : Hp) : HO → O → Prop
  | .lst xs, .lst l => Jps K G xs l
  | .dK xs, .dct l => Jpd K G xs l
  | .ins C _ fs, .ins c ds => C = He.ga K c ∧ Jpf K G fs ds
  | _, _ => False
theorem Oh.up {K : PySem.W.Frag} {G G' : Hp} (l : Le G G') : ∀ {h : HO} {o : O}, Oh K G h o → Oh K G' h o := by
  intro h o e
  unfold Oh at e ⊢
  split at e
  · exact Jps.up l e
  · exact Jpd.up l e
  · exact ⟨e.1, Jpf.up l e.2⟩
  · exact e
structure Stt (K : PySem.W.Frag) (F : Hp) (s : Sto) (H : Hp) : Prop where
  sk : ∀ a o, s a = some o → F a = none ∧ ∃ h, H a = some h ∧ Oh K (mask F s H) h o
  fr : ∀ a o, F a = some o → H a = some o
section
variable {K : PySem.W.Frag} {F : Hp} {s s' : Sto} {H H' : Hp} {a p : Addr} {h : HO} {o : O}
theorem Stt.fresh (t : Stt K F s H) (e : H p = none) : s p = none ∧ F p = none := by
  constructor
  · cases q : s p with
    | none => rfl
    | some o =>
      obtain ⟨_, h, e2, _⟩ := t.sk p o q
      rw [e] at e2
      cases e2
  · cases q : F p with
    | none => rfl
    | some o =>
      have := t.fr p o q
      rw [e] at this
      cases this
theorem Le.new (e : H p = none) : Le (mask F s H) (mask F s (upd H p h)) := fun a o q => by
  obtain ⟨h1, h2, h3⟩ := of_mask q
  exact ⟨o, by rw [mask_none h1 h2, upd_ne (ne_of_none h3 e)]; exact h3, rfl⟩
/-- a new thing, seen -/
theorem Stt.new (t : Stt K F s H) (e : H p = none) : Stt K F s (upd H p h) := by
  refine ⟨fun a o q => ?_, fun a o q => ?_⟩
  · obtain ⟨h1, h2, h3, h4⟩ := t.sk a o q
    exact ⟨h1, h2, by rw [upd_ne (ne_of_none h3 e)]; exact h3, h4.up (Le.new e)⟩
  · have := t.fr a o q
    rw [upd_ne (ne_of_none this e)]
    exact this
theorem Le.newO (e : H p = none) : Le (mask F s H) (mask F (put s p o) (upd H p h)) := fun a u q => by
  obtain ⟨h1, h2, h3⟩ := of_mask q
  have n := ne_of_none h3 e
  exact ⟨u, by rw [mask_none h1 (by rw [put_ne n]; exact h2), upd_ne n]; exact h3, rfl⟩
/-- a new thing, in the store -/
theorem Stt.newO (t : Stt K F s H) (e : H p = none) (w : Oh K (mask F s H) h o) : Stt K F (put s p o) (upd H p h) := by
  obtain ⟨f1, f2⟩ := t.fresh e
  refine ⟨fun a u q => ?_, fun a u q => ?_⟩
  · by_cases n : a = p
    · subst n
      rw [put_same] at q
      cases q
      exact ⟨f2, h, upd_same, w.up (Le.newO e)⟩
    · rw [put_ne n] at q
      obtain ⟨h1, h2, h3, h4⟩ := t.sk a u q
      exact ⟨h1, h2, by rw [upd_ne n]; exact h3, h4.up (Le.newO e)⟩
  · have := t.fr a u q
    rw [upd_ne (ne_of_none this e)]
    exact this
theorem mask_write {u : O} (e : s a = some u) : mask F (put s a o) (upd H a h) = mask F s H := by
  funext b
  unfold mask
  by_cases n : b = a
  · subst n
    rw [put_same, e]
    cases F b <;> rfl
  · rw [put_ne n, upd_ne n]
/-- a thing of the store is written -/
theorem Stt.write {u : O} (t : Stt K F s H) (e : s a = some u) (w : Oh K (mask F s H) h o) : Stt K F (put s a o) (upd H a h) := by
  refine ⟨fun b v q => ?_, fun b v q => ?_⟩
  · rw [mask_write e]
    by_cases n : b = a
    · subst n
      rw [put_same] at q
      cases q
      exact ⟨(t.sk _ _ e).1, h, upd_same, w⟩
    · rw [put_ne n] at q
      obtain ⟨h1, h2, h3, h4⟩ := t.sk b v q
      exact ⟨h1, h2, by rw [upd_ne n]; exact h3, h4⟩
  · have n : b ≠ a := fun z => by
      rw [z, (t.sk _ _ e).1] at q
      cases q
    rw [upd_ne n]
    exact t.fr b v q
/-- things of the store are let go -/
theorem Le.sub (d : ∀ a o, s' a = some o → s a = some o) : Le (mask F s H) (mask F s' H) := fun a u q => by
  obtain ⟨h1, h2, h3⟩ := of_mask q
  refine ⟨u, ?_, rfl⟩
  rw [mask_none h1 ?_]
  · exact h3
  · cases z : s' a with
    | none => rfl
    | some o =>
      rw [d a o z] at h2
      cases h2
theorem Stt.sub (t : Stt K F s H) (d : ∀ a o, s' a = some o → s a = some o) : Stt K F s' H :=
  ⟨fun a o q => let ⟨h1, h2, h3, h4⟩ := t.sk a o (d a o q); ⟨h1, h2, h3, h4.up (Le.sub d)⟩, t.fr⟩
theorem sub_rem : ∀ b u, rem s a b = some u → s b = some u := fun b u q => by
  unfold rem at q
  split at q
  · cases q
  · exact q
/-- what stands at a place of the store -/
theorem Stt.lst {l : List J} (t : Stt K F s H) (e : s a = some (.lst l)) : ∃ xs, H a = some (.lst xs) ∧ Jps K (mask F s H) xs l := by
  obtain ⟨h1, h2, h3, h4⟩ := t.sk a _ e
  unfold Oh at h4
  split at h4
  · rename_i q; cases q; exact ⟨_, h3, h4⟩
  · rename_i q; cases q
  · rename_i q; cases q
  · exact h4.elim
theorem Stt.dct {l : List (Key × J)} (t : Stt K F s H) (e : s a = some (.dct l)) : ∃ xs, H a = some (.dK xs) ∧ Jpd K (mask F s H) xs l := by
  obtain ⟨h1, h2, h3, h4⟩ := t.sk a _ e
  unfold Oh at h4
  split at h4
  · rename_i q; cases q
  · rename_i q; cases q; exact ⟨_, h3, h4⟩
  · rename_i q; cases q
  · exact h4.elim
theorem Stt.ins {c : Str} {l : List (Str × J)} (t : Stt K F s H) (e : s a = some (.ins c l)) : ∃ dx xs, H a = some (.ins (He.ga K c) dx xs) ∧ Jpf K (mask F s H) xs l := by
  obtain ⟨h1, h2, h3, h4⟩ := t.sk a _ e
  unfold Oh at h4
  split at h4
  · rename_i q; cases q
  · rename_i q; cases q
  · rename_i q; cases q
    obtain ⟨w1, w2⟩ := h4
    subst w1
    exact ⟨_, _, h3, w2⟩
  · exact h4.elim
end
/-! ## slots -/
abbrev Rho := List (Option J)
inductive Rs (K : PySem.W.Frag) (G : Hp) : L2.St → Rho → Prop
  | nil : Rs K G [] []
  | no {σ : L2.St} {ρ : Rho} : Rs K G σ ρ → Rs K G (none :: σ) (none :: ρ)
  | yes {v : V} {d : J} {σ : L2.St} {ρ : Rho} : Jp K G v d → Rs K G σ ρ → Rs K G (some v :: σ) (some d :: ρ)
section
variable {K : PySem.W.Frag} {G G' : Hp}
theorem Rs.up (e : Le G G') : ∀ {σ : L2.St} {ρ : Rho}, Rs K G σ ρ → Rs K G' σ ρ
  | _, _, .nil => .nil
  | _, _, .no r => .no (Rs.up e r)
  | _, _, .yes j r => .yes (j.up e) (Rs.up e r)
theorem Rs.get : ∀ {σ : L2.St} {ρ : Rho} {i : Nat} {d : J}, Rs K G σ ρ → ρ[i]? = some (some d) → ∃ v, σ[i]? = some (some v) ∧ Jp K G v d
  | _, _, _, _, .nil, e => by simp at e
  | _, _, 0, _, .no r, e => by simp at e
  | _, _, 0, d, .yes (v := v) j r, e => ⟨v, rfl, by simp at e; rw [← e]; exact j⟩
  | _, _, i + 1, _, .no r, e => by
    rw [List.getElem?_cons_succ] at e ⊢
    exact Rs.get r e
  | _, _, i + 1, _, .yes j r, e => by
    rw [List.getElem?_cons_succ] at e ⊢
    exact Rs.get r e
theorem Rs.set : ∀ {σ : L2.St} {ρ : Rho} (i : Nat) {v : V} {d : J}, Rs K G σ ρ → Jp K G v d → Rs K G (σ.set i (some v)) (ρ.set i (some d))
  | _, _, _, _, _, .nil, _ => .nil
  | _, _, 0, _, _, .no r, j => .yes j r
  | _, _, 0, _, _, .yes _ r, j => .yes j r
  | _, _, i + 1, _, _, .no r, j => .no (Rs.set i r j)
  | _, _, i + 1, _, _, .yes q r, j => .yes q (Rs.set i r j)
theorem Rs.set0 : ∀ {σ : L2.St} {ρ : Rho} (i : Nat), Rs K G σ ρ → Rs K G (σ.set i none) (ρ.set i none)
  | _, _, _, .nil => .nil
  | _, _, 0, .no r => .no r
  | _, _, 0, .yes _ r => .no r
  | _, _, i + 1, .no r => .no (Rs.set0 i r)
  | _, _, i + 1, .yes q r => .yes q (Rs.set0 i r)
theorem Rs.beg {vs : List V} {ds : List J} (N : List Str) (h : Jps K G vs ds) : Rs K G (L2.start N vs) (ds.map some ++ List.replicate (N.length - ds.length) none) := by
  unfold L2.start
  rw [h.length]
  have base : ∀ n : Nat, Rs K G (List.replicate n none) (List.replicate n none) := fun n => by
    induction n with
    | zero => exact .nil
    | succ n h => rw [List.replicate_succ]; exact .no h
  generalize N.length - ds.length = n
  have go : ∀ {vs : List V} {ds : List J}, Jps K G vs ds → Rs K G (vs.map some ++ List.replicate n none) (ds.map some ++ List.replicate n none) := by
    intro vs ds h
    induction ds generalizing vs with
    | nil => cases h; exact base n
    | cons d ds ih =>
      cases h with
      | cons j r => exact .yes j (ih r)
  exact go h
end
end M
namespace M
open PySem PySem.Spec PyProof.Rows L2
theorem Le.unmask {F : Hp} {s : Sto} {H : Hp} : Le (mask F s H) H := fun a o q => ⟨o, (of_mask q).2.2, rfl⟩
theorem sqt_mask {K : PySem.W.Frag} {F : Hp} {s : Sto} {H : Hp} {a : Addr} {xs : List V} (h : SqT K (mask F s H) a xs) : SqT K H a xs := Le.unmask.sqt h
theorem sql_mask {K : PySem.W.Frag} {F : Hp} {s : Sto} {H : Hp} {a : Addr} {xs : List V} (h : SqL K (mask F s H) a xs) : SqL K H a xs := Le.unmask.sql h
end M

namespace M
open PySem PySem.Spec PyProof.Rows L2
/-! ## readings over data -/
abbrev QJ := J → Sto → Prop
abbrev XJ := Str → List (Str × J) → Sto → Prop
abbrev TJ := Rho → Sto → QJ → XJ → Prop
abbrev AJ := Rho → Sto → (List J → Sto → Prop) → XJ → Prop
abbrev BJ := Rho → Sto → (Bool → Sto → Prop) → XJ → Prop
structure EJ where
  nx : Rho → Sto → Prop
  rt : QJ
  bk : Rho → Sto → Prop
  ct : Rho → Sto → Prop
  xr : Rho → XJ
abbrev SJ := EJ → Rho → Sto → Prop
abbrev GJ := J → Rho → Sto → (Rho → Sto → Prop) → Prop
abbrev GsJ := List J → Rho → Sto → (Rho → Sto → Prop) → Prop
def No : XJ := fun _ _ _ => False
abbrev W0 : WX := fun _ _ _ _ => False
abbrev WE' (E : XK) : WX := fun cl d _ H => E cl d H
structure At (K : PySem.W.Frag) (F : Hp) (ρ : Rho) (s : Sto) (σ : L2.St) (H : Hp) : Prop where
  rs : Rs K (mask F s H) σ ρ
  st : Stt K F s H
theorem At.to {K : PySem.W.Frag} {F : Hp} {ρ : Rho} {s s' : Sto} {σ : L2.St} {H H' : Hp} (a : At K F ρ s σ H) (l : Le (mask F s H) (mask F s' H')) (t : Stt K F s' H') : At K F ρ s' σ H' := ⟨a.rs.up l, t⟩
def Bk (K : PySem.W.Frag) (F G : Hp) (QV : VK) : QJ := fun d s' => ∀ v H', Le G (mask F s' H') → Stt K F s' H' → Jp K (mask F s' H') v d → QV v H'
def Bks (K : PySem.W.Frag) (F G : Hp) (QV : List V → Hp → Prop) : List J → Sto → Prop := fun d s' => ∀ v H', Le G (mask F s' H') → Stt K F s' H' → Jps K (mask F s' H') v d → QV v H'
def Bkb (K : PySem.W.Frag) (F G : Hp) (R : Bool → Hp → Prop) : Bool → Sto → Prop := fun b s' => ∀ H', Le G (mask F s' H') → Stt K F s' H' → R b H'
def XD (K : PySem.W.Frag) (G : Hp) : Option Addr → List (Str × J) → Prop
  | none, fs => fs = []
  | some a, fs => ∃ vs, G a = some (.xd vs) ∧ Jpf K G vs fs
def Xk (K : PySem.W.Frag) (F G : Hp) (E : XK) : XJ := fun c fs s' => ∀ d H', Le G (mask F s' H') → Stt K F s' H' → XD K (mask F s' H') d fs → E (.ref (He.ga K c)) d H'
theorem Bk.up {K : PySem.W.Frag} {F G G1 : Hp} {QV : VK} {d : J} {s : Sto} (h : Bk K F G QV d s) (l : Le G G1) : Bk K F G1 QV d s := fun v H' l' t j => h v H' (l.trans l') t j
theorem Bks.up {K : PySem.W.Frag} {F G G1 : Hp} {QV : List V → Hp → Prop} {d : List J} {s : Sto} (h : Bks K F G QV d s) (l : Le G G1) : Bks K F G1 QV d s := fun v H' l' t j => h v H' (l.trans l') t j
theorem Bkb.up {K : PySem.W.Frag} {F G G1 : Hp} {R : Bool → Hp → Prop} {b : Bool} {s : Sto} (h : Bkb K F G R b s) (l : Le G G1) : Bkb K F G1 R b s := fun H' l' t => h H' (l.trans l') t
theorem Xk.up {K : PySem.W.Frag} {F G G1 : Hp} {E : XK} {c : Str} {fs : List (Str × J)} {s : Sto} (h : Xk K F G E c fs s) (l : Le G G1) : Xk K F G1 E c fs s := fun d H' l' t x => h d H' (l.trans l') t x
def Se (K : PySem.W.Frag) (W : WX) (t : TE) (p : TJ) : Prop := ∀ (F : Hp) (ρ : Rho) (s : Sto) (σ : L2.St) (H : Hp) (Q : QJ) (R : XJ) (QV : VK), At K F ρ s σ H → (∀ d s', Q d s' → Bk K F (mask F s H) QV d s') →
  (∀ c fs s', R c fs s' → Xk K F (mask F s H) (fun cl d H' => W cl d σ H') c fs s') → p ρ s Q R → t σ H QV
def Sa (K : PySem.W.Frag) (W : WX) (t : TA) (p : AJ) : Prop := ∀ (F : Hp) (ρ : Rho) (s : Sto) (σ : L2.St) (H : Hp) (Q : List J → Sto → Prop) (R : XJ) (QV : List V → Hp → Prop), At K F ρ s σ H → (∀ d s', Q d s' → Bks K F (mask F s H) QV d s') →
  (∀ c fs s', R c fs s' → Xk K F (mask F s H) (fun cl d H' => W cl d σ H') c fs s') → p ρ s Q R → t σ H QV
def Sb (K : PySem.W.Frag) (W : WX) (t : TT) (p : BJ) : Prop := ∀ (F : Hp) (ρ : Rho) (s : Sto) (σ : L2.St) (H : Hp) (Q : Bool → Sto → Prop) (R : XJ) (QV : Bool → Hp → Prop), At K F ρ s σ H → (∀ d s', Q d s' → Bkb K F (mask F s H) QV d s') →
  (∀ c fs s', R c fs s' → Xk K F (mask F s H) (fun cl d H' => W cl d σ H') c fs s') → p ρ s Q R → t σ H QV
structure Er (K : PySem.W.Frag) (F : Hp) (W : WX) (G : Hp) (D : EJ) (DV : Ends) : Prop where
  nx : ∀ ρ s σ H, D.nx ρ s → Le G (mask F s H) → At K F ρ s σ H → DV.nx σ H
  rt : ∀ d s, D.rt d s → Bk K F G DV.rt d s
  bk : ∀ ρ s σ H, D.bk ρ s → Le G (mask F s H) → At K F ρ s σ H → DV.bk σ H
  ct : ∀ ρ s σ H, D.ct ρ s → Le G (mask F s H) → At K F ρ s σ H → DV.ct σ H
  xr : ∀ ρ c fs s σ, D.xr ρ c fs s → ∀ d H', Le G (mask F s H') → At K F ρ s σ H' → XD K (mask F s H') d fs → W (.ref (He.ga K c)) d σ H'
theorem Er.up {K : PySem.W.Frag} {F : Hp} {W : WX} {G G1 : Hp} {D : EJ} {DV : Ends} (e : Er K F W G D DV) (l : Le G G1) : Er K F W G1 D DV :=
  ⟨fun ρ s σ H h l' a => e.nx ρ s σ H h (l.trans l') a, fun d s h => (e.rt d s h).up l, fun ρ s σ H h l' a => e.bk ρ s σ H h (l.trans l') a, fun ρ s σ H h l' a => e.ct ρ s σ H h (l.trans l') a,
    fun ρ c fs s σ h d H' l' a x => e.xr ρ c fs s σ h d H' (l.trans l') a x⟩
def Ss (K : PySem.W.Frag) (W : WX) (t : TS) (q : SJ) : Prop := ∀ (F : Hp) (D : EJ) (DV : Ends) (ρ : Rho) (s : Sto) (σ : L2.St) (H : Hp), At K F ρ s σ H → Er K F W (mask F s H) D DV → q D ρ s → t DV σ H
def Sg (K : PySem.W.Frag) (g : TG) (gj : GJ) : Prop := ∀ (F : Hp) (v : V) (d : J) (ρ : Rho) (s : Sto) (σ : L2.St) (H : Hp) (Q : Rho → Sto → Prop) (QV : L2.St → Hp → Prop), At K F ρ s σ H → Jp K (mask F s H) v d →
  (∀ ρ' s', Q ρ' s' → ∀ σ' H', Le (mask F s H) (mask F s' H') → At K F ρ' s' σ' H' → QV σ' H') → gj d ρ s Q → g v σ H QV
def Sgs (K : PySem.W.Frag) (g : TGs) (gj : GsJ) : Prop := ∀ (F : Hp) (v : List V) (d : List J) (ρ : Rho) (s : Sto) (σ : L2.St) (H : Hp) (Q : Rho → Sto → Prop) (QV : L2.St → Hp → Prop), At K F ρ s σ H → Jps K (mask F s H) v d →
  (∀ ρ' s', Q ρ' s' → ∀ σ' H', Le (mask F s H) (mask F s' H') → At K F ρ' s' σ' H' → QV σ' H') → gj d ρ s Q → g v σ H QV
/-- operators, by values; built-in functions; methods -/
def So (K : PySem.W.Frag) (r : R2) (rj : J → J → Sto → QJ → Prop) : Prop := ∀ (F : Hp) (s : Sto) (H : Hp) (v u : V) (x y : J) (Q : QJ) (QV : VK), Stt K F s H → Jp K (mask F s H) v x → Jp K (mask F s H) u y → (∀ d s', Q d s' → Bk K F (mask F s H) QV d s') → rj x y s Q → r v u H QV
def So1 (K : PySem.W.Frag) (r : V → Hp → VK → Prop) (rj : J → Sto → QJ → Prop) : Prop := ∀ (F : Hp) (s : Sto) (H : Hp) (v : V) (x : J) (Q : QJ) (QV : VK), Stt K F s H → Jp K (mask F s H) v x → (∀ d s', Q d s' → Bk K F (mask F s H) QV d s') → rj x s Q → r v H QV
def Sf (K : PySem.W.Frag) (r : List V → Hp → VK → Prop) (rj : List J → Sto → QJ → Prop) : Prop := ∀ (F : Hp) (s : Sto) (H : Hp) (v : List V) (x : List J) (Q : QJ) (QV : VK), Stt K F s H → Jps K (mask F s H) v x → (∀ d s', Q d s' → Bk K F (mask F s H) QV d s') → rj x s Q → r v H QV
def Sm (K : PySem.W.Frag) (r : V → List V → Hp → VK → Prop) (rj : J → List J → Sto → QJ → Prop) : Prop := ∀ (F : Hp) (s : Sto) (H : Hp) (v : V) (vs : List V) (x : J) (xs : List J) (Q : QJ) (QV : VK), Stt K F s H → Jp K (mask F s H) v x → Jps K (mask F s H) vs xs → (∀ d s', Q d s' → Bk K F (mask F s H) QV d s') → rj x xs s Q → r v vs H QV
/-! ### the readings -/
def jVar (i : Nat) : TJ := fun ρ s Q _ => ∃ d, ρ[i]? = some (some d) ∧ Q d s
def jC (d : J) : TJ := fun _ s Q _ => Q d s
def jOp (r : J → J → Sto → QJ → Prop) (a b : TJ) : TJ := fun ρ s Q R => a ρ s (fun x s1 => b ρ s1 (fun y s2 => r x y s2 Q) R) R
def jUn (r : J → Sto → QJ → Prop) (a : TJ) : TJ := fun ρ s Q R => a ρ s (fun x s1 => r x s1 Q) R
def jIf (t : BJ) (a b : TJ) : TJ := fun ρ s Q R => t ρ s (fun c s1 => if c = true then a ρ s1 Q R else b ρ s1 Q R) R
def jTest (a : TJ) : BJ := fun ρ s Q R => a ρ s (fun x s1 => ∃ b, x = .bl b ∧ Q b s1) R
def jNot (a : BJ) : BJ := fun ρ s Q R => a ρ s (fun b s1 => Q (!b) s1) R
def jAnd (a b : BJ) : BJ := fun ρ s Q R => a ρ s (fun c s1 => if c = true then b ρ s1 Q R else Q false s1) R
def jOr (a b : BJ) : BJ := fun ρ s Q R => a ρ s (fun c s1 => if c = true then Q true s1 else b ρ s1 Q R) R
def jAndV (a b : TJ) : TJ := fun ρ s Q R => a ρ s (fun x s1 => ∃ c, x = .bl c ∧ if c = true then b ρ s1 Q R else Q (.bl false) s1) R
def jOrV (a b : TJ) : TJ := fun ρ s Q R => a ρ s (fun x s1 => ∃ c, x = .bl c ∧ if c = true then Q (.bl true) s1 else b ρ s1 Q R) R
def jNotV (a : TJ) : TJ := fun ρ s Q R => a ρ s (fun x s1 => ∃ c, x = .bl c ∧ Q (.bl (!c)) s1) R
def jChain (r r' : J → J → Sto → QJ → Prop) (a b c : TJ) : TJ := fun ρ s Q R => a ρ s (fun x s1 => b ρ s1 (fun y s2 => r x y s2 fun z s3 => ∃ k, z = .bl k ∧ if k = true then c ρ s3 (fun w s4 => r' y w s4 Q) R else Q (.bl false) s3) R) R
def J.isN : J → Bool
  | .non => true
  | _ => false
def jIsN (a : TJ) : TJ := fun ρ s Q R => a ρ s (fun x s1 => Q (.bl x.isN) s1) R
def jNotN (a : TJ) : TJ := fun ρ s Q R => a ρ s (fun x s1 => Q (.bl (!x.isN)) s1) R
def jNil : AJ := fun _ s Q _ => Q [] s
def jCons (a : TJ) (b : AJ) : AJ := fun ρ s Q R => a ρ s (fun x s1 => b ρ s1 (fun xs s2 => Q (x :: xs) s2) R) R
def jTup (a : AJ) : TJ := fun ρ s Q R => a ρ s (fun xs s1 => xs.length ≤ 100000 ∧ Q (.tup xs) s1) R
/-- a new list, seen; one of the store -/
def jLst (a : AJ) : TJ := fun ρ s Q R => a ρ s (fun xs s1 => xs.length ≤ 100000 ∧ Q (.lst xs) s1) R
def jLstO (a : AJ) : TJ := fun ρ s Q R => a ρ s (fun xs s1 => xs.length ≤ 100000 ∧ ∀ p, s1 p = none → Q (.own p) (put s1 p (.lst xs))) R
def jDct0 : TJ := fun _ s Q _ => Q (.dct []) s
def jDct0O : TJ := fun _ s Q _ => ∀ p, s p = none → Q (.own p) (put s p (.dct []))
abbrev WJ := List J → Sto → QJ → XJ → Prop
def jCall (w : WJ) (dj : List J) (a : AJ) : TJ := fun ρ s Q R => a ρ s (fun ds s1 => w (ds ++ dj) s1 Q R) R
def jCB (r : List J → Sto → QJ → Prop) (a : AJ) : TJ := fun ρ s Q R => a ρ s (fun xs s1 => r xs s1 Q) R
/-! ### statements -/
def jSeq (a b : SJ) : SJ := fun D ρ s => a { D with nx := b D } ρ s
def jNext : SJ := fun D ρ s => D.nx ρ s
def jBreak : SJ := fun D ρ s => D.bk ρ s
def jCont : SJ := fun D ρ s => D.ct ρ s
def jRet (a : TJ) : SJ := fun D ρ s => a ρ s D.rt (D.xr ρ)
def jRetN : SJ := fun D _ s => D.rt .non s
def jDrop (a : TJ) : SJ := fun D ρ s => a ρ s (fun _ s1 => D.nx ρ s1) (D.xr ρ)
def jIfS (t : BJ) (a b : SJ) : SJ := fun D ρ s => t ρ s (fun c s1 => if c = true then a D ρ s1 else b D ρ s1) (D.xr ρ)
def jAsg (a : TJ) (g : GJ) : SJ := fun D ρ s => a ρ s (fun x s1 => g x ρ s1 D.nx) (D.xr ρ)
def jPar (i j : Nat) (a : AJ) : SJ := fun D ρ s => a ρ s (fun xs s1 => ∃ x y, xs = [x, y] ∧ D.nx ((ρ.set i (some x)).set j (some y)) s1) (D.xr ρ)
def jPar3 (i j l : Nat) (a : AJ) : SJ := fun D ρ s => a ρ s (fun xs s1 => ∃ x y z, xs = [x, y, z] ∧ D.nx (((ρ.set i (some x)).set j (some y)).set l (some z)) s1) (D.xr ρ)
def jWhile (t : BJ) (b : SJ) : SJ := fun D ρ s => ∃ (I : Rho → Sto → Prop) (μ : Rho → Sto → Nat), I ρ s ∧ ∀ ρ s, I ρ s →
  t ρ s (fun c s1 => if c = true then b { D with nx := fun ρ' s' => I ρ' s' ∧ μ ρ' s' < μ ρ s, ct := fun ρ' s' => I ρ' s' ∧ μ ρ' s' < μ ρ s, bk := D.nx } ρ s1 else D.nx ρ s1) (D.xr ρ)
def jgName (i : Nat) : GJ := fun d ρ s Q => Q (ρ.set i (some d)) s
def jgNil : GsJ := fun ds ρ s Q => ds = [] ∧ Q ρ s
def jgCons (g : GJ) (r : GsJ) : GsJ := fun ds ρ s Q => ∃ d ds', ds = d :: ds' ∧ g d ρ s fun ρ' s' => r ds' ρ' s' Q
def jgTup (k : Nat) (g : GsJ) : GJ := fun d ρ s Q => ∃ l, d = .tup l ∧ l.length = k ∧ g l ρ s Q
/-! ### they are right -/
section
variable {K : PySem.W.Frag} {W : WX} {ta tb tc te : TE} {pa pb pc pe : TJ} {tt tu : TT} {pt pu : BJ} {xa : TA} {qa : AJ} {t u s1 : TS} {q r : SJ} {g : TG} {gj : GJ} {gs : TGs} {gsj : GsJ} {i j : Nat} {v : V} {d : J}
theorem se_var : Se K W (tVar i) (jVar i) := by
  intro F ρ s σ H Q R QV a hQ _ h
  obtain ⟨d, e, q⟩ := h
  obtain ⟨v, e2, jp⟩ := a.rs.get e
  exact ⟨v, e2, hQ d s q v H .refl a.st jp⟩
theorem se_c (h : ∀ G, Jp K G v d) : Se K W (tC v) (jC d) := fun F ρ s σ H Q R QV a hQ _ q => hQ d s q v H .refl a.st (h _)
theorem se_op {r : R2} {rj : J → J → Sto → QJ → Prop} (ho : So K r rj) (ha : Se K W ta pa) (hb : Se K W tb pb) : Se K W (tOp r ta tb) (jOp rj pa pb) := by
  intro F ρ s σ H Q R QV a hQ hR h
  refine ha F ρ s σ H _ R _ a (fun x s1 h1 v1 H1 l1 st1 j1 => ?_) hR h
  refine hb F ρ s1 σ H1 _ R _ (a.to l1 st1) (fun y s2 h2 v2 H2 l2 st2 j2 => ?_) (fun c fs s' hr => (hR c fs s' hr).up l1) h1
  exact ho F s2 H2 v1 v2 x y Q QV st2 (j1.up l2) j2 (fun d s' q => (hQ d s' q).up (l1.trans l2)) h2
theorem se_un {r : V → Hp → VK → Prop} {rj : J → Sto → QJ → Prop} (ho : So1 K r rj) (ha : Se K W ta pa) : Se K W (tUn r ta) (jUn rj pa) := by
  intro F ρ s σ H Q R QV a hQ hR h
  refine ha F ρ s σ H _ R _ a (fun x s1 h1 v1 H1 l1 st1 j1 => ?_) hR h
  exact ho F s1 H1 v1 x Q QV st1 j1 (fun d s' q => (hQ d s' q).up l1) h1
theorem se_if (ht : Sb K W tt pt) (ha : Se K W ta pa) (hb : Se K W tb pb) : Se K W (tIf tt ta tb) (jIf pt pa pb) := by
  intro F ρ s σ H Q R QV a hQ hR h
  refine ht F ρ s σ H _ R _ a (fun c s1 h1 H1 l1 st1 => ?_) hR h
  cases c with
  | true => exact ha F ρ s1 σ H1 Q R QV (a.to l1 st1) (fun d s' q => (hQ d s' q).up l1) (fun c fs s' hr => (hR c fs s' hr).up l1) h1
  | false => exact hb F ρ s1 σ H1 Q R QV (a.to l1 st1) (fun d s' q => (hQ d s' q).up l1) (fun c fs s' hr => (hR c fs s' hr).up l1) h1
theorem sb_test (ha : Se K W ta pa) : Sb K W (tTest ta) (jTest pa) := by
  intro F ρ s σ H Q R QV a hQ hR h
  refine ha F ρ s σ H _ R _ a (fun x s1 h1 v1 H1 l1 st1 j1 => ?_) hR h
  obtain ⟨b, rfl, q⟩ := h1
  cases j1
  exact ⟨b, rfl, hQ b s1 q H1 l1 st1⟩
theorem sb_B (ha : Se K W ta pa) : Sb K W (tB ta) (jTest pa) := by
  intro F ρ s σ H Q R QV a hQ hR h
  refine ha F ρ s σ H _ R _ a (fun x s1 h1 v1 H1 l1 st1 j1 => ?_) hR h
  obtain ⟨b, rfl, q⟩ := h1
  cases j1
  exact ⟨b, rfl, hQ b s1 q H1 l1 st1⟩
theorem sb_not (ht : Sb K W tt pt) : Sb K W (tNot tt) (jNot pt) := by
  intro F ρ s σ H Q R QV a hQ hR h
  exact ht F ρ s σ H _ R _ a (fun c s1 h1 => hQ (!c) s1 h1) hR h
theorem sb_and (ht : Sb K W tt pt) (hu : Sb K W tu pu) : Sb K W (tAnd tt tu) (jAnd pt pu) := by
  intro F ρ s σ H Q R QV a hQ hR h
  refine ht F ρ s σ H _ R _ a (fun c s1 h1 H1 l1 st1 => ?_) hR h
  cases c with
  | true => exact hu F ρ s1 σ H1 Q R QV (a.to l1 st1) (fun d s' q => (hQ d s' q).up l1) (fun c fs s' hr => (hR c fs s' hr).up l1) h1
  | false => exact hQ false s1 h1 H1 l1 st1
theorem sb_or (ht : Sb K W tt pt) (hu : Sb K W tu pu) : Sb K W (tOr tt tu) (jOr pt pu) := by
  intro F ρ s σ H Q R QV a hQ hR h
  refine ht F ρ s σ H _ R _ a (fun c s1 h1 H1 l1 st1 => ?_) hR h
  cases c with
  | false => exact hu F ρ s1 σ H1 Q R QV (a.to l1 st1) (fun d s' q => (hQ d s' q).up l1) (fun c fs s' hr => (hR c fs s' hr).up l1) h1
  | true => exact hQ true s1 h1 H1 l1 st1
theorem se_andV (ha : Se K W ta pa) (hb : Se K W tb pb) : Se K W (tAndV ta tb) (jAndV pa pb) := by
  intro F ρ s σ H Q R QV a hQ hR h
  refine ha F ρ s σ H _ R _ a (fun x s1 h1 v1 H1 l1 st1 j1 => ?_) hR h
  obtain ⟨c, rfl, h1⟩ := h1
  cases j1
  refine ⟨c, rfl, ?_⟩
  cases c with
  | true => exact hb F ρ s1 σ H1 Q R QV (a.to l1 st1) (fun d s' q => (hQ d s' q).up l1) (fun c fs s' hr => (hR c fs s' hr).up l1) h1
  | false => exact hQ (.bl false) s1 h1 _ H1 l1 st1 (.bl _)
theorem se_orV (ha : Se K W ta pa) (hb : Se K W tb pb) : Se K W (tOrV ta tb) (jOrV pa pb) := by
  intro F ρ s σ H Q R QV a hQ hR h
  refine ha F ρ s σ H _ R _ a (fun x s1 h1 v1 H1 l1 st1 j1 => ?_) hR h
  obtain ⟨c, rfl, h1⟩ := h1
  cases j1
  refine ⟨c, rfl, ?_⟩
  cases c with
  | false => exact hb F ρ s1 σ H1 Q R QV (a.to l1 st1) (fun d s' q => (hQ d s' q).up l1) (fun c fs s' hr => (hR c fs s' hr).up l1) h1
  | true => exact hQ (.bl true) s1 h1 _ H1 l1 st1 (.bl _)
theorem se_notV (ha : Se K W ta pa) : Se K W (tNotV ta) (jNotV pa) := by
  intro F ρ s σ H Q R QV a hQ hR h
  refine ha F ρ s σ H _ R _ a (fun x s1 h1 v1 H1 l1 st1 j1 => ?_) hR h
  obtain ⟨c, rfl, h1⟩ := h1
  cases j1
  exact ⟨c, rfl, hQ _ s1 h1 _ H1 l1 st1 (.bl _)⟩
theorem se_chain {r r' : R2} {rj rj' : J → J → Sto → QJ → Prop} (ho : So K r rj) (ho' : So K r' rj') (ha : Se K W ta pa) (hb : Se K W tb pb) (hc : Se K W tc pc) : Se K W (tChain r r' ta tb tc) (jChain rj rj' pa pb pc) := by
  intro F ρ s σ H Q R QV a hQ hR h
  refine ha F ρ s σ H _ R _ a (fun x s1 h1 v1 H1 l1 st1 j1 => ?_) hR h
  refine hb F ρ s1 σ H1 _ R _ (a.to l1 st1) (fun y s2 h2 v2 H2 l2 st2 j2 => ?_) (fun c fs s' hr => (hR c fs s' hr).up l1) h1
  refine ho F s2 H2 v1 v2 x y _ _ st2 (j1.up l2) j2 (fun z s3 h3 v3 H3 l3 st3 j3 => ?_) h2
  obtain ⟨k, rfl, h3⟩ := h3
  cases j3
  refine ⟨k, rfl, ?_⟩
  have L := (l1.trans l2).trans l3
  cases k with
  | true =>
    refine hc F ρ s3 σ H3 _ R _ (a.to L st3) (fun w s4 h4 v4 H4 l4 st4 j4 => ?_) (fun c fs s' hr => (hR c fs s' hr).up L) h3
    exact ho' F s4 H4 v2 v4 y w Q QV st4 ((j2.up l3).up l4) j4 (fun d s' q => (hQ d s' q).up (L.trans l4)) h4
  | false => exact hQ _ s3 h3 _ H3 L st3 (.bl _)
theorem isN_of {G : Hp} {v : V} {d : J} (h : Jp K G v d) : decide (v = .non) = d.isN := by
  cases h <;> rfl
theorem se_isN (ha : Se K W ta pa) : Se K W (tIsN ta) (jIsN pa) := by
  intro F ρ s σ H Q R QV a hQ hR h
  refine ha F ρ s σ H _ R _ a (fun x s1 h1 v1 H1 l1 st1 j1 => ?_) hR h
  rw [isN_of j1]
  exact hQ _ s1 h1 _ H1 l1 st1 (.bl _)
theorem se_notN (ha : Se K W ta pa) : Se K W (tNotN ta) (jNotN pa) := by
  intro F ρ s σ H Q R QV a hQ hR h
  refine ha F ρ s σ H _ R _ a (fun x s1 h1 v1 H1 l1 st1 j1 => ?_) hR h
  rw [isN_of j1]
  exact hQ _ s1 h1 _ H1 l1 st1 (.bl _)
theorem sa_nil : Sa K W tNil jNil := fun F ρ s σ H Q R QV a hQ _ q => hQ [] s q [] H .refl a.st .nil
theorem sa_cons (ha : Se K W ta pa) (hb : Sa K W xa qa) : Sa K W (tCons ta xa) (jCons pa qa) := by
  intro F ρ s σ H Q R QV a hQ hR h
  refine ha F ρ s σ H _ R _ a (fun x s1 h1 v1 H1 l1 st1 j1 => ?_) hR h
  refine hb F ρ s1 σ H1 _ R _ (a.to l1 st1) (fun y s2 h2 v2 H2 l2 st2 j2 => ?_) (fun c fs s' hr => (hR c fs s' hr).up l1) h1
  exact hQ _ s2 h2 _ H2 (l1.trans l2) st2 (.cons (j1.up l2) j2)
theorem se_tup (ha : Sa K W xa qa) : Se K W (tTup xa) (jTup qa) := by
  intro F ρ s σ H Q R QV a hQ hR h
  refine ha F ρ s σ H _ R _ a (fun xs s1 h1 v1 H1 l1 st1 j1 => ?_) hR h
  refine ⟨by rw [j1.length]; exact Nat.le_trans h1.1 (by decide), fun p hp => ?_⟩
  obtain ⟨f1, f2⟩ := st1.fresh hp
  exact hQ _ s1 h1.2 _ _ (l1.trans (.new hp)) (st1.new hp) (.tup (.inl (.inl (by rw [mask_none f2 f1]; exact upd_same))) (j1.up (.new hp)))
theorem se_lst (ha : Sa K W xa qa) : Se K W (tLst xa) (jLst qa) := by
  intro F ρ s σ H Q R QV a hQ hR h
  refine ha F ρ s σ H _ R _ a (fun xs s1 h1 v1 H1 l1 st1 j1 => ?_) hR h
  refine ⟨by rw [j1.length]; exact Nat.le_trans h1.1 (by decide), fun p hp => ?_⟩
  obtain ⟨f1, f2⟩ := st1.fresh hp
  exact hQ _ s1 h1.2 _ _ (l1.trans (.new hp)) (st1.new hp) (.lst (by rw [mask_none f2 f1]; exact upd_same) (j1.up (.new hp)))
theorem se_lstO (ha : Sa K W xa qa) : Se K W (tLst xa) (jLstO qa) := by
  intro F ρ s σ H Q R QV a hQ hR h
  refine ha F ρ s σ H _ R _ a (fun xs s1 h1 v1 H1 l1 st1 j1 => ?_) hR h
  refine ⟨by rw [j1.length]; exact Nat.le_trans h1.1 (by decide), fun p hp => ?_⟩
  exact hQ _ _ (h1.2 p (st1.fresh hp).1) _ _ (l1.trans (.newO hp)) (st1.newO (o := .lst xs) hp j1) (.own p)
theorem se_dct0 : Se K W tDNewK jDct0 := by
  intro F ρ s σ H Q R QV a hQ hR h p hp
  obtain ⟨f1, f2⟩ := a.st.fresh hp
  exact hQ _ s h _ _ (.new hp) (a.st.new hp) (.dct (by rw [mask_none f2 f1]; exact upd_same) rfl .nil)
theorem se_dct0O : Se K W tDNewK jDct0O := by
  intro F ρ s σ H Q R QV a hQ hR h p hp
  exact hQ _ _ (h p (a.st.fresh hp).1) _ _ (.newO hp) (a.st.newO (o := .dct []) hp (show Jpd K _ [] [] from .nil)) (.own p)
theorem se_cb {r : List V → Hp → VK → Prop} {rj : List J → Sto → QJ → Prop} (ho : Sf K r rj) (ha : Sa K W xa qa) : Se K W (tCB r xa) (jCB rj qa) := by
  intro F ρ s σ H Q R QV a hQ hR h
  refine ha F ρ s σ H _ R _ a (fun xs s1 h1 v1 H1 l1 st1 j1 => ?_) hR h
  exact ho F s1 H1 v1 xs Q QV st1 j1 (fun d s' q => (hQ d s' q).up l1) h1
theorem ss_seq (ha : Ss K W t q) (hb : Ss K W u r) : Ss K W (tSeq t u) (jSeq q r) := by
  intro F D DV ρ s σ H a e h
  exact ha F { D with nx := r D } _ ρ s σ H a ⟨fun ρ' s' σ' H' h' l' a' => hb F D DV ρ' s' σ' H' a' (e.up l') h', e.rt, e.bk, e.ct, e.xr⟩ h
theorem ss_next : Ss K W tNext jNext := fun F D DV ρ s σ H a e h => e.nx ρ s σ H h .refl a
theorem ss_break : Ss K W tBreak jBreak := fun F D DV ρ s σ H a e h => e.bk ρ s σ H h .refl a
theorem ss_cont : Ss K W tCont jCont := fun F D DV ρ s σ H a e h => e.ct ρ s σ H h .refl a
theorem er_x {F G : Hp} {D : EJ} {DV : Ends} {ρ : Rho} {s : Sto} {σ : L2.St} {H : Hp} (a : At K F ρ s σ H) (e : Er K F W (mask F s H) D DV) : ∀ c fs s', D.xr ρ c fs s' → Xk K F (mask F s H) (fun cl d H' => W cl d σ H') c fs s' :=
  fun c fs s' hr d H' l st x => e.xr ρ c fs s' σ hr d H' l (a.to l st) x
theorem ss_ret (ha : Se K W ta pa) : Ss K W (tRet ta) (jRet pa) := fun F D DV ρ s σ H a e h => ha F ρ s σ H _ _ _ a e.rt (er_x (G := H) a e) h
theorem ss_retN : Ss K W tRetN jRetN := fun F D DV ρ s σ H a e h => e.rt .non s h _ H .refl a.st .non
theorem ss_drop (ha : Se K W ta pa) : Ss K W (tDrop ta) (jDrop pa) := fun F D DV ρ s σ H a e h =>
  ha F ρ s σ H _ _ _ a (fun d s1 h1 v H1 l1 st1 _ => e.nx ρ s1 σ H1 h1 l1 (a.to l1 st1)) (er_x (G := H) a e) h
theorem ss_if (ht : Sb K W tt pt) (ha : Ss K W t q) (hb : Ss K W u r) : Ss K W (tIfS tt t u) (jIfS pt q r) := by
  intro F D DV ρ s σ H a e h
  refine ht F ρ s σ H _ _ _ a (fun c s1 h1 H1 l1 st1 => ?_) (er_x (G := H) a e) h
  cases c with
  | true => exact ha F D DV ρ s1 σ H1 (a.to l1 st1) (e.up l1) h1
  | false => exact hb F D DV ρ s1 σ H1 (a.to l1 st1) (e.up l1) h1
theorem ss_asg (ha : Se K W ta pa) (hg : Sg K g gj) : Ss K W (tAsg ta g) (jAsg pa gj) := by
  intro F D DV ρ s σ H a e h
  refine ha F ρ s σ H _ _ _ a (fun x s1 h1 v1 H1 l1 st1 j1 => ?_) (er_x (G := H) a e) h
  exact hg F v1 x ρ s1 σ H1 _ _ (a.to l1 st1) j1 (fun ρ' s' h' σ' H' l' a' => e.nx ρ' s' σ' H' h' (l1.trans l') a') h1
theorem ss_par (ha : Sa K W xa qa) : Ss K W (tPar i j xa) (jPar i j qa) := by
  intro F D DV ρ s σ H a e h
  refine ha F ρ s σ H _ _ _ a (fun xs s1 h1 v1 H1 l1 st1 j1 => ?_) (er_x (G := H) a e) h
  obtain ⟨x, y, rfl, h1⟩ := h1
  cases j1 with | cons jx j1 =>
  cases j1 with | cons jy j1 =>
  cases j1
  exact ⟨_, _, rfl, e.nx _ s1 _ H1 h1 l1 ⟨((a.rs.up l1).set i jx).set j jy, st1⟩⟩
theorem ss_par3 {l : Nat} (ha : Sa K W xa qa) : Ss K W (tPar3 i j l xa) (jPar3 i j l qa) := by
  intro F D DV ρ s σ H a e h
  refine ha F ρ s σ H _ _ _ a (fun xs s1 h1 v1 H1 l1 st1 j1 => ?_) (er_x (G := H) a e) h
  obtain ⟨x, y, z, rfl, h1⟩ := h1
  cases j1 with | cons jx j1 =>
  cases j1 with | cons jy j1 =>
  cases j1 with | cons jz j1 =>
  cases j1
  exact ⟨_, _, _, rfl, e.nx _ s1 _ H1 h1 l1 ⟨(((a.rs.up l1).set i jx).set j jy).set l jz, st1⟩⟩
theorem ss_while (ht : Sb K W tt pt) (hb : Ss K W t q) : Ss K W (tWhile tt t) (jWhile pt q) := by
  intro F D DV ρ s σ H a e h
  obtain ⟨I, μ, h0, hs⟩ := h
  refine ⟨fun m σ' H' => ∃ ρ' s', m = μ ρ' s' ∧ I ρ' s' ∧ Le (mask F s H) (mask F s' H') ∧ At K F ρ' s' σ' H', ⟨_, ρ, s, rfl, h0, .refl, a⟩, ?_⟩
  rintro m σ1 H1 ⟨ρ1, s1, rfl, i1, l1, a1⟩
  refine ht F ρ1 s1 σ1 H1 _ _ _ a1 (fun c s2 h2 H2 l2 st2 => ?_) (er_x (G := H) a1 (e.up l1)) (hs ρ1 s1 i1)
  have L := l1.trans l2
  cases c with
  | true =>
    refine ⟨fun σ' H' => ∃ ρ' s', μ ρ' s' < μ ρ1 s1 ∧ I ρ' s' ∧ Le (mask F s H) (mask F s' H') ∧ At K F ρ' s' σ' H', ?_, ?_⟩
    · rintro σ' H' ⟨ρ', s', m', i', l', a'⟩
      exact ⟨_, m', ρ', s', rfl, i', l', a'⟩
    · refine hb F { D with nx := fun ρ' s' => I ρ' s' ∧ μ ρ' s' < μ ρ1 s1, ct := fun ρ' s' => I ρ' s' ∧ μ ρ' s' < μ ρ1 s1, bk := D.nx } _ ρ1 s2 σ1 H2 (a1.to l2 st2) ⟨?_, fun d s h => (e.rt d s h).up L, ?_, ?_, (e.up L).xr⟩ h2
      · rintro ρ' s' σ' H' ⟨i', m'⟩ l' a'
        exact ⟨ρ', s', m', i', L.trans l', a'⟩
      · intro ρ' s' σ' H' h' l' a'
        exact e.nx ρ' s' σ' H' h' (L.trans l') a'
      · rintro ρ' s' σ' H' ⟨i', m'⟩ l' a'
        exact ⟨ρ', s', m', i', L.trans l', a'⟩
  | false => exact e.nx ρ1 s2 σ1 H2 h2 L (a1.to l2 st2)
theorem sg_name : Sg K (gName i) (jgName i) := fun F v d ρ s σ H Q QV a j hQ q => hQ _ s q _ H .refl ⟨a.rs.set i j, a.st⟩
theorem sgs_nil : Sgs K gNil jgNil := by
  intro F v d ρ s σ H Q QV a j hQ q
  obtain ⟨rfl, q⟩ := q
  cases j
  exact ⟨rfl, hQ ρ s q σ H .refl a⟩
theorem sgs_cons (hg : Sg K g gj) (hr : Sgs K gs gsj) : Sgs K (gCons g gs) (jgCons gj gsj) := by
  intro F v d ρ s σ H Q QV a j hQ q
  obtain ⟨d1, ds, rfl, q⟩ := q
  cases j with | cons j1 j =>
  refine ⟨_, _, rfl, hg F _ d1 ρ s σ H _ _ a j1 (fun ρ' s' h' σ' H' l' a' => ?_) q⟩
  exact hr F _ ds ρ' s' σ' H' Q QV a' (j.up l') (fun ρ2 s2 h2 σ2 H2 l2 a2 => hQ ρ2 s2 h2 σ2 H2 (l'.trans l2) a2) h'
theorem sg_tup {k : Nat} (hr : Sgs K gs gsj) : Sg K (gTup K k gs) (jgTup k gsj) := by
  intro F v d ρ s σ H Q QV a j hQ q
  obtain ⟨l, rfl, e, q⟩ := q
  cases j with | tup t j =>
  refine ⟨_, _, rfl, ?_, by rw [j.length]; exact e, hr F _ l ρ s σ H Q QV a j hQ q⟩
  exact sqt_mask t
end
end M

namespace M
open PySem PySem.Spec PyProof.Rows L2
/-! ## what is walked -/
structure ItJ where
  items : List J
  st : Sto → Prop
abbrev IJ := Rho → Sto → (ItJ → Sto → Prop) → XJ → Prop
def ItRel (K : PySem.W.Frag) (G : Hp) (I : ItJ) (Jt : It) : Prop := ∀ (F : Hp) (i : Nat) (s : Sto) (H : Hp), Le G (mask F s H) → Stt K F s H → I.st s →
  (i < I.items.length → Jt.go i H ∧ ∀ x H', Jt.yld i H x H' → Le (mask F s H) (mask F s H') ∧ Stt K F s H' ∧ ∃ d, I.items[i]? = some d ∧ Jp K (mask F s H') x d) ∧ (i = I.items.length → Jt.stop i H)
def Si (K : PySem.W.Frag) (W : WX) (t : TI) (p : IJ) : Prop := ∀ (F : Hp) (ρ : Rho) (s : Sto) (σ : L2.St) (H : Hp) (Q : ItJ → Sto → Prop) (R : XJ) (QV : It → Hp → Prop), At K F ρ s σ H →
  (∀ I s', Q I s' → ∀ Jt H', Le (mask F s H) (mask F s' H') → Stt K F s' H' → ItRel K (mask F s' H') I Jt → QV Jt H') →
  (∀ c fs s', R c fs s' → Xk K F (mask F s H) (fun cl d H' => W cl d σ H') c fs s') → p ρ s Q R → t σ H QV
theorem ItRel.up {K : PySem.W.Frag} {G G' : Hp} {I : ItJ} {Jt : It} (h : ItRel K G I Jt) (l : Le G G') : ItRel K G' I Jt := fun F i s H l' t q => h F i s H (l.trans l') t q
def forJ (st : Sto → Prop) (g : GJ) (b : SJ) (D : EJ) : List J → Rho → Sto → Prop
  | [], ρ, s => st s ∧ D.nx ρ s
  | x :: l, ρ, s => st s ∧ g x ρ s fun ρ' s' => b { D with nx := forJ st g b D l, ct := forJ st g b D l, bk := D.nx } ρ' s'
def jFor (p : IJ) (g : GJ) (b : SJ) : SJ := fun D ρ s => p ρ s (fun I s1 => forJ I.st g b D I.items ρ s1) (D.xr ρ)
def wipeJ (ρ : Rho) : List Nat → Rho
  | [] => ρ
  | v :: vs => (wipeJ ρ vs).set v none
def lcJ (st : Sto → Prop) (g : GJ) (tt : BJ) (te : TJ) (ρ : Rho) (Q : List J → Sto → Prop) : List J → List J → Sto → Prop
  | [], acc, s => st s ∧ Q acc s
  | x :: l, acc, s => st s ∧ g x ρ s fun ρ2 s2 => tt ρ2 s2 (fun b s3 => if b = true then te ρ2 s3 (fun y s4 => acc.length < 100000 ∧ lcJ st g tt te ρ Q l (acc ++ [y]) s4) No else lcJ st g tt te ρ Q l acc s3) No
def jLc (p : IJ) (g : GJ) (tt : BJ) (te : TJ) (vs : List Nat) : TJ := fun ρ s Q R => p ρ s (fun I s1 => lcJ I.st g tt te (wipeJ ρ vs) (fun acc s2 => Q (.lst acc) s2) I.items [] s1) R
def jLcO (p : IJ) (g : GJ) (tt : BJ) (te : TJ) (vs : List Nat) : TJ := fun ρ s Q R => p ρ s (fun I s1 => lcJ I.st g tt te (wipeJ ρ vs) (fun acc s2 => ∀ p, s2 p = none → Q (.own p) (put s2 p (.lst acc))) I.items [] s1) R
def Sgw (K : PySem.W.Frag) (vs : List Nat) (g : TG) (gj : GJ) : Prop := ∀ (F : Hp) (v : V) (d : J) (ρ : Rho) (s : Sto) (σ : L2.St) (H : Hp) (Q : Rho → Sto → Prop) (QV : L2.St → Hp → Prop), At K F ρ s σ H → Jp K (mask F s H) v d →
  (∀ ρ' s', Q ρ' s' → ∀ σ' H', Le (mask F s H) (mask F s' H') → At K F ρ' s' σ' H' → wipe σ' vs = wipe σ vs → QV σ' H') → gj d ρ s Q → g v σ H QV
def Sgsw (K : PySem.W.Frag) (vs : List Nat) (g : TGs) (gj : GsJ) : Prop := ∀ (F : Hp) (v : List V) (d : List J) (ρ : Rho) (s : Sto) (σ : L2.St) (H : Hp) (Q : Rho → Sto → Prop) (QV : L2.St → Hp → Prop), At K F ρ s σ H → Jps K (mask F s H) v d →
  (∀ ρ' s', Q ρ' s' → ∀ σ' H', Le (mask F s H) (mask F s' H') → At K F ρ' s' σ' H' → wipe σ' vs = wipe σ vs → QV σ' H') → gj d ρ s Q → g v σ H QV
theorem wipe_set0 {σ : L2.St} {i : Nat} {x : Option V} : ∀ vs : List Nat, (wipe (σ.set i x) vs).set i none = (wipe σ vs).set i none
  | [] => by
    show (σ.set i x).set i none = σ.set i none
    rw [List.set_set]
  | v :: vs => by
    show ((wipe (σ.set i x) vs).set v none).set i none = ((wipe σ vs).set v none).set i none
    by_cases e : v = i
    · rw [e, List.set_set, List.set_set, wipe_set0 vs]
    · rw [List.set_comm _ _ e, wipe_set0 vs, List.set_comm _ _ (Ne.symm e)]
theorem wipe_set {σ : L2.St} {i : Nat} {x : Option V} : ∀ {vs : List Nat}, i ∈ vs → wipe (σ.set i x) vs = wipe σ vs
  | v :: vs, h => by
    show (wipe (σ.set i x) vs).set v none = (wipe σ vs).set v none
    rcases List.mem_cons.mp h with e | h
    · subst e
      exact wipe_set0 vs
    · rw [wipe_set h]
theorem Rs.wipe {K : PySem.W.Frag} {G : Hp} {σ : L2.St} {ρ : Rho} (h : Rs K G σ ρ) : ∀ vs, Rs K G (L2.wipe σ vs) (wipeJ ρ vs)
  | [] => h
  | v :: vs => (Rs.wipe h vs).set0 v
section
variable {K : PySem.W.Frag} {W : WX} {ta te : TE} {pa pe : TJ} {tt : TT} {pt : BJ} {xa : TA} {qa : AJ} {t : TS} {q : SJ} {g : TG} {gj : GJ} {gs : TGs} {gsj : GsJ} {ti : TI} {pi : IJ} {i : Nat} {vs : List Nat}
theorem sgw_name (h : i ∈ vs) : Sgw K vs (gName i) (jgName i) := fun F v d ρ s σ H Q QV a j hQ q => hQ _ s q _ H .refl ⟨a.rs.set i j, a.st⟩ (wipe_set h)
theorem sgsw_nil : Sgsw K vs gNil jgNil := by
  intro F v d ρ s σ H Q QV a j hQ q
  obtain ⟨rfl, q⟩ := q
  cases j
  exact ⟨rfl, hQ ρ s q σ H .refl a rfl⟩
theorem sgsw_cons (hg : Sgw K vs g gj) (hr : Sgsw K vs gs gsj) : Sgsw K vs (gCons g gs) (jgCons gj gsj) := by
  intro F v d ρ s σ H Q QV a j hQ q
  obtain ⟨d1, ds, rfl, q⟩ := q
  cases j with | cons j1 j =>
  refine ⟨_, _, rfl, hg F _ d1 ρ s σ H _ _ a j1 (fun ρ' s' h' σ' H' l' a' w' => ?_) q⟩
  exact hr F _ ds ρ' s' σ' H' Q QV a' (j.up l') (fun ρ2 s2 h2 σ2 H2 l2 a2 w2 => hQ ρ2 s2 h2 σ2 H2 (l'.trans l2) a2 (w2.trans w')) h'
theorem sgw_tup {k : Nat} (hr : Sgsw K vs gs gsj) : Sgw K vs (gTup K k gs) (jgTup k gsj) := by
  intro F v d ρ s σ H Q QV a j hQ q
  obtain ⟨l, rfl, e, q⟩ := q
  cases j with | tup t j =>
  exact ⟨_, _, rfl, sqt_mask t, by rw [j.length]; exact e, hr F _ l ρ s σ H Q QV a j hQ q⟩
theorem forJ_st {st : Sto → Prop} {b : SJ} {D : EJ} {l : List J} {ρ : Rho} {s : Sto} (h : forJ st gj b D l ρ s) : st s := by
  cases l <;> exact h.1
theorem ss_for (hi : Si K W ti pi) (hg : Sg K g gj) (hb : Ss K W t q) : Ss K W (tFor ti g t) (jFor pi gj q) := by
  intro F D DV ρ s σ H a e h
  refine hi F ρ s σ H _ _ _ a (fun I s1 h1 Jt H1 l1 st1 it => ?_) (er_x (G := H) a e) h
  have e1 := e.up l1
  refine ⟨fun i m σ' H' => m = I.items.length - i ∧ i ≤ I.items.length ∧ ∃ ρ' s', Le (mask F s1 H1) (mask F s' H') ∧ At K F ρ' s' σ' H' ∧ forJ I.st gj q D (I.items.drop i) ρ' s', ⟨_, rfl, Nat.zero_le _, ρ, s1, .refl, a.to l1 st1, h1⟩, ?_⟩
  rintro i m σ2 H2 ⟨rfl, hi, ρ2, s2, l2, a2, h2⟩
  have z := it F i s2 H2 l2 a2.st (forJ_st h2)
  by_cases hlt : i < I.items.length
  · have dr : I.items.drop i = I.items[i] :: I.items.drop (i + 1) := (List.drop_eq_getElem_cons hlt)
    rw [dr] at h2
    obtain ⟨go, yl⟩ := z.1 hlt
    refine .inr ⟨go, fun σ' H' => i + 1 ≤ I.items.length ∧ ∃ ρ' s', Le (mask F s1 H1) (mask F s' H') ∧ At K F ρ' s' σ' H' ∧ forJ I.st gj q D (I.items.drop (i + 1)) ρ' s', fun σ' H' p => ⟨I.items.length - (i + 1), by omega, rfl, p.1, p.2⟩, fun x H3 y => ?_⟩
    obtain ⟨l3, st3, d, ed, jd⟩ := yl x H3 y
    rw [List.getElem?_eq_getElem hlt] at ed
    cases ed
    refine hg F x _ ρ2 s2 σ2 H3 _ _ (a2.to l3 st3) jd (fun ρ4 s4 h4 σ4 H4 l4 a4 => ?_) h2.2
    have L := (l2.trans l3).trans l4
    refine hb F { D with nx := forJ I.st gj q D (I.items.drop (i + 1)), ct := forJ I.st gj q D (I.items.drop (i + 1)), bk := D.nx } _ ρ4 s4 σ4 H4 a4 ⟨?_, fun d s h => (e1.rt d s h).up L, ?_, ?_, (e1.up L).xr⟩ h4
    · intro ρ' s' σ' H' h' l' a'
      exact ⟨hlt, ρ', s', L.trans l', a', h'⟩
    · intro ρ' s' σ' H' h' l' a'
      exact e1.nx ρ' s' σ' H' h' (L.trans l') a'
    · intro ρ' s' σ' H' h' l' a'
      exact ⟨hlt, ρ', s', L.trans l', a', h'⟩
  · have q : i = I.items.length := by omega
    subst q
    rw [List.drop_length] at h2
    exact .inl ⟨z.2 rfl, e1.nx ρ2 s2 σ2 H2 h2.2 l2 a2⟩
/-! ### a hidden list -/
theorem upd_none {F : Hp} {D a : Addr} {o : HO} (h : upd F D o a = none) : a ≠ D ∧ F a = none := by
  by_cases e : a = D
  · subst e
    rw [upd_same] at h
    cases h
  · rw [upd_ne e] at h
    exact ⟨e, h⟩
theorem mask_hid {F : Hp} {s : Sto} {H : Hp} {D : Addr} {o u : HO} : mask (upd F D o) s (upd H D u) = mask (upd F D o) s H := by
  funext b
  unfold mask
  by_cases e : b = D
  · subst e
    rw [upd_same]
  · rw [upd_ne e, upd_ne e]
theorem mask_hid2 {F : Hp} {s : Sto} {H : Hp} {D : Addr} {o u : HO} : mask (upd F D o) s H = mask (upd F D u) s H := by
  funext b
  unfold mask
  by_cases e : b = D
  · subst e
    rw [upd_same, upd_same]
  · rw [upd_ne e, upd_ne e]
theorem Le.hid {F : Hp} {s : Sto} {H : Hp} {D : Addr} {o : HO} (e : H D = none) : Le (mask F s H) (mask (upd F D o) s (upd H D o)) := fun a u q => by
  obtain ⟨h1, h2, h3⟩ := of_mask q
  have n := ne_of_none h3 e
  exact ⟨u, by rw [mask_none (by rw [upd_ne n]; exact h1) h2, upd_ne n]; exact h3, rfl⟩
theorem Stt.hid {F : Hp} {s : Sto} {H : Hp} {D : Addr} {o : HO} (t : Stt K F s H) (e : H D = none) : Stt K (upd F D o) s (upd H D o) := by
  refine ⟨fun a u q => ?_, fun a u q => ?_⟩
  · obtain ⟨h1, h, h3, h4⟩ := t.sk a u q
    have n := ne_of_none h3 e
    exact ⟨by rw [upd_ne n]; exact h1, h, by rw [upd_ne n]; exact h3, h4.up (Le.hid e)⟩
  · by_cases n : a = D
    · subst n
      rw [upd_same] at q ⊢
      exact q
    · rw [upd_ne n] at q ⊢
      exact t.fr a u q
theorem Stt.hidW {F : Hp} {s : Sto} {H : Hp} {D : Addr} {o u : HO} (t : Stt K (upd F D o) s H) : Stt K (upd F D u) s (upd H D u) := by
  refine ⟨fun a v q => ?_, fun a v q => ?_⟩
  · obtain ⟨h1, h, h3, h4⟩ := t.sk a v q
    obtain ⟨n, h1⟩ := upd_none h1
    refine ⟨by rw [upd_ne n]; exact h1, h, by rw [upd_ne n]; exact h3, ?_⟩
    rw [mask_hid, mask_hid2 (o := u) (u := o)]
    exact h4
  · by_cases n : a = D
    · subst n
      rw [upd_same] at q ⊢
      exact q
    · rw [upd_ne n] at q ⊢
      exact t.fr a v (by rw [upd_ne n]; exact q)
theorem Le.hidOut {F : Hp} {s : Sto} {H : Hp} {D : Addr} {o : HO} : Le (mask (upd F D o) s H) (mask F s H) := fun a u q => by
  obtain ⟨h1, h2, h3⟩ := of_mask q
  exact ⟨u, by rw [mask_none (upd_none h1).2 h2]; exact h3, rfl⟩
theorem Stt.hidOut {F : Hp} {s : Sto} {H : Hp} {D : Addr} {o : HO} (t : Stt K (upd F D o) s H) (e : F D = none) : Stt K F s H ∧ s D = none ∧ H D = some o := by
  refine ⟨⟨fun a u q => ?_, fun a u q => ?_⟩, ?_, t.fr D o upd_same⟩
  · obtain ⟨h1, h, h3, h4⟩ := t.sk a u q
    exact ⟨(upd_none h1).2, h, h3, h4.up .hidOut⟩
  · have n : a ≠ D := fun z => by rw [z, e] at q; cases q
    exact t.fr a u (by rw [upd_ne n]; exact q)
  · cases z : s D with
    | none => rfl
    | some o =>
      have := (t.sk D o z).1
      rw [upd_same] at this
      cases this
theorem Le.hidOwn {F : Hp} {s : Sto} {H : Hp} {D : Addr} {o : HO} {u : O} : Le (mask (upd F D o) s H) (mask F (put s D u) H) := fun a v q => by
  obtain ⟨h1, h2, h3⟩ := of_mask q
  obtain ⟨n, h1⟩ := upd_none h1
  exact ⟨v, by rw [mask_none h1 (by rw [put_ne n]; exact h2)]; exact h3, rfl⟩
theorem Stt.hidOwn {F : Hp} {s : Sto} {H : Hp} {D : Addr} {o : HO} {u : O} (t : Stt K (upd F D o) s H) (e : F D = none) (w : Oh K (mask (upd F D o) s H) o u) : Stt K F (put s D u) H := by
  refine ⟨fun a v q => ?_, (t.hidOut e).1.fr⟩
  by_cases n : a = D
  · subst n
    rw [put_same] at q
    cases q
    exact ⟨e, o, t.fr _ o upd_same, w.up .hidOwn⟩
  · rw [put_ne n] at q
    obtain ⟨h1, h, h3, h4⟩ := t.sk a v q
    exact ⟨(upd_none h1).2, h, h3, h4.up .hidOwn⟩
theorem lcJ_st {st : Sto → Prop} {ρ : Rho} {Q : List J → Sto → Prop} {l acc : List J} {s : Sto} (h : lcJ st gj pt pe ρ Q l acc s) : st s := by
  cases l <;> exact h.1
theorem lc_core {F : Hp} {ρ : Rho} {s : Sto} {σ : L2.St} {H : Hp} {Q : List J → Sto → Prop} {R : XJ} {QV : VK} (hi : Si K W ti pi) (hg : Sgw K vs g gj) (ht : Sb K W0 tt pt) (he : Se K W0 te pe) (a : At K F ρ s σ H)
    (hQ : ∀ acc s', Q acc s' → ∀ D xs H', F D = none → Le (mask F s H) (mask (upd F D (.lst xs)) s' H') → Stt K (upd F D (.lst xs)) s' H' → Jps K (mask (upd F D (.lst xs)) s' H') xs acc → QV (.ref D) H')
    (hR : ∀ c fs s', R c fs s' → Xk K F (mask F s H) (fun cl d H' => W cl d σ H') c fs s') (h : pi ρ s (fun I s1 => lcJ I.st gj pt pe (wipeJ ρ vs) Q I.items [] s1) R) : tLc ti g tt te vs σ H QV := by
  refine hi F ρ s σ H _ R _ a (fun I s1 h1 Jt H1 l1 st1 it D hD => ?_) hR h
  have fD := (st1.fresh hD).2
  refine ⟨fun i m H' => m = I.items.length - i ∧ i ≤ I.items.length ∧ ∃ acc s' xs, Le (mask F s1 H1) (mask (upd F D (.lst xs)) s' H') ∧ Stt K (upd F D (.lst xs)) s' H' ∧ Jps K (mask (upd F D (.lst xs)) s' H') xs acc ∧ lcJ I.st gj pt pe (wipeJ ρ vs) Q (I.items.drop i) acc s',
    ⟨_, rfl, Nat.zero_le _, [], s1, [], .hid hD, st1.hid hD, .nil, h1⟩, ?_⟩
  rintro i m H2 ⟨rfl, hi, acc, s2, xs, l2, st2, j2, h2⟩
  have z := it _ i s2 H2 l2 st2 (lcJ_st h2)
  by_cases hlt : i < I.items.length
  · have dr : I.items.drop i = I.items[i] :: I.items.drop (i + 1) := (List.drop_eq_getElem_cons hlt)
    rw [dr] at h2
    obtain ⟨go, yl⟩ := z.1 hlt
    refine .inr ⟨go, fun H' => i + 1 ≤ I.items.length ∧ ∃ acc s' xs, Le (mask F s1 H1) (mask (upd F D (.lst xs)) s' H') ∧ Stt K (upd F D (.lst xs)) s' H' ∧ Jps K (mask (upd F D (.lst xs)) s' H') xs acc ∧ lcJ I.st gj pt pe (wipeJ ρ vs) Q (I.items.drop (i + 1)) acc s',
      fun H' p => ⟨I.items.length - (i + 1), by omega, rfl, p.1, p.2⟩, fun x H3 y => ?_⟩
    obtain ⟨l3, st3, d, ed, jd⟩ := yl x H3 y
    rw [List.getElem?_eq_getElem hlt] at ed
    cases ed
    have a3 : At K (upd F D (.lst xs)) (wipeJ ρ vs) s2 (wipe σ vs) H3 := ⟨(a.rs.wipe vs).up ((l1.trans l2).trans l3), st3⟩
    refine hg _ x _ _ s2 _ H3 _ _ a3 jd (fun ρ4 s4 h4 σ4 H4 l4 a4 w4 => ?_) h2.2
    refine ⟨w4.trans (by
      have : ∀ ws : List Nat, (∀ i ∈ ws, i ∈ vs) → wipe (wipe σ ws) vs = wipe σ vs := fun ws hw => by
        induction ws with
        | nil => rfl
        | cons i ws ih =>
          show wipe ((wipe σ ws).set i none) vs = wipe σ vs
          rw [wipe_set (hw i List.mem_cons_self)]
          exact ih fun j hj => hw j (List.mem_cons_of_mem _ hj)
      exact this vs fun _ h => h), ?_⟩
    refine ht _ ρ4 s4 σ4 H4 _ No _ a4 (fun b s5 h5 H5 l5 st5 => ?_) (fun _ _ _ z => z.elim) h4
    have L5 := ((l2.trans l3).trans l4).trans l5
    cases b with
    | true =>
      refine he _ ρ4 s5 σ4 H5 _ No _ (a4.to l5 st5) (fun y s6 h6 v6 H6 l6 st6 j6 => ?_) (fun _ _ _ z => z.elim) h5
      have j7 := ((((j2.up l3).up l4).up l5).up l6).append (.cons j6 .nil)
      refine ⟨xs, st6.fr D _ upd_same, by rw [j2.length]; exact Nat.lt_of_lt_of_le h6.1 (by decide), hlt, _, s6, xs ++ [v6], ?_, st6.hidW, ?_, h6.2⟩
      · rw [mask_hid, mask_hid2 (u := .lst xs)]
        exact L5.trans l6
      · rw [mask_hid, mask_hid2 (u := .lst xs)]
        exact j7
    | false => exact ⟨hlt, acc, s5, xs, L5, st5, ((j2.up l3).up l4).up l5, h5⟩
  · have q : i = I.items.length := by omega
    subst q
    rw [List.drop_length] at h2
    exact .inl ⟨z.2 rfl, hQ acc s2 h2.2 D xs H2 fD (l1.trans l2) st2 j2⟩
theorem se_lc (hi : Si K W ti pi) (hg : Sgw K vs g gj) (ht : Sb K W0 tt pt) (he : Se K W0 te pe) : Se K W (tLc ti g tt te vs) (jLc pi gj pt pe vs) := by
  intro F ρ s σ H Q R QV a hQ hR h
  refine lc_core hi hg ht he a (fun acc s' q D xs H' fD l st j => ?_) hR h
  obtain ⟨st2, e1, e2⟩ := st.hidOut fD
  exact hQ _ s' q _ H' (l.trans .hidOut) st2 (.lst (by rw [mask_none fD e1]; exact e2) (j.up .hidOut))
theorem se_lcO (hi : Si K W ti pi) (hg : Sgw K vs g gj) (ht : Sb K W0 tt pt) (he : Se K W0 te pe) : Se K W (tLc ti g tt te vs) (jLcO pi gj pt pe vs) := by
  intro F ρ s σ H Q R QV a hQ hR h
  refine lc_core hi hg ht he a (fun acc s' q D xs H' fD l st j => ?_) hR h
  exact hQ _ _ (q D (st.hidOut fD).2.1) _ H' (l.trans .hidOwn) (st.hidOwn (u := .lst acc) fD j) (.own D)
def jYes : BJ := fun _ s Q _ => Q true s
theorem sb_yes : Sb K W tYes jYes := fun F ρ s σ H Q R QV a hQ _ q => hQ true s q H .refl a.st
/-! ### iterables -/
/-- a list's items: seen or of the store -/
def lstOf (s : Sto) : J → Option (List J)
  | .lst l => some l
  | .own a => match s a with
    | some (.lst l) => some l
    | _ => none
  | .scr l => some (l.map J.int)
  | _ => none
theorem jp_list {F : Hp} {s : Sto} {H : Hp} {v : V} {d : J} {l : List J} (t : Stt K F s H) (j : Jp K (mask F s H) v d) (e : lstOf s d = some l) : ∃ a xs, v = .ref a ∧ SqL K H a xs ∧ Jps K (mask F s H) xs l := by
  cases j with
  | lst h r => cases e; exact ⟨_, _, rfl, .inl (.inl (of_mask h).2.2), r⟩
  | own a =>
    unfold lstOf at e
    dsimp only at e
    split at e
    · rename_i l' q
      cases e
      obtain ⟨xs, h, r⟩ := t.lst q
      exact ⟨_, _, rfl, .inl (.inl h), r⟩
    · cases e
  | scr h =>
    cases e
    refine ⟨_, _, rfl, sql_mask h, ?_⟩
    rename_i a l
    clear h
    induction l with
    | nil => exact .nil
    | cons i l ih => exact .cons (.int i) ih
  | _ => cases e
/-- as a list that may be read exactly -/
def lstX (s : Sto) : J → Option (List J)
  | .lst l => some l
  | .own a => match s a with
    | some (.lst l) => some l
    | _ => none
  | _ => none
theorem jp_lstX {F : Hp} {s : Sto} {H : Hp} {v : V} {d : J} {l : List J} (t : Stt K F s H) (j : Jp K (mask F s H) v d) (e : lstX s d = some l) : ∃ a xs, v = .ref a ∧ H a = some (.lst xs) ∧ Jps K (mask F s H) xs l := by
  cases j with
  | lst h r => cases e; exact ⟨_, _, rfl, (of_mask h).2.2, r⟩
  | own a =>
    unfold lstX at e
    dsimp only at e
    split at e
    · rename_i l' q
      cases e
      obtain ⟨xs, h, r⟩ := t.lst q
      exact ⟨_, _, rfl, h, r⟩
    · cases e
  | _ => cases e
def stOf (s : Sto) (d : J) : Sto → Prop := match d with
  | .own a => fun s' => s' a = s a
  | _ => fun _ => True
/-- the list as it is, at each turn -/
theorem list_it {F : Hp} {s : Sto} {H : Hp} {v : V} {d : J} {l : List J} (t : Stt K F s H) (j : Jp K (mask F s H) v d) (e : lstOf s d = some l) : ∃ a, v = .ref a ∧ (∃ xs, SqL K H a xs) ∧
    ∀ (F' : Hp) (s' : Sto) (H' : Hp), Le (mask F s H) (mask F' s' H') → Stt K F' s' H' → stOf s d s' → ∃ xs, SqL K H' a xs ∧ Jps K (mask F' s' H') xs l := by
  obtain ⟨a, xs, rfl, h, r⟩ := jp_list t j e
  refine ⟨a, rfl, ⟨xs, h⟩, fun F' s' H' le st hst => ?_⟩
  have e' : lstOf s' d = some l := by
    cases d with
    | own b =>
      unfold stOf at hst
      dsimp only at hst
      unfold lstOf at e ⊢
      dsimp only at e ⊢
      rw [hst]
      exact e
    | _ => exact e
  obtain ⟨b, ys, eb, h2, r2⟩ := jp_list st (j.up le) e'
  cases eb
  exact ⟨ys, h2, r2⟩
end
end M

namespace M
open PySem PySem.Spec PyProof.Rows L2
/-! ## what is walked: a list, a tuple, a text -/
def iU (K : PySem.W.Frag) (tl : TE) : TI := fun σ H R => tl σ H fun x H1 => (∃ a, x = .ref a ∧ (∃ xs, SqL K H1 a xs) ∧ R (Itl K a) H1) ∨ ((∃ a, x = .ref a ∧ (∃ xs, SqT K H1 a xs) ∧ R (Itt K a) H1) ∨ ∃ z, x = .str z ∧ R (Its z) H1)
theorem pi_U {X : Cx} {tg l : Expr} {tl : TE} (hl : PE X l tl) : PI X tg l (iU X.K tl) := by
  refine ⟨fun pins s σ H R I h => ?_⟩
  refine thn (hl.run pins s σ H _ I h) fun v s1 ⟨x, H1, I1, r1, q1⟩ => ?_
  rcases q1 with ⟨a, e, ⟨xs, hq⟩, q⟩ | ⟨a, e, ⟨xs, hq⟩, q⟩ | ⟨z, e, q⟩
  · subst e
    cases r1
    obtain ⟨its, rv, p, hz⟩ := I1.list hq
    exact wpAny_pyIter_list p.isList (pi_one (tk := s1.toks) I1 _ (turn_list a _) ⟨_, Heap.get?_push_size _ rfl, rfl, rfl⟩ q)
  · subst e
    cases r1
    obtain ⟨its, rv, p, hz⟩ := I1.tuple hq
    exact wpAny_pyIter_tuple (show s1.heap.IsTuple a its.toArray from p) (pi_one (tk := s1.toks) I1 _ (turn_tuple a _) ⟨_, Heap.get?_push_size _ rfl, rfl, rfl⟩ q)
  · subst e
    obtain ⟨t, rfl⟩ := r1
    cases ha : z.cps.all (· < 128)
    · exact wpAny_pyIter_wide ha (pi_one (tk := s1.toks) I1 _ (turn_str _ z t "str_iterator" (.inr rfl)) ⟨_, Heap.get?_push_size _ rfl, rfl, rfl⟩ q)
    · exact wpAny_pyIter_ascii ha (pi_one (tk := s1.toks) I1 _ (turn_str _ z t "str_ascii_iterator" (.inl rfl)) ⟨_, Heap.get?_push_size _ rfl, rfl, rfl⟩ q)
/-- a text's sgns -/
def sgns (z : Str) : List J := z.cps.toList.map fun c => .str ⟨#[c]⟩
/-- the items of a thing that is walked -/
def itsOf (s : Sto) : J → Option (List J)
  | .tup l => some l
  | .str z => some (sgns z)
  | d => lstOf s d
def jIU (p : TJ) : IJ := fun ρ s Q R => p ρ s (fun d s1 => ∃ l, itsOf s1 d = some l ∧ Q ⟨l, stOf s1 d⟩ s1) R
def jRng1 (a : AJ) : IJ := fun ρ s Q R => a ρ s (fun xs s1 => ∃ j : Int, xs = [.int j] ∧ (j < 2 ^ 62 ∧ -(2 ^ 62) ≤ j) ∧ Q ⟨(List.range j.toNat).map fun (i : Nat) => J.int ((i : Nat) : Int), fun _ => True⟩ s1) R
def jRng2 (a : AJ) : IJ := fun ρ s Q R => a ρ s (fun xs s1 => ∃ i j : Int, xs = [.int i, .int j] ∧ (-(2 ^ 62) ≤ i ∧ i < 2 ^ 62 ∧ -(2 ^ 62) ≤ j ∧ j < 2 ^ 62) ∧ Q ⟨(List.range (j - i).toNat).map fun (k : Nat) => J.int (i + (k : Int)), fun _ => True⟩ s1) R
def jEnum (a : AJ) : IJ := fun ρ s Q R => a ρ s (fun xs s1 => ∃ d l, xs = [d] ∧ lstOf s1 d = some l ∧ Q ⟨(List.range l.length).map fun (i : Nat) => J.tup [.int (i : Int), l.getD i .non], stOf s1 d⟩ s1) R
section
variable {K : PySem.W.Frag} {W : WX} {ta te : TE} {pa pe : TJ} {xa : TA} {qa : AJ}
theorem it_list {F : Hp} {s : Sto} {H : Hp} {v : V} {d : J} {l : List J} (t : Stt K F s H) (j : Jp K (mask F s H) v d) (e : lstOf s d = some l) : ∃ a, v = .ref a ∧ (∃ xs, SqL K H a xs) ∧ ItRel K (mask F s H) ⟨l, stOf s d⟩ (Itl K a) := by
  obtain ⟨a, rfl, hx, w⟩ := list_it t j e
  refine ⟨a, rfl, hx, fun F' i s' H' le st hst => ?_⟩
  obtain ⟨xs, h, r⟩ := w F' s' H' le st hst
  have hl := r.length
  refine ⟨fun hi => ?_, fun hi => ⟨xs, h, by rw [hl]; exact Nat.le_of_eq hi.symm⟩⟩
  have hi' : i < l.length := hi
  refine ⟨⟨xs, xs[i], h, by simp [show i < xs.length by omega]⟩, fun x H2 y => ?_⟩
  obtain ⟨rfl, y⟩ := y
  obtain ⟨d2, e2, j2⟩ := r.get' (y xs h)
  exact ⟨.refl, st, d2, e2, j2⟩
theorem it_tup {F : Hp} {s : Sto} {H : Hp} {v : V} {l : List J} (j : Jp K (mask F s H) v (.tup l)) : ∃ a, v = .ref a ∧ (∃ xs, SqT K H a xs) ∧ ItRel K (mask F s H) ⟨l, fun _ => True⟩ (Itt K a) := by
  cases j with | tup t r =>
  refine ⟨_, rfl, ⟨_, sqt_mask t⟩, fun F' i s' H' le st hst => ?_⟩
  have h := sqt_mask (le.sqt t)
  have hl := r.length
  refine ⟨fun hi => ?_, fun hi => ⟨_, h, by rw [hl]; exact Nat.le_of_eq hi.symm⟩⟩
  have hi' : i < l.length := hi
  rename_i a xs
  refine ⟨⟨xs, xs[i], h, by simp [show i < xs.length by omega]⟩, fun x H2 y => ?_⟩
  obtain ⟨rfl, y⟩ := y
  obtain ⟨d2, e2, j2⟩ := (r.up le).get' (y xs h)
  exact ⟨.refl, st, d2, e2, j2⟩
theorem it_str {G : Hp} {z : Str} : ItRel K G ⟨sgns z, fun _ => True⟩ (Its z) := by
  intro F i s H le st _
  have hl : (sgns z).length = z.cps.size := by unfold sgns; simp
  refine ⟨fun hi => ⟨by show i < z.cps.size; rw [← hl]; exact hi, fun x H' y => ?_⟩, fun hi => by show z.cps.size ≤ i; rw [← hl]; exact Nat.le_of_eq hi.symm⟩
  obtain ⟨rfl, c, hc, rfl⟩ := y
  exact ⟨.refl, st, _, by show (sgns z)[i]? = _; unfold sgns; rw [List.getElem?_map, Array.getElem?_toList, hc]; rfl, .str _⟩
theorem si_U (ha : Se K W ta pa) : Si K W (iU K ta) (jIU pa) := by
  intro F ρ s σ H Q R QV a hQ hR h
  refine ha F ρ s σ H _ R _ a (fun d s1 h1 v H1 l1 st1 j1 => ?_) hR h
  obtain ⟨l, e, q⟩ := h1
  have L : ∀ {e : lstOf s1 d = some l}, (∃ a, v = .ref a ∧ (∃ xs, SqL K H1 a xs) ∧ QV (Itl K a) H1) := fun {e} => by
    obtain ⟨a, rfl, hx, w⟩ := it_list st1 j1 e
    exact ⟨a, rfl, hx, hQ _ s1 q _ H1 l1 st1 w⟩
  cases d with
  | tup l' =>
    cases e
    obtain ⟨a, rfl, hx, w⟩ := it_tup j1
    exact .inr (.inl ⟨a, rfl, hx, hQ _ s1 q _ H1 l1 st1 w⟩)
  | str z =>
    cases e
    cases j1
    exact .inr (.inr ⟨z, rfl, hQ _ s1 q _ H1 l1 st1 it_str⟩)
  | _ => exact .inl (L (e := e))
theorem it_range {G : Hp} {lo : Int} {n : Nat} : ItRel K G ⟨(List.range n).map fun (i : Nat) => J.int (lo + (i : Int)), fun _ => True⟩ (Itr lo n) := by
  intro F i s H le st _
  have hl : ((List.range n).map fun (i : Nat) => J.int (lo + (i : Int))).length = n := by simp
  refine ⟨fun hi => ⟨by show i < n; rw [← hl]; exact hi, fun x H' y => ?_⟩, fun hi => by show n ≤ i; rw [← hl]; exact Nat.le_of_eq hi.symm⟩
  obtain ⟨rfl, rfl⟩ := y
  have hi' : i < n := by rw [← hl]; exact hi
  exact ⟨.refl, st, _, by show ((List.range n).map _)[i]? = _; rw [List.getElem?_map, List.getElem?_range hi']; rfl, .int _⟩
theorem si_rng1 (ha : Sa K W xa qa) : Si K W (iRng1 xa) (jRng1 qa) := by
  intro F ρ s σ H Q R QV a hQ hR h
  refine ha F ρ s σ H _ R _ a (fun d s1 h1 v H1 l1 st1 j1 => ?_) hR h
  obtain ⟨j, rfl, ⟨b1, b2⟩, q⟩ := h1
  cases j1 with | cons j1 jj =>
  cases jj
  cases j1
  refine ⟨j, rfl, b2, b1, hQ _ s1 q _ H1 l1 st1 ?_⟩
  have := it_range (K := K) (G := mask F s1 H1) (lo := 0) (n := j.toNat)
  simp only [Int.zero_add] at this
  exact this
theorem si_rng2 (ha : Sa K W xa qa) : Si K W (iRng2 xa) (jRng2 qa) := by
  intro F ρ s σ H Q R QV a hQ hR h
  refine ha F ρ s σ H _ R _ a (fun d s1 h1 v H1 l1 st1 j1 => ?_) hR h
  obtain ⟨i, j, rfl, b, q⟩ := h1
  cases j1 with | cons j1 jj =>
  cases jj with | cons j2 jj =>
  cases jj
  cases j1
  cases j2
  exact ⟨i, j, rfl, b, hQ _ s1 q _ H1 l1 st1 it_range⟩
theorem mask_new {F : Hp} {s : Sto} {H : Hp} {p : Addr} {o : HO} (t : Stt K F s H) (hp : H p = none) : mask F s (upd H p o) p = some o := by
  rw [mask_none (t.fresh hp).2 (t.fresh hp).1]
  exact upd_same
theorem si_enum (ha : Sa K W xa qa) : Si K W (iEnum K xa) (jEnum qa) := by
  intro F ρ s σ H Q R QV a hQ hR h
  refine ha F ρ s σ H _ R _ a (fun d s1 h1 v H1 l1 st1 j1 => ?_) hR h
  obtain ⟨d, l, rfl, e, q⟩ := h1
  cases j1 with | cons j1 jj =>
  cases jj
  obtain ⟨a, rfl, ⟨xs, hx⟩, w⟩ := list_it st1 j1 e
  refine ⟨a, xs, rfl, hx, hQ _ s1 q _ H1 l1 st1 fun F' i s' H' le st hst => ?_⟩
  obtain ⟨ys, h, r⟩ := w F' s' H' le st hst
  have hl := r.length
  have hn : ((List.range l.length).map fun (i : Nat) => J.tup [.int (i : Int), l.getD i .non]).length = l.length := by simp
  refine ⟨fun hi => ?_, fun hi => ⟨ys, h, by rw [hl, ← hn]; exact Nat.le_of_eq hi.symm⟩⟩
  have hi' : i < l.length := by rw [← hn]; exact hi
  refine ⟨⟨ys, ys[i], h, by simp [show i < ys.length by omega]⟩, fun x H2 y => ?_⟩
  obtain ⟨T, x2, rfl, hT, rfl, y⟩ := y
  obtain ⟨d2, e2, j2⟩ := r.get' (y ys h)
  refine ⟨.new hT, st.new hT, _, by show ((List.range l.length).map _)[i]? = _; rw [List.getElem?_map, List.getElem?_range hi']; rfl, .tup (.inl (.inl (mask_new st hT))) (.cons (.int _) (.cons ?_ .nil))⟩
  rw [show l.getD i .non = d2 by rw [List.getD_eq_getElem?_getD, e2]; rfl]
  exact j2.up (.new hT)
/-! ## operators by values -/
def isTupL : J → Option (List J)
  | .tup l => some l
  | _ => none
def addJ (x y : J) (s : Sto) (Q : QJ) : Prop := match x, y with
  | .int i, .int j => Q (.int (i + j)) s
  | .str a, .str b => a.length + b.length ≤ 100000 ∧ Q (.str (a ++ b)) s
  | .tup a, .tup b => a.length + b.length ≤ 100000 ∧ Q (.tup (a ++ b)) s
  | x, y => ∃ a b, lstX s x = some a ∧ lstX s y = some b ∧ a.length + b.length ≤ 100000 ∧ Q (.lst (a ++ b)) s
/-- a sum of lists that is to be kept in the store -/
def addJO (x y : J) (s : Sto) (Q : QJ) : Prop := ∃ a b, lstX s x = some a ∧ lstX s y = some b ∧ a.length + b.length ≤ 100000 ∧ ∀ p, s p = none → Q (.own p) (put s p (.lst (a ++ b)))
def uAdd (K : PySem.W.Frag) : R2 := fun x y H Q => rI0 (fun i j => .int (i + j)) x y H Q ∨ ((∃ i j, x = .str i ∧ y = .str j ∧ i.length + j.length ≤ sizeLine ∧ Q (.str (i ++ j)) H) ∨ (rCat x y H Q ∨ rCatA K x y H Q))
theorem op_addU {X : Cx} : OpR X (binaryOp .Add) (uAdd X.K) := OpR.or op_add (OpR.or op_add_str (OpR.or op_cat op_catA))
theorem cat_list {F : Hp} {s : Sto} {H : Hp} {v u : V} {x y : J} {a b : List J} {QV : VK} (t : Stt K F s H) (jx : Jp K (mask F s H) v x) (jy : Jp K (mask F s H) u y) (ex : lstX s x = some a) (ey : lstX s y = some b) (hz : a.length + b.length ≤ 100000)
    (q : ∀ p xs, H p = none → Jps K (mask F s H) xs (a ++ b) → QV (.ref p) (upd H p (.lst xs))) : uAdd K v u H QV := by
  obtain ⟨p1, xs, rfl, h1, r1⟩ := jp_lstX t jx ex
  obtain ⟨p2, ys, rfl, h2, r2⟩ := jp_lstX t jy ey
  refine .inr (.inr (.inl ⟨p1, p2, xs, ys, rfl, rfl, h1, h2, ?_, fun p hp => q p _ hp (r1.append r2)⟩))
  have e1 := r1.length
  have e2 := r2.length
  exact Nat.le_trans (by omega : xs.length + ys.length ≤ 100000) (by decide)
theorem so_add : So K (uAdd K) addJ := by
  intro F s H v u x y Q QV t jx jy hQ h
  have L : (∃ a b, lstX s x = some a ∧ lstX s y = some b ∧ a.length + b.length ≤ 100000 ∧ Q (.lst (a ++ b)) s) → uAdd K v u H QV := by
    rintro ⟨a, b, ex, ey, hz, q⟩
    exact cat_list t jx jy ex ey hz fun p xs hp r => hQ _ s q _ _ (.new hp) (t.new hp) (.lst (mask_new t hp) (r.up (.new hp)))
  unfold addJ at h
  split at h
  · cases jx; cases jy
    exact .inl ⟨_, _, rfl, rfl, hQ _ s h _ H .refl t (.int _)⟩
  · cases jx; cases jy
    exact .inr (.inl ⟨_, _, rfl, rfl, Nat.le_trans h.1 (by decide), hQ _ s h.2 _ H .refl t (.str _)⟩)
  · cases jx with | tup h1 r1 =>
    cases jy with | tup h2 r2 =>
    have e1 := r1.length
    have e2 := r2.length
    refine .inr (.inr (.inr ⟨_, _, _, _, rfl, rfl, sqt_mask h1, sqt_mask h2, Nat.le_trans (by omega) (show 100000 ≤ sizeLine by decide), fun e => ?_, fun n e => ?_, fun n1 n2 p hp => ?_⟩))
    · subst e
      cases r1
      exact hQ _ s h.2 _ H .refl t (.tup h2 r2)
    · subst e
      cases r2
      have q := h.2
      rw [List.append_nil] at q
      exact hQ _ s q _ H .refl t (.tup h1 r1)
    · exact hQ _ s h.2 _ _ (.new hp) (t.new hp) (.tup (.inl (.inl (mask_new t hp))) ((r1.append r2).up (.new hp)))
  · exact L h
theorem so_addO : So K (uAdd K) addJO := by
  intro F s H v u x y Q QV t jx jy hQ h
  obtain ⟨a, b, ex, ey, hz, q⟩ := h
  exact cat_list t jx jy ex ey hz fun p xs hp r => hQ _ _ (q p (t.fresh hp).1) _ _ (.newO hp) (t.newO (o := .lst (a ++ b)) hp r) (.own p)
/-- a bound far beyond the laws' numbers -/
def Big : Nat := 2 ^ 8900
theorem big_le : 10 ^ 200 ≤ Big := by unfold Big; decide +kernel
theorem cmulB {i j : Int} (h : i.natAbs < Big) (h' : j.natAbs < Big) : CMulW i j := wide_mul (a := 8900) (b := 8900) h h' (by decide) (by decide) (by decide)
theorem cdivB {i j : Int} (h : 0 < j) (h' : j.natAbs < Big) : CDivW i j := wide_div h (b := 8900) h' (by decide) (by decide)
def subJ (x y : J) (s : Sto) (Q : QJ) : Prop := ∃ i j, x = .int i ∧ y = .int j ∧ Q (.int (i - j)) s
def mulJ (x y : J) (s : Sto) (Q : QJ) : Prop := match x, y with
  | .int i, .int j => (i.natAbs < Big ∧ j.natAbs < Big) ∧ Q (.int (i * j)) s
  | x, .int j => ∃ a, lstX s x = some a ∧ (0 ≤ j ∧ a.length * j.toNat ≤ 100000 ∧ j < 2 ^ 62) ∧ Q (.lst (List.replicate j.toNat a).flatten) s
  | _, _ => False
def divJ (x y : J) (s : Sto) (Q : QJ) : Prop := ∃ i j, x = .int i ∧ y = .int j ∧ (0 < j ∧ j.natAbs < Big) ∧ Q (.int (i / j)) s
def modJ (x y : J) (s : Sto) (Q : QJ) : Prop := ∃ i j, x = .int i ∧ y = .int j ∧ 0 < j ∧ Q (.int (i % j)) s
def powJ (x y : J) (s : Sto) (Q : QJ) : Prop := ∃ i j, x = .int i ∧ y = .int j ∧ (0 ≤ j ∧ j ≤ 1000000 ∧ i.natAbs < 2 ^ 64) ∧ Q (.int (i ^ j.toNat)) s
def cmpJ (f : Int → Int → Bool) (x y : J) (s : Sto) (Q : QJ) : Prop := ∃ i j, x = .int i ∧ y = .int j ∧ Q (.bl (f i j)) s
def negJ (x : J) (s : Sto) (Q : QJ) : Prop := ∃ i, x = .int i ∧ Q (.int (-i)) s
abbrev mSub : R2 := rI0 fun i j => .int (i - j)
abbrev mDiv : R2 := rI CDivW fun i j => .int (i / j)
abbrev mMod : R2 := rI (fun _ j => 0 < j) fun i j => .int (i % j)
abbrev mPow : R2 := rI CPow fun i j => .int (i ^ j.toNat)
abbrev mLt : R2 := rI0 fun i j => .bl (decide (i < j))
abbrev mLe : R2 := rI0 fun i j => .bl (decide (i ≤ j))
abbrev mGt : R2 := rI0 fun i j => .bl (decide (j < i))
abbrev mGe : R2 := rI0 fun i j => .bl (decide (j ≤ i))
abbrev mNeg : V → Hp → VK → Prop := rU fun i => .int (-i)
abbrev ltJ := cmpJ fun i j => decide (i < j)
abbrev leJ := cmpJ fun i j => decide (i ≤ j)
abbrev gtJ := cmpJ fun i j => decide (j < i)
abbrev geJ := cmpJ fun i j => decide (j ≤ i)
theorem so_sub : So K mSub subJ := by
  intro F s H v u x y Q QV t jx jy hQ h
  obtain ⟨i, j, rfl, rfl, q⟩ := h
  cases jx; cases jy
  exact ⟨i, j, rfl, rfl, hQ _ s q _ H .refl t (.int _)⟩
theorem so_cmp {f : Int → Int → Bool} : So K (rI0 fun i j => .bl (f i j)) (cmpJ f) := by
  intro F s H v u x y Q QV t jx jy hQ h
  obtain ⟨i, j, rfl, rfl, q⟩ := h
  cases jx; cases jy
  exact ⟨i, j, rfl, rfl, hQ _ s q _ H .refl t (.bl _)⟩
theorem so_div : So K mDiv divJ := by
  intro F s H v u x y Q QV t jx jy hQ h
  obtain ⟨i, j, rfl, rfl, c, q⟩ := h
  cases jx; cases jy
  exact ⟨i, j, rfl, rfl, cdivB c.1 c.2, hQ _ s q _ H .refl t (.int _)⟩
theorem so_mod : So K mMod modJ := by
  intro F s H v u x y Q QV t jx jy hQ h
  obtain ⟨i, j, rfl, rfl, c, q⟩ := h
  cases jx; cases jy
  exact ⟨i, j, rfl, rfl, c, hQ _ s q _ H .refl t (.int _)⟩
theorem so_pow : So K mPow powJ := by
  intro F s H v u x y Q QV t jx jy hQ h
  obtain ⟨i, j, rfl, rfl, c, q⟩ := h
  cases jx; cases jy
  exact ⟨i, j, rfl, rfl, c, hQ _ s q _ H .refl t (.int _)⟩
theorem so1_neg : So1 K mNeg negJ := by
  intro F s H v x Q QV t jx hQ h
  obtain ⟨i, rfl, q⟩ := h
  cases jx
  exact ⟨i, rfl, hQ _ s q _ H .refl t (.int _)⟩
def uMul (K : PySem.W.Frag) : R2 := fun x y H Q => rI CMulW (fun i j => .int (i * j)) x y H Q ∨ rRep x y H Q
theorem so_mul : So K (uMul K) mulJ := by
  intro F s H v u x y Q QV t jx jy hQ h
  unfold mulJ at h
  split at h
  · cases jx; cases jy
    exact .inl ⟨_, _, rfl, rfl, cmulB h.1.1 h.1.2, hQ _ s h.2 _ H .refl t (.int _)⟩
  · obtain ⟨a, e, hz, q⟩ := h
    cases jy
    obtain ⟨p1, xs, rfl, h1, r1⟩ := jp_lstX t jx e
    rename_i j _
    have hl := r1.length
    refine .inr ⟨p1, j, xs, rfl, rfl, h1, by omega, ?_, by rw [hl]; exact Nat.le_trans hz.2.1 (by decide), fun p hp => ?_⟩
    · have := hz.2.2
      omega
    · have go : ∀ n : Nat, Jps K (mask F s H) (List.replicate n xs).flatten (List.replicate n a).flatten := fun n => by
        induction n with
        | zero => exact .nil
        | succ n ih =>
          rw [List.replicate_succ, List.replicate_succ, List.flatten_cons, List.flatten_cons]
          exact r1.append ih
      exact hQ _ s q _ _ (.new hp) (t.new hp) (.lst (mask_new t hp) ((go _).up (.new hp)))
  · exact h.elim
theorem op_mulU {X : Cx} : OpR X (binaryOp .Mult) (uMul X.K) := OpR.or op_mulW op_rep
end
end M

namespace M
open PySem PySem.Spec PyProof.Rows L2
/-! ## data that may be compared -/
mutual
def J.py : J → PyData
  | .bl b => .bool b
  | .int i => .int i
  | .str s => .str s
  | .lst l => .list (J.pys l)
  | .tup l => .tuple (J.pys l)
  | _ => .none
def J.pys : List J → List PyData
  | [] => []
  | d :: r => d.py :: J.pys r
end
mutual
/-- at most n deep, no dict, no object -/
def J.okd : Nat → J → Bool
  | _, .non => true
  | _, .bl _ => true
  | _, .int _ => true
  | _, .str s => decide (s.length ≤ 100000) && s.cps.all (· < 0x110000)
  | n + 1, .lst l => J.oks n l
  | n + 1, .tup l => J.oks n l
  | _, _ => false
def J.oks : Nat → List J → Bool
  | _, [] => true
  | n, d :: r => J.okd n d && J.oks n r
end
theorem oks_all {n : Nat} : ∀ {l : List J}, J.oks n l = l.all (J.okd n)
  | [] => by unfold J.oks; rfl
  | d :: r => by unfold J.oks; rw [oks_all, List.all_cons]
abbrev J.ok (d : J) : Bool := J.okd 60 d
mutual
theorem okd_py : ∀ {n : Nat} {d : J}, J.okd n d = true → d.py.canLay0 = true ∧ d.py.depth ≤ n
  | _, .non, _ => by simp [J.py, PyData.canLay0, PyData.depth]
  | _, .bl _, _ => by simp [J.py, PyData.canLay0, PyData.depth]
  | _, .int _, _ => by simp [J.py, PyData.canLay0, PyData.depth]
  | _, .str s, h => by
    refine ⟨?_, by simp [J.py, PyData.depth]⟩
    unfold J.okd at h
    rw [Bool.and_eq_true] at h
    unfold J.py PyData.canLay0
    exact h.2
  | n + 1, .lst l, h => by
    unfold J.okd at h
    obtain ⟨h1, h2⟩ := oks_py h
    unfold J.py PyData.canLay0 PyData.depth
    exact ⟨h1, Nat.succ_le_succ h2⟩
  | n + 1, .tup l, h => by
    unfold J.okd at h
    obtain ⟨h1, h2⟩ := oks_py h
    unfold J.py PyData.canLay0 PyData.depth
    exact ⟨h1, Nat.succ_le_succ h2⟩
  | 0, .lst l, h => by unfold J.okd at h; cases h
  | 0, .tup l, h => by unfold J.okd at h; cases h
  | _, .dct _, h => by unfold J.okd at h; cases h
  | _, .obj _ _, h => by unfold J.okd at h; cases h
  | _, .scr _, h => by unfold J.okd at h; cases h
  | _, .own _, h => by unfold J.okd at h; cases h
  | _, .ty _, h => by unfold J.okd at h; cases h
  | _, .cls _, h => by unfold J.okd at h; cases h
  | _, .exc _ _ _, h => by unfold J.okd at h; cases h
theorem oks_py : ∀ {n : Nat} {l : List J}, J.oks n l = true → PyData.canLayAll0 (J.pys l) = true ∧ PyData.depthAll (J.pys l) ≤ n
  | _, [], _ => by simp [J.pys, PyData.canLayAll0, PyData.depthAll]
  | n, d :: r, h => by
    unfold J.oks at h
    rw [Bool.and_eq_true] at h
    obtain ⟨a1, a2⟩ := okd_py h.1
    obtain ⟨b1, b2⟩ := oks_py h.2
    unfold J.pys PyData.canLayAll0 PyData.depthAll
    exact ⟨by rw [a1, b1]; rfl, Nat.max_le.mpr ⟨a2, b2⟩⟩
end
theorem shaped_of {d : J} (h : d.ok = true) : PySem.SeqAt.shaped d.py = true := by
  obtain ⟨h1, h2⟩ := okd_py h
  unfold PySem.SeqAt.shaped
  rw [h1, Bool.true_and]
  exact decide_eq_true (Nat.le_trans h2 (by decide))
section
variable {K : PySem.W.Frag} {G : Hp}
mutual
theorem Jp.dp : ∀ {n : Nat} {v : V} {d : J}, Jp K G v d → J.okd n d = true → Dp K G v d.py
  | _, _, _, .non, _ => by unfold J.py; exact .non
  | _, _, _, .bl b, _ => by unfold J.py; exact .bl b
  | _, _, _, .int b, _ => by unfold J.py; exact .int b
  | _, _, _, .str b, _ => by unfold J.py; exact .str b
  | 0, _, _, .lst h r, n => by unfold J.okd at n; cases n
  | 0, _, _, .tup h r, n => by unfold J.okd at n; cases n
  | _ + 1, _, _, .lst h r, n => by unfold J.okd at n; unfold J.py; exact .lst (.inl (.inl h)) (Jps.dp r n)
  | _ + 1, _, _, .tup h r, n => by unfold J.okd at n; unfold J.py; exact .tup h (Jps.dp r n)
  | _, _, _, .dct h _ r, n => by unfold J.okd at n; cases n
  | _, _, _, .obj h r, n => by unfold J.okd at n; cases n
  | _, _, _, .scr _, n => by unfold J.okd at n; cases n
  | _, _, _, .own _, n => by unfold J.okd at n; cases n
  | _, _, _, .ty _, n => by unfold J.okd at n; cases n
  | _, _, _, .cls _, n => by unfold J.okd at n; cases n
  | _, _, _, .exc _ _, n => by unfold J.okd at n; cases n
theorem Jps.dp : ∀ {n : Nat} {v : List V} {d : List J}, Jps K G v d → J.oks n d = true → DpAll K G v (J.pys d)
  | _, _, _, .nil, _ => by unfold J.pys; exact .nil
  | _, _, _, .cons h r, n => by
    unfold J.oks at n
    rw [Bool.and_eq_true] at n
    unfold J.pys
    exact .cons (Jp.dp h n.1) (Jps.dp r n.2)
end
end
def eqJ (d e : J) : Bool := PyData.eqv d.py e.py
/-- a thing of the store as it stands -/
def res (s : Sto) : J → J
  | .own a => match s a with
    | some (.lst l) => .lst l
    | some (.dct l) => .dct l
    | some (.ins c l) => .obj c l
    | none => .own a
  | d => d
def dctEq (ks ls : List (Key × J)) : Bool := ks.length == ls.length && ks.all fun kv => match valJ ls kv.1 with
  | some y => eqJ kv.2 y
  | none => false
def okKv (ks : List (Key × J)) : Prop := ∀ kv ∈ ks, kv.2.ok = true
def eqR (s : Sto) (x y : J) (f : Bool → Bool) (Q : QJ) : Prop := match x, y with
  | .int i, .int j => Q (.bl (f (decide (i = j)))) s
  | .str i, .str j => Q (.bl (f (decide (i = j)))) s
  | .bl i, .bl j => Q (.bl (f (decide (i = j)))) s
  | .str _, .non => Q (.bl (f false)) s
  | .non, .str _ => Q (.bl (f false)) s
  | .int _, .str _ => Q (.bl (f false)) s
  | .str _, .int _ => Q (.bl (f false)) s
  | .bl _, .str _ => Q (.bl (f false)) s
  | .str _, .bl _ => Q (.bl (f false)) s
  | x, y => (((res s x).ok = true ∧ (res s y).ok = true) ∧ Q (.bl (f (eqJ (res s x) (res s y)))) s) ∨ ∃ ks ls, res s x = .dct ks ∧ res s y = .dct ls ∧ (okKv ks ∧ okKv ls) ∧ Q (.bl (f (dctEq ks ls))) s
def eqRJ (x y : J) (s : Sto) (Q : QJ) : Prop := eqR s x y id Q
def neRJ (x y : J) (s : Sto) (Q : QJ) : Prop := eqR s x y (!·) Q
/-! dicts whose values are plain -/
inductive HitsV (K : PySem.W.Frag) (H : Hp) (ls : List (Key × V)) : List (Key × V) → Bool → Prop
  | nil : HitsV K H ls [] true
  | miss {k : Key} {v : V} {r : List (Key × V)} : valV ls k = none → HitsV K H ls ((k, v) :: r) false
  | hit {k : Key} {v u : V} {d e : PyData} {r : List (Key × V)} {b : Bool} : valV ls k = some u → Dp K H v d → Dp K H u e → SeqAt.shaped d = true → SeqAt.shaped e = true → HitsV K H ls r b → HitsV K H ls ((k, v) :: r) (PyData.eqv d e && b)
def rEqC (K : PySem.W.Frag) (f : Bool → Bool) : R2 := fun x y H Q => ∃ a b ks ls r, x = .ref a ∧ y = .ref b ∧ Rd H a (.dK ks) ∧ Rd H b (.dK ls) ∧ HitsV K H ls ks r ∧ Q (.bl (f (ks.length == ls.length && r))) H
theorem hits_of {X : Cx} {pins : List (Addr × Obj)} {σ : L2.St} {H : Hp} {s : Shared} (I : Inv X pins σ H s) (hu : X.A.units + 65 < cLine) {ls : List (Key × V)} {vb : List (Key × Value)} (rb : KV ls vb) {ks : List (Key × V)} {r : Bool} (h : HitsV X.K H ls ks r) :
    ∀ {va : List (Key × Value)}, KV ks va → PySem.W.KeqHits X.A.in1 s vb va r := by
  have hu1 : X.A.in1.units + 64 < cLine := by show X.A.units + 1 + 64 < cLine; omega
  induction h with
  | nil => intro va ra; cases ra; exact .nil
  | @miss k v r hn =>
    intro va ra
    cases ra with
    | @cons _ q _ qs h t =>
      obtain ⟨key, w⟩ := q
      have e : k = key := h.1
      subst e
      have z := rb.val k
      rw [hn] at z
      refine .miss ?_
      cases e2 : valueAt vb k with
      | none => rfl
      | some y => rw [e2] at z; exact z.elim
  | @hit k v u d e r b hu0 h1 h2 s1 s2 _ ih =>
    intro va ra
    cases ra with
    | @cons _ q _ qs h t =>
      obtain ⟨key, w⟩ := q
      have e : k = key := h.1
      subst e
      have z := rb.val k
      rw [hu0] at z
      obtain ⟨y, hy, ry⟩ := z.some_of
      obtain ⟨as, r1⟩ := Dp.reads I d v w h1 h.2
      obtain ⟨bs, r2⟩ := Dp.reads I _ u y h2 ry
      exact .hit hy (PySem.W.keq_at r1 r2 s1 s2 hu1) (ih t)
theorem op_eqC {X : Cx} (hu : X.A.units + 65 < cLine) : OpR X (compareOp .Eq) (rEqC X.K id) := by
  intro pins s σ H x y v u Q I rx ry h
  obtain ⟨a, b, ks, ls, r, rfl, rfl, ea, eb, hh, q⟩ := h
  obtain rfl : v = Value.ref a := rx
  obtain rfl : u = Value.ref b := ry
  obtain ⟨_, ya, va, ra, da⟩ := dk_rd I.hok ea
  obtain ⟨_, yb, vb, rb, db⟩ := dk_rd I.hok eb
  refine PySem.W.keq_eq (knd := mixKind X.prog X.w) ya yb da db (by omega) (fun _ => hits_of I hu rb hh ra) ⟨.bl _, H, I, rfl, ?_⟩
  rw [← ra.length, ← rb.length]
  exact q
theorem op_neC {X : Cx} (hu : X.A.units + 65 < cLine) : OpR X (compareOp .NotEq) (rEqC X.K (!·)) := by
  intro pins s σ H x y v u Q I rx ry h
  obtain ⟨a, b, ks, ls, r, rfl, rfl, ea, eb, hh, q⟩ := h
  obtain rfl : v = Value.ref a := rx
  obtain rfl : u = Value.ref b := ry
  obtain ⟨_, ya, va, ra, da⟩ := dk_rd I.hok ea
  obtain ⟨_, yb, vb, rb, db⟩ := dk_rd I.hok eb
  refine PySem.W.keq_ne (knd := mixKind X.prog X.w) ya yb da db (by omega) (fun _ => hits_of I hu rb hh ra) ⟨.bl _, H, I, rfl, ?_⟩
  rw [← ra.length, ← rb.length]
  exact q
def uEq (K : PySem.W.Frag) : R2 := fun x y H Q => rEq x y H Q ∨ (rEqD K x y H Q ∨ rEqC K id x y H Q)
def uNe (K : PySem.W.Frag) : R2 := fun x y H Q => rNe x y H Q ∨ (rNeD K x y H Q ∨ rEqC K (!·) x y H Q)
theorem op_eqU {X : Cx} (hu : X.A.units + 65 < cLine) : OpR X (compareOp .Eq) (uEq X.K) := OpR.or op_eq (OpR.or (op_eqD (by omega)) (op_eqC hu))
theorem op_neU {X : Cx} (hu : X.A.units + 65 < cLine) : OpR X (compareOp .NotEq) (uNe X.K) := OpR.or op_ne (OpR.or (op_neD (by omega)) (op_neC hu))
theorem dpL {K : PySem.W.Frag} {G H : Hp} (l : Le G H) : ∀ {v : V} {d : PyData}, Dp K G v d → Dp K H v d := by
  intro v d h
  refine Dp.rec (motive_1 := fun v d _ => Dp K H v d) (motive_2 := fun v d _ => DpAll K H v d) .non (fun b => .bl b) (fun i => .int i) (fun x => .str x) (fun h _ r => .lst (l.sql h) r) (fun h _ r => .tup (l.sqt h) r) .nil (fun _ _ a b => .cons a b) h
theorem res_dp {K : PySem.W.Frag} {F : Hp} {s : Sto} {H : Hp} {v : V} {d : J} (t : Stt K F s H) (j : Jp K (mask F s H) v d) (h : (res s d).ok = true) : Dp K H v (res s d).py := by
  cases d with
  | own a =>
    cases j
    unfold res at h ⊢
    dsimp only at h ⊢
    split at h
    · rename_i l e
      obtain ⟨xs, e2, r⟩ := t.lst e
      unfold J.py
      unfold J.ok J.okd at h
      exact .lst (.inl (.inl e2)) (by
        have := Jps.dp r h
        refine DpAll.rec (motive_1 := fun v d _ => Dp K H v d) (motive_2 := fun v d _ => DpAll K H v d) .non (fun b => .bl b) (fun i => .int i) (fun x => .str x) (fun h _ r => .lst (Le.unmask.sql h) r) (fun h _ r => .tup (Le.unmask.sqt h) r) .nil (fun _ _ a b => .cons a b) this)
    · cases h
    · cases h
    · cases h
  | _ => exact dpL .unmask (j.dp h)
/-- a dict as it stands -/
theorem jp_dct {K : PySem.W.Frag} {F : Hp} {s : Sto} {H : Hp} {v : V} {d : J} {l : List (Key × J)} (t : Stt K F s H) (j : Jp K (mask F s H) v d) (e : res s d = .dct l) : ∃ a h xs, v = .ref a ∧ H a = some h ∧ cor h = .dK xs ∧ Jpd K (mask F s H) xs l := by
  cases j with
  | dct h c r => cases e; exact ⟨_, _, _, rfl, (of_mask h).2.2, c, r⟩
  | own a =>
    unfold res at e
    dsimp only at e
    split at e
    · cases e
    · rename_i l' q
      cases e
      obtain ⟨xs, h, r⟩ := t.dct q
      exact ⟨_, _, xs, rfl, h, rfl, r⟩
    · cases e
    · cases e
  | _ => cases e
theorem rd_dct {H : Hp} {a : Addr} {h : HO} {xs : List (Key × V)} (e : H a = some h) (c : cor h = .dK xs) : Rd H a (.dK xs) := by
  rcases cor_dK c with rfl | ⟨o, rfl⟩
  · exact .inl e
  · exact .inr ⟨o, e⟩
theorem hits_J {K : PySem.W.Frag} {G H : Hp} (l : ∀ {v : V} {d : PyData}, Dp K G v d → Dp K H v d) {ys : List (Key × V)} {ls : List (Key × J)} (jy : Jpd K G ys ls) (oy : okKv ls) : ∀ {xs : List (Key × V)} {ks : List (Key × J)}, Jpd K G xs ks → okKv ks →
    HitsV K H ys xs (ks.all fun kv => match valJ ls kv.1 with | some y => eqJ kv.2 y | none => false)
  | _, _, .nil, _ => .nil
  | _, _, .cons (k := k) (v := v) (d := d) (vs := vs) (ds := ds) j t, ok => by
    have ih := hits_J l jy oy t fun kv h => ok kv (List.mem_cons_of_mem _ h)
    rw [List.all_cons]
    have ok1 := ok (k, d) List.mem_cons_self
    rcases jy.val (k := k) with ⟨h1, h2⟩ | ⟨u, x, h1, h2, h3⟩
    · rw [h2]
      exact .miss h1
    · rw [h2]
      have okx : x.ok = true := by
        unfold valJ at h2
        cases e : ls.find? (fun kv => decide (kv.1 = k)) with
        | none => rw [e] at h2; cases h2
        | some z =>
          rw [e] at h2
          have := oy z (List.mem_of_find?_eq_some e)
          rw [show z.2 = x from Option.some.inj h2] at this
          exact this
      exact .hit h1 (l (j.dp ok1)) (l (h3.dp okx)) (shaped_of ok1) (shaped_of okx) ih
theorem eqC_of {K : PySem.W.Frag} {F : Hp} {s : Sto} {H : Hp} {v u : V} {x y : J} {f : Bool → Bool} {Q : VK} {ks ls : List (Key × J)} (t : Stt K F s H) (jx : Jp K (mask F s H) v x) (jy : Jp K (mask F s H) u y) (ex : res s x = .dct ks) (ey : res s y = .dct ls) (o : okKv ks ∧ okKv ls) (q : Q (.bl (f (dctEq ks ls))) H) : rEqC K f v u H Q := by
  obtain ⟨a, h, xs, rfl, e1, c1, r1⟩ := jp_dct t jx ex
  obtain ⟨b, g, ys, rfl, e2, c2, r2⟩ := jp_dct t jy ey
  refine ⟨a, b, xs, ys, _, rfl, rfl, rd_dct e1 c1, rd_dct e2 c2, hits_J (fun h => dpL .unmask h) r2 o.2 r1 o.1, ?_⟩
  rw [r1.length, r2.length]
  exact q
section
variable {K : PySem.W.Frag}
theorem vint (i j : Int) : decide (V.int i = V.int j) = decide (i = j) := by by_cases h : i = j <;> simp [h]
theorem vstr (i j : Str) : decide (V.str i = V.str j) = decide (i = j) := by by_cases h : i = j <;> simp [h]
theorem vbl (i j : Bool) : decide (V.bl i = V.bl j) = decide (i = j) := by by_cases h : i = j <;> simp [h]
theorem so_eq : So K (uEq K) eqRJ := by
  intro F s H v u x y Q QV t jx jy hQ h
  unfold eqRJ eqR at h
  have fin : ∀ b, Q (.bl b) s → QV (.bl b) H := fun b q => hQ _ s q _ H .refl t (.bl _)
  split at h
  · cases jx; cases jy
    exact .inl ⟨rfl, by rw [vint]; exact fin _ h⟩
  · cases jx; cases jy
    exact .inl ⟨rfl, by rw [vstr]; exact fin _ h⟩
  · cases jx; cases jy
    exact .inl ⟨rfl, by rw [vbl]; exact fin _ h⟩
  · cases jx; cases jy
    exact .inl ⟨rfl, fin _ h⟩
  · cases jx; cases jy
    exact .inl ⟨rfl, fin _ h⟩
  · cases jx; cases jy
    exact .inl ⟨rfl, fin _ h⟩
  · cases jx; cases jy
    exact .inl ⟨rfl, fin _ h⟩
  · cases jx; cases jy
    exact .inl ⟨rfl, fin _ h⟩
  · cases jx; cases jy
    exact .inl ⟨rfl, fin _ h⟩
  · rcases h with h | ⟨ks, ls, ex, ey, o, h⟩
    · exact .inr (.inl ⟨_, _, res_dp t jx h.1.1, res_dp t jy h.1.2, shaped_of h.1.1, shaped_of h.1.2, fin _ h.2⟩)
    · exact .inr (.inr (eqC_of t jx jy ex ey o (fin _ h)))
theorem so_ne : So K (uNe K) neRJ := by
  intro F s H v u x y Q QV t jx jy hQ h
  unfold neRJ eqR at h
  have fin : ∀ b, Q (.bl b) s → QV (.bl b) H := fun b q => hQ _ s q _ H .refl t (.bl _)
  split at h
  · cases jx; cases jy
    exact .inl ⟨rfl, by rw [vint]; exact fin _ h⟩
  · cases jx; cases jy
    exact .inl ⟨rfl, by rw [vstr]; exact fin _ h⟩
  · cases jx; cases jy
    exact .inl ⟨rfl, by rw [vbl]; exact fin _ h⟩
  · cases jx; cases jy
    exact .inl ⟨rfl, fin _ h⟩
  · cases jx; cases jy
    exact .inl ⟨rfl, fin _ h⟩
  · cases jx; cases jy
    exact .inl ⟨rfl, fin _ h⟩
  · cases jx; cases jy
    exact .inl ⟨rfl, fin _ h⟩
  · cases jx; cases jy
    exact .inl ⟨rfl, fin _ h⟩
  · cases jx; cases jy
    exact .inl ⟨rfl, fin _ h⟩
  · rcases h with h | ⟨ks, ls, ex, ey, o, h⟩
    · exact .inr (.inl ⟨_, _, res_dp t jx h.1.1, res_dp t jy h.1.2, shaped_of h.1.1, shaped_of h.1.2, fin _ h.2⟩)
    · exact .inr (.inr (eqC_of t jx jy ex ey o (fin _ h)))
/-! ## is of truth values -/
def isRJ (f : Bool → Bool) (x y : J) (s : Sto) (Q : QJ) : Prop := ∃ a b, x = .bl a ∧ y = .bl b ∧ Q (.bl (f (decide (a = b)))) s
theorem so_is : So K rIsB (isRJ id) := by
  intro F s H v u x y Q QV t jx jy hQ h
  obtain ⟨a, b, rfl, rfl, q⟩ := h
  cases jx; cases jy
  exact ⟨a, b, rfl, rfl, hQ _ s q _ H .refl t (.bl _)⟩
theorem so_isNot : So K rNotB (isRJ (!·)) := by
  intro F s H v u x y Q QV t jx jy hQ h
  obtain ⟨a, b, rfl, rfl, q⟩ := h
  cases jx; cases jy
  exact ⟨a, b, rfl, rfl, hQ _ s q _ H .refl t (.bl _)⟩
/-! ## in -/
def rInT (K : PySem.W.Frag) (n : Bool) : R2 := fun x y H Q => ∃ d ds, Dp K H x d ∧ Dp K H y (.tuple ds) ∧ SeqAt.shaped d = true ∧ SeqAt.shaped (.tuple ds) = true ∧ Q (.bl (if n then !ds.any fun z => PyData.eqv z d else ds.any fun z => PyData.eqv z d)) H
def rInC (n : Bool) : R2 := fun x y H Q => ∃ (c : Nat) (z : Str), x = .str ⟨#[c]⟩ ∧ y = .str z ∧ Q (.bl (if n then !decide (c ∈ z.cps.toList) else decide (c ∈ z.cps.toList))) H
def rInK (n : Bool) : R2 := fun x y H Q => ∃ a o, y = .ref a ∧ DGet H a x o ∧ Q (.bl (if n then !o.isSome else o.isSome)) H
theorem op_inT {X : Cx} (hu : X.A.units + 65 < cLine) : OpR X (compareOp .In) (rInT X.K false) := fun pins s σ H x y v u Q I rx ry h => by
  obtain ⟨d, ds, hd, he, sd, se, q⟩ := h
  obtain ⟨as, r1⟩ := Dp.reads I d x v hd rx
  obtain ⟨bs, r2⟩ := Dp.reads I (.tuple ds) y u he ry
  exact SeqAt.in_tuple_reads r2 r1 (SeqAt.canLay_of_shaped se) (SeqAt.canLay_of_shaped sd) (room_in_shaped sd hu) ⟨.bl _, H, I, rfl, q⟩
theorem op_notInT {X : Cx} (hu : X.A.units + 65 < cLine) : OpR X (compareOp .NotIn) (rInT X.K true) := fun pins s σ H x y v u Q I rx ry h => by
  obtain ⟨d, ds, hd, he, sd, se, q⟩ := h
  obtain ⟨as, r1⟩ := Dp.reads I d x v hd rx
  obtain ⟨bs, r2⟩ := Dp.reads I (.tuple ds) y u he ry
  exact SeqAt.notIn_tuple_reads r2 r1 (SeqAt.canLay_of_shaped se) (SeqAt.canLay_of_shaped sd) (room_in_shaped sd hu) ⟨.bl _, H, I, rfl, q⟩
theorem op_inK {X : Cx} (hu : X.A.units + 65 < cLine) : OpR X (compareOp .In) (rInK false) := fun pins s σ H x y v u Q I rx ry h => by
  obtain ⟨a, o, rfl, g, q⟩ := h
  cases ry
  exact d_in (by omega) I g rx fun s' I' => ⟨.bl _, H, I', rfl, q⟩
theorem op_notInK {X : Cx} (hu : X.A.units + 65 < cLine) : OpR X (compareOp .NotIn) (rInK true) := fun pins s σ H x y v u Q I rx ry h => by
  obtain ⟨a, o, rfl, g, q⟩ := h
  cases ry
  exact d_notIn (by omega) I g rx fun s' I' => ⟨.bl _, H, I', rfl, q⟩
def uIn (K : PySem.W.Frag) : R2 := fun x y H Q => rInC false x y H Q ∨ (rInD K x y H Q ∨ (rInT K false x y H Q ∨ rInK false x y H Q))
def uNotIn (K : PySem.W.Frag) : R2 := fun x y H Q => rInC true x y H Q ∨ (rNotInD K x y H Q ∨ (rInT K true x y H Q ∨ rInK true x y H Q))
theorem op_inU {X : Cx} (hu : X.A.units + 65 < cLine) : OpR X (compareOp .In) (uIn X.K) := OpR.or op_in_sign (OpR.or (op_inD hu) (OpR.or (op_inT hu) (op_inK hu)))
theorem op_notInU {X : Cx} (hu : X.A.units + 65 < cLine) : OpR X (compareOp .NotIn) (uNotIn X.K) := OpR.or op_notIn_sign (OpR.or (op_notInD hu) (OpR.or (op_notInT hu) (op_notInK hu)))
theorem py_any (d : J) : ∀ l : List J, (J.pys l).any (fun z => PyData.eqv z d.py) = l.any fun z => eqJ z d
  | [] => by unfold J.pys; rfl
  | e :: r => by unfold J.pys; rw [List.any_cons, List.any_cons, py_any d r]; rfl
def keyOf : J → Option Key
  | .int i => some (.inl i)
  | .str z => some (.inr z)
  | _ => none
def inR (s : Sto) (x y : J) (f : Bool → Bool) (Q : QJ) : Prop := match x, res s y with
  | x, .dct l => ∃ k, keyOf x = some k ∧ Q (.bl (f (valJ l k).isSome)) s
  | .str c, .str z => ∃ n, c = ⟨#[n]⟩ ∧ Q (.bl (f (decide (n ∈ z.cps.toList)))) s
  | x, .lst l => ((res s x).ok = true ∧ (J.lst l).ok = true) ∧ Q (.bl (f (l.any fun z => eqJ z (res s x)))) s
  | x, .tup l => ((res s x).ok = true ∧ (J.tup l).ok = true) ∧ Q (.bl (f (l.any fun z => eqJ z (res s x)))) s
  | _, _ => False
def inRJ (x y : J) (s : Sto) (Q : QJ) : Prop := inR s x y id Q
def notInRJ (x y : J) (s : Sto) (Q : QJ) : Prop := inR s x y (!·) Q
theorem keyOf_v {G : Hp} {v : V} {d : J} {k : Key} (j : Jp K G v d) (e : keyOf d = some k) : v = kV k := by
  cases j <;> cases e <;> rfl
theorem dget_of {F : Hp} {s : Sto} {H : Hp} {v u : V} {d x : J} {l : List (Key × J)} {k : Key} (t : Stt K F s H) (j : Jp K (mask F s H) v d) (e : res s d = .dct l) (jx : Jp K (mask F s H) u x) (hk : keyOf x = some k) :
    ∃ a o, v = .ref a ∧ DGet H a u o ∧ ((o = none ∧ valJ l k = none) ∨ ∃ w y, o = some w ∧ valJ l k = some y ∧ Jp K (mask F s H) w y) := by
  obtain ⟨a, h, xs, rfl, e1, c, r⟩ := jp_dct t j e
  rw [keyOf_v jx hk]
  refine ⟨a, valV xs k, rfl, ?_, ?_⟩
  · rcases cor_dK c with rfl | ⟨o, rfl⟩
    · exact .inl ⟨xs, k, .inl e1, rfl, rfl⟩
    · exact .inl ⟨xs, k, .inr ⟨o, e1⟩, rfl, rfl⟩
  · rcases r.val (k := k) with ⟨h1, h2⟩ | ⟨w, y, h1, h2, h3⟩
    · exact .inl ⟨h1, h2⟩
    · exact .inr ⟨w, y, h1, h2, h3⟩
theorem res_lst {s : Sto} {y : J} {l : List J} (e : res s y = .lst l) : lstX s y = some l := by
  cases y with
  | own a =>
    unfold res at e
    unfold lstX
    dsimp only at e ⊢
    split at e
    · cases e; rename_i h; rw [h]
    · cases e
    · cases e
    · cases e
  | lst l' => cases e; rfl
  | _ => cases e
theorem res_tup {s : Sto} {y : J} {l : List J} (e : res s y = .tup l) : y = .tup l := by
  cases y with
  | own a =>
    unfold res at e
    dsimp only at e
    split at e <;> cases e
  | _ => exact e
theorem res_str {s : Sto} {y : J} {l : Str} (e : res s y = .str l) : y = .str l := by
  cases y with
  | own a =>
    unfold res at e
    dsimp only at e
    split at e <;> cases e
  | _ => exact e
theorem so_in_core {F : Hp} {s : Sto} {H : Hp} {v u : V} {x y : J} {Q : QJ} {QV : VK} {f : Bool → Bool} (t : Stt K F s H) (jx : Jp K (mask F s H) v x) (jy : Jp K (mask F s H) u y) (hQ : ∀ d s', Q d s' → Bk K F (mask F s H) QV d s') (h : inR s x y f Q) :
    (∃ (c : Nat) (z : Str), v = .str ⟨#[c]⟩ ∧ u = .str z ∧ QV (.bl (f (decide (c ∈ z.cps.toList)))) H) ∨ ((∃ d ds, Dp K H v d ∧ (Dp K H u (.list ds) ∨ Dp K H u (.tuple ds)) ∧ SeqAt.shaped d = true ∧ SeqAt.shaped (.list ds) = true ∧ SeqAt.shaped (.tuple ds) = true ∧ QV (.bl (f (ds.any fun z => PyData.eqv z d))) H) ∨
      ∃ a o, u = .ref a ∧ DGet H a v o ∧ QV (.bl (f o.isSome)) H) := by
  have fin : ∀ b, Q (.bl b) s → QV (.bl b) H := fun b q => hQ _ s q _ H .refl t (.bl _)
  unfold inR at h
  split at h
  · rename_i l e
    obtain ⟨k, hk, q⟩ := h
    obtain ⟨a, o, rfl, g, c⟩ := dget_of t jy e jx hk
    refine .inr (.inr ⟨a, o, rfl, g, ?_⟩)
    rcases c with ⟨rfl, c⟩ | ⟨w, y2, rfl, c, _⟩
    · rw [c] at q
      exact fin _ q
    · rw [c] at q
      exact fin _ q
  · rename_i c z e
    obtain ⟨n, rfl, q⟩ := h
    cases res_str e
    cases jx
    cases jy
    exact .inl ⟨n, z, rfl, rfl, fin _ q⟩
  · obtain ⟨⟨h1, h2⟩, q⟩ := h
    rename_i l _
    have e : res s y = .lst l := by assumption
    have d1 := res_dp t jx h1
    rw [← e] at h2
    have d2 := res_dp t jy h2
    rw [e] at d2 h2
    have d2' : Dp K H u (.list (J.pys l)) := by unfold J.py at d2; exact d2
    have sh := shaped_of h2
    rw [← py_any] at q
    refine .inr (.inl ⟨_, J.pys l, d1, .inl d2', shaped_of h1, ?_, ?_, fin _ q⟩)
    · unfold J.py at sh; exact sh
    · have : (J.tup l).ok = true := by unfold J.ok J.okd at h2 ⊢; exact h2
      have sh := shaped_of this
      unfold J.py at sh; exact sh
  · obtain ⟨⟨h1, h2⟩, q⟩ := h
    rename_i l _
    have e : res s y = .tup l := by assumption
    have d1 := res_dp t jx h1
    rw [← e] at h2
    have d2 := res_dp t jy h2
    rw [e] at d2 h2
    have d2' : Dp K H u (.tuple (J.pys l)) := by unfold J.py at d2; exact d2
    have sh := shaped_of h2
    rw [← py_any] at q
    refine .inr (.inl ⟨_, J.pys l, d1, .inr d2', shaped_of h1, ?_, ?_, fin _ q⟩)
    · have : (J.lst l).ok = true := by unfold J.ok J.okd at h2 ⊢; exact h2
      have sh := shaped_of this
      unfold J.py at sh; exact sh
    · unfold J.py at sh; exact sh
  · exact h.elim
theorem so_in : So K (uIn K) inRJ := by
  intro F s H v u x y Q QV t jx jy hQ h
  rcases so_in_core t jx jy hQ h with ⟨c, z, e1, e2, q⟩ | ⟨d, ds, d1, d2, s1, s2, s3, q⟩ | ⟨a, o, e, g, q⟩
  · exact .inl ⟨c, z, e1, e2, q⟩
  · rcases d2 with d2 | d2
    · exact .inr (.inl ⟨d, ds, d1, d2, s1, s2, q⟩)
    · exact .inr (.inr (.inl ⟨d, ds, d1, d2, s1, s3, q⟩))
  · exact .inr (.inr (.inr ⟨a, o, e, g, q⟩))
theorem so_notIn : So K (uNotIn K) notInRJ := by
  intro F s H v u x y Q QV t jx jy hQ h
  rcases so_in_core t jx jy hQ h with ⟨c, z, e1, e2, q⟩ | ⟨d, ds, d1, d2, s1, s2, s3, q⟩ | ⟨a, o, e, g, q⟩
  · exact .inl ⟨c, z, e1, e2, q⟩
  · rcases d2 with d2 | d2
    · exact .inr (.inl ⟨d, ds, d1, d2, s1, s2, q⟩)
    · exact .inr (.inr (.inl ⟨d, ds, d1, d2, s1, s3, q⟩))
  · exact .inr (.inr (.inr ⟨a, o, e, g, q⟩))
end
end M

namespace M
open PySem PySem.Spec PyProof.Rows L2
/-! ## subscripts -/
def rIxD : R2 := fun x y H Q => ∃ a v, x = .ref a ∧ DGet H a y (some v) ∧ Q v H
theorem ix_dict {X : Cx} (hu : X.A.units + 1 < cLine) : IxR X rIxD := by
  intro value slice pins s σ H x y v u Q I rx ry h hs
  obtain ⟨a, w, rfl, g, q⟩ := h
  obtain rfl : v = Value.ref a := rx
  have hT := dict_typeIs I g
  unfold subscriptTail
  refine wpAny_bind ?_
  rw [getitemInPython_of_ne hT.not_modules]
  refine wpAny_bind (wpAny_specialOf hT PySem.F.slot_dict_getitem.lookup ?_)
  have fin : wpAny (model X.prog X.w) X.A (subscripted slice false (.ref a) u) (fun r s₃ => wpAny (model X.prog X.w) X.A (letTemporaryGo value (.ref a) r >>= fun _ => pure r) (EP X pins σ Q) X.xe s₃) X.xe s := by
    rw [hs]
    exact wpAny_operating (wpAny_mono (d_getItem hu I g ry fun w' s3 I3 rw' => ⟨w, H, I3, rw', q⟩) (fun r s₃ h₃ => wpAny_bind (wpAny_letTemporaryGo (wpAny_pure h₃))) fun _ _ x => x)
  first
    | exact wpAny_pure (wpAny_bind fin)
    | exact wpAny_bind (wpAny_pure (wpAny_bind fin))
    | exact wpAny_bind fin
def uIx (K : PySem.W.Frag) : R2 := fun x y H Q => rIxL K x y H Q ∨ (rIxT K x y H Q ∨ (rIxS x y H Q ∨ rIxD x y H Q))
theorem ix_U {X : Cx} (hu : X.A.units + 1 < cLine) : IxR X (uIx X.K) := IxR.or ix_list (IxR.or ix_tup (IxR.or ix_str (ix_dict hu)))
def ixR (s : Sto) (x y : J) (Q : QJ) : Prop := match res s x, y with
  | .lst l, .int i => ∃ d, atI l i = some d ∧ Q d s
  | .tup l, .int i => ∃ d, atI l i = some d ∧ Q d s
  | .scr l, .int i => ∃ d, atI (l.map J.int) i = some d ∧ Q d s
  | .str z, .int i => z.length ≤ 100000 ∧ ∃ c, atI z.cps.toList i = some c ∧ Q (.str ⟨#[c]⟩) s
  | .dct l, y => ∃ k d, keyOf y = some k ∧ valJ l k = some d ∧ Q d s
  | _, _ => False
def ixJ (x y : J) (s : Sto) (Q : QJ) : Prop := ixR s x y Q
section
variable {K : PySem.W.Frag}
theorem Jps.atI {G : Hp} {xs : List V} {l : List J} {i : Int} {d : J} (h : Jps K G xs l) (e : L2.atI l i = some d) : ∃ u, L2.atI xs i = some u ∧ Jp K G u d := by
  unfold L2.atI at e ⊢
  rw [h.length]
  cases z : ixN l.length i with
  | none => rw [z] at e; cases e
  | some j =>
    rw [z] at e
    exact h.get e
theorem res_scr {s : Sto} {y : J} {l : List Int} (e : res s y = .scr l) : y = .scr l := by
  cases y with
  | own a =>
    unfold res at e
    dsimp only at e
    split at e <;> cases e
  | _ => exact e
theorem so_ix : So K (uIx K) ixJ := by
  intro F s H v u x y Q QV t jx jy hQ h
  unfold ixJ ixR at h
  have fin : ∀ d w, Q d s → Jp K (mask F s H) w d → QV w H := fun d w q j => hQ _ s q _ H .refl t j
  split at h
  · rename_i l i e
    obtain ⟨d, e1, q⟩ := h
    cases jy
    obtain ⟨a, xs, rfl, h1, r⟩ := jp_lstX t jx (res_lst e)
    obtain ⟨w, e2, j2⟩ := r.atI e1
    exact .inl ⟨a, xs, _, w, rfl, rfl, .inl (.inl h1), e2, fin d w q j2⟩
  · rename_i l i e
    obtain ⟨d, e1, q⟩ := h
    cases jy
    cases res_tup e
    cases jx with | tup h1 r =>
    obtain ⟨w, e2, j2⟩ := r.atI e1
    exact .inr (.inl ⟨_, _, _, w, rfl, rfl, sqt_mask h1, e2, fin d w q j2⟩)
  · rename_i l i e
    obtain ⟨d, e1, q⟩ := h
    cases jy
    obtain ⟨a, xs, rfl, h1, r⟩ := jp_list (l := l.map J.int) t jx (by rw [res_scr e]; rfl)
    obtain ⟨w, e2, j2⟩ := r.atI e1
    exact .inl ⟨a, xs, _, w, rfl, rfl, h1, e2, fin d w q j2⟩
  · rename_i z i e
    obtain ⟨hz, c, e1, q⟩ := h
    cases jy
    cases res_str e
    cases jx
    exact .inr (.inr (.inl ⟨z, _, c, rfl, rfl, Nat.le_trans hz (by decide), e1, fin _ _ q (.str _)⟩))
  · rename_i l _ e
    obtain ⟨k, d, hk, e1, q⟩ := h
    obtain ⟨a, o, rfl, g, c⟩ := dget_of t jx e jy hk
    rcases c with ⟨_, c⟩ | ⟨w, y2, rfl, c, j2⟩
    · rw [e1] at c; cases c
    · rw [e1] at c
      cases c
      exact .inr (.inr (.inr ⟨a, w, rfl, g, fin d w q j2⟩))
  · exact h.elim
end
/-! ## slices -/
abbrev PJo := Rho → Sto → (Option Int → Sto → Prop) → XJ → Prop
def So_ (K : PySem.W.Frag) (W : WX) (t : TO) (p : PJo) : Prop := ∀ (F : Hp) (ρ : Rho) (s : Sto) (σ : L2.St) (H : Hp) (Q : Option Int → Sto → Prop) (R : XJ) (QV : Option Int → Hp → Prop), At K F ρ s σ H →
  (∀ d s', Q d s' → ∀ H', Le (mask F s H) (mask F s' H') → Stt K F s' H' → QV d H') → (∀ c fs s', R c fs s' → Xk K F (mask F s H) (fun cl d H' => W cl d σ H') c fs s') → p ρ s Q R → t σ H QV
def jNoPart : PJo := fun _ s Q _ => Q none s
def jPart (p : TJ) : PJo := fun ρ s Q R => p ρ s (fun d s1 => ∃ i, d = .int i ∧ Q (some i) s1) R
def jSl (r : J → Option Int → Option Int → Sto → QJ → Prop) (p : TJ) (lo hi : PJo) : TJ := fun ρ s Q R => p ρ s (fun x s1 => lo ρ s1 (fun l s2 => hi ρ s2 (fun u s3 => r x l u s3 Q) R) R) R
def cutJ (xs : List J) (lo hi : Option Int) : List J := (xs.drop (HT.sIx xs.length 0 lo)).take (HT.sIx xs.length xs.length hi - HT.sIx xs.length 0 lo)
def uSl (K : PySem.W.Frag) : V → Option Int → Option Int → Hp → VK → Prop := fun x lo hi H Q => rSlL K x lo hi H Q ∨ (rSlA K x lo hi H Q ∨ rSlS x lo hi H Q)
theorem sl_U {X : Cx} : SlR X (uSl X.K) := SlR.or sl_list (SlR.or sl_tupA sl_str)
def slR (s : Sto) (x : J) (lo hi : Option Int) (fin : List J → Prop) (Q : QJ) : Prop := match x with
  | .tup l => Q (.tup (cutJ l lo hi)) s
  | .str z => z.length ≤ 100000 ∧ Q (.str (cutS z lo hi)) s
  | x => ∃ l, lstOf s x = some l ∧ fin (cutJ l lo hi)
def slJ (x : J) (lo hi : Option Int) (s : Sto) (Q : QJ) : Prop := slR s x lo hi (fun l => Q (.lst l) s) Q
def slJO (x : J) (lo hi : Option Int) (s : Sto) (Q : QJ) : Prop := slR s x lo hi (fun l => ∀ p, s p = none → Q (.own p) (put s p (.lst l))) Q
section
variable {K : PySem.W.Frag} {W : WX} {ta te : TE} {pa pe : TJ} {xa : TA} {qa : AJ}
theorem so_noPart : So_ K W tNoPart jNoPart := fun F ρ s σ H Q R QV a hQ _ q => hQ none s q H .refl a.st
theorem so_part (ha : Se K W ta pa) : So_ K W (tPart ta) (jPart pa) := by
  intro F ρ s σ H Q R QV a hQ hR h
  refine ha F ρ s σ H _ R _ a (fun x s1 h1 v1 H1 l1 st1 j1 => ?_) hR h
  obtain ⟨i, rfl, q⟩ := h1
  cases j1
  exact ⟨i, rfl, hQ _ s1 q H1 l1 st1⟩
theorem Jps.cut {G : Hp} {xs : List V} {l : List J} (lo hi : Option Int) (h : Jps K G xs l) : Jps K G (cutV xs lo hi) (cutJ l lo hi) := by
  unfold cutV cutJ
  rw [h.length]
  exact (h.drop _).take _
def Ssl (K : PySem.W.Frag) (r : V → Option Int → Option Int → Hp → VK → Prop) (rj : J → Option Int → Option Int → Sto → QJ → Prop) : Prop := ∀ (F : Hp) (s : Sto) (H : Hp) (v : V) (x : J) (lo hi : Option Int) (Q : QJ) (QV : VK), Stt K F s H → Jp K (mask F s H) v x →
  (∀ d s', Q d s' → Bk K F (mask F s H) QV d s') → rj x lo hi s Q → r v lo hi H QV
theorem ssl_core {F : Hp} {s : Sto} {H : Hp} {v : V} {x : J} {lo hi : Option Int} {fin : List J → Prop} {Q : QJ} {QV : VK} (t : Stt K F s H) (jx : Jp K (mask F s H) v x) (hQ : ∀ d s', Q d s' → Bk K F (mask F s H) QV d s')
    (hf : ∀ l xs p, fin l → H p = none → Jps K (mask F s H) xs l → QV (.ref p) (upd H p (.lst xs))) (h : slR s x lo hi fin Q) : uSl K v lo hi H QV := by
  have L : ∀ {x : J}, Jp K (mask F s H) v x → (∃ l, lstOf s x = some l ∧ fin (cutJ l lo hi)) → uSl K v lo hi H QV := fun jx h => by
    obtain ⟨l, e, q⟩ := h
    obtain ⟨a, xs, rfl, h1, r⟩ := jp_list t jx e
    exact .inl ⟨a, xs, rfl, h1, fun p hp => hf _ _ p q hp (r.cut lo hi)⟩
  unfold slR at h
  split at h
  · rename_i l
    cases jx with | tup h1 r =>
    rename_i a xs
    refine .inr (.inl ⟨a, xs, rfl, sqt_mask h1, fun w => ?_, fun w p hp => ?_⟩)
    · have e : cutJ l lo hi = l := by
        unfold cutJ
        rw [← r.length, w.1, w.2, r.length]
        simp
      rw [e] at h
      exact hQ _ s h _ H .refl t (.tup h1 r)
    · exact hQ _ s h _ _ (.new hp) (t.new hp) (.tup (.inl (.inl (mask_new t hp))) ((r.cut lo hi).up (.new hp)))
  · rename_i z
    cases jx
    exact .inr (.inr ⟨z, rfl, Nat.le_trans h.1 (by decide), hQ _ s h.2 _ H .refl t (.str _)⟩)
  · exact L jx h
theorem ssl_U : Ssl K (uSl K) slJ := by
  intro F s H v x lo hi Q QV t jx hQ h
  exact ssl_core t jx hQ (fun l xs p q hp r => hQ _ s q _ _ (.new hp) (t.new hp) (.lst (mask_new t hp) (r.up (.new hp)))) h
theorem ssl_UO : Ssl K (uSl K) slJO := by
  intro F s H v x lo hi Q QV t jx hQ h
  exact ssl_core t jx hQ (fun l xs p q hp r => hQ _ _ (q p (t.fresh hp).1) _ _ (.newO hp) (t.newO (o := .lst l) hp r) (.own p)) h
theorem se_sl {r : V → Option Int → Option Int → Hp → VK → Prop} {rj : J → Option Int → Option Int → Sto → QJ → Prop} {tl th : TO} {pl ph : PJo} (hs : Ssl K r rj) (ha : Se K W ta pa) (hl : So_ K W tl pl) (hh : So_ K W th ph) : Se K W (tSl r ta tl th) (jSl rj pa pl ph) := by
  intro F ρ s σ H Q R QV a hQ hR h
  refine ha F ρ s σ H _ R _ a (fun x s1 h1 v1 H1 l1 st1 j1 => ?_) hR h
  refine hl F ρ s1 σ H1 _ R _ (a.to l1 st1) (fun y s2 h2 H2 l2 st2 => ?_) (fun c fs s' hr => (hR c fs s' hr).up l1) h1
  refine hh F ρ s2 σ H2 _ R _ (a.to (l1.trans l2) st2) (fun z s3 h3 H3 l3 st3 => ?_) (fun c fs s' hr => (hR c fs s' hr).up (l1.trans l2)) h2
  exact hs F s3 H3 v1 x y z Q QV st3 ((j1.up l2).up l3) (fun d s' q => (hQ d s' q).up ((l1.trans l2).trans l3)) h3
end
/-! ## built-in functions -/
def uLen (K : PySem.W.Frag) : List V → Hp → VK → Prop := fun xs H Q => (∃ p ys, xs = [.ref p] ∧ (SqL K H p ys ∨ SqT K H p ys) ∧ Q (.int ys.length) H) ∨ ((∃ z, xs = [.str z] ∧ z.length ≤ sizeLine ∧ Q (.int z.length) H) ∨ (∃ a kvs, xs = [V.ref a] ∧ Rd H a (.dK kvs) ∧ Q (.int kvs.length) H))
theorem call_lenR {X : Cx} : CallR X (.builtin "len") (fun xs H Q => ∃ a kvs, xs = [V.ref a] ∧ Rd H a (.dK kvs) ∧ Q (.int kvs.length) H) := by
  intro pins s σ H xs us Q I r h
  obtain ⟨a, kvs, rfl, ha, q⟩ := h
  obtain ⟨u, rfl, ru⟩ := vals1 r
  cases ru
  exact d_len I ha fun t s' I' => ⟨.int kvs.length, H, I', ⟨t, rfl⟩, q⟩
theorem call_lenU {X : Cx} : CallR X (.builtin "len") (uLen X.K) := CallR.or call_len_seq (CallR.or call_len_str call_lenR)
/-- a dict that is to be read exactly: not locked -/
def lenJ (xs : List J) (s : Sto) (Q : QJ) : Prop := match xs with
  | [.str z] => z.length ≤ 100000 ∧ Q (.int z.length) s
  | [.tup l] => Q (.int l.length) s
  | [.own a] => match s a with
    | some (.lst l) => Q (.int l.length) s
    | some (.dct l) => Q (.int l.length) s
    | _ => False
  | [.lst l] => Q (.int l.length) s
  | [.dct l] => Q (.int l.length) s
  | [.scr l] => Q (.int l.length) s
  | _ => False
def jAbs (xs : List J) (s : Sto) (Q : QJ) : Prop := ∃ i, xs = [.int i] ∧ Q (.int (i.natAbs : Int)) s
def jInt (xs : List J) (s : Sto) (Q : QJ) : Prop := match xs with
  | [.int i] => Q (.int i) s
  | [.bl b] => Q (.int (if b then 1 else 0)) s
  | _ => False
def jMax2 (xs : List J) (s : Sto) (Q : QJ) : Prop := ∃ i j, xs = [.int i, .int j] ∧ Q (.int (max i j)) s
def jMin2 (xs : List J) (s : Sto) (Q : QJ) : Prop := ∃ i j, xs = [.int i, .int j] ∧ Q (.int (min i j)) s
def jStr (xs : List J) (s : Sto) (Q : QJ) : Prop := match xs with
  | [.int i] => i.natAbs < 10 ^ 300 ∧ Q (.str (toString i)) s
  | [.str z] => Q (.str z) s
  | _ => False
def jAll (xs : List J) (s : Sto) (Q : QJ) : Prop := ∃ (d : J) (bs : List Bool), xs = [d] ∧ lstOf s d = some (bs.map J.bl) ∧ Q (.bl (bs.all id)) s
def jAny (xs : List J) (s : Sto) (Q : QJ) : Prop := ∃ (d : J) (bs : List Bool), xs = [d] ∧ lstOf s d = some (bs.map J.bl) ∧ Q (.bl (bs.any id)) s
def jSum (xs : List J) (s : Sto) (Q : QJ) : Prop := ∃ (d : J) (ns : List Int), xs = [d] ∧ lstOf s d = some (ns.map J.int) ∧ Q (.int ns.sum) s
/-- tuple(x); list(x): a new list, seen or of the store -/
def jTuple (xs : List J) (s : Sto) (Q : QJ) : Prop := match xs with
  | [.tup l] => Q (.tup l) s
  | [d] => ∃ l, lstOf s d = some l ∧ Q (.tup l) s
  | _ => False
def seqOf (s : Sto) : J → Option (List J)
  | .tup l => some l
  | d => lstOf s d
def jList (xs : List J) (s : Sto) (Q : QJ) : Prop := ∃ d l, xs = [d] ∧ seqOf s d = some l ∧ Q (.lst l) s
def jListO (xs : List J) (s : Sto) (Q : QJ) : Prop := ∃ d l, xs = [d] ∧ seqOf s d = some l ∧ ∀ p, s p = none → Q (.own p) (put s p (.lst l))
section
variable {K : PySem.W.Frag} {W : WX} {ta te : TE} {pa pe : TJ} {xa : TA} {qa : AJ}
theorem jps1 {G : Hp} {v : List V} {d : J} (h : Jps K G v [d]) : ∃ u, v = [u] ∧ Jp K G u d := by
  cases h with | cons j r =>
  cases r
  exact ⟨_, rfl, j⟩
theorem jps2 {G : Hp} {v : List V} {d e : J} (h : Jps K G v [d, e]) : ∃ u w, v = [u, w] ∧ Jp K G u d ∧ Jp K G w e := by
  cases h with | cons j r =>
  obtain ⟨w, rfl, j2⟩ := jps1 r
  exact ⟨_, _, rfl, j, j2⟩
theorem jps3 {G : Hp} {v : List V} {d e f : J} (h : Jps K G v [d, e, f]) : ∃ u w x, v = [u, w, x] ∧ Jp K G u d ∧ Jp K G w e ∧ Jp K G x f := by
  cases h with | cons j r =>
  obtain ⟨w, x, rfl, j2, j3⟩ := jps2 r
  exact ⟨_, _, _, rfl, j, j2, j3⟩
theorem sf_len : Sf K (uLen K) lenJ := by
  intro F s H v x Q QV t js hQ h
  have fin : ∀ i, Q (.int i) s → QV (.int i) H := fun i q => hQ _ s q _ H .refl t (.int _)
  unfold lenJ at h
  split at h
  · obtain ⟨u, rfl, j⟩ := jps1 js
    cases j
    exact .inr (.inl ⟨_, rfl, Nat.le_trans h.1 (by decide), fin _ h.2⟩)
  · obtain ⟨u, rfl, j⟩ := jps1 js
    cases j with | tup h1 r =>
    exact .inl ⟨_, _, rfl, .inr (sqt_mask h1), by rw [r.length]; exact fin _ h⟩
  · obtain ⟨u, rfl, j⟩ := jps1 js
    cases j
    split at h
    · rename_i l e
      obtain ⟨xs, h1, r⟩ := t.lst e
      exact .inl ⟨_, _, rfl, .inl (.inl (.inl h1)), by rw [r.length]; exact fin _ h⟩
    · rename_i l e
      obtain ⟨xs, h1, r⟩ := t.dct e
      exact .inr (.inr ⟨_, _, rfl, .inl h1, by rw [r.length]; exact fin _ h⟩)
    · exact h.elim
  · obtain ⟨u, rfl, j⟩ := jps1 js
    cases j with | lst h1 r =>
    exact .inl ⟨_, _, rfl, .inl (.inl (.inl (of_mask h1).2.2)), by rw [r.length]; exact fin _ h⟩
  · obtain ⟨u, rfl, j⟩ := jps1 js
    cases j with | dct h1 c r =>
    rcases cor_dK c with rfl | ⟨o, rfl⟩
    · exact .inr (.inr ⟨_, _, rfl, .inl (of_mask h1).2.2, by rw [r.length]; exact fin _ h⟩)
    · exact .inr (.inr ⟨_, _, rfl, .inr ⟨o, (of_mask h1).2.2⟩, by rw [r.length]; exact fin _ h⟩)
  · obtain ⟨u, rfl, j⟩ := jps1 js
    cases j with | scr h1 =>
    rename_i l a
    refine .inl ⟨_, _, rfl, .inl (sql_mask h1), ?_⟩
    rw [List.length_map]
    exact fin _ h
  · exact h.elim
def mAbs : List V → Hp → VK → Prop := fun xs H Q => ∃ i, xs = [.int i] ∧ Q (.int (if i < 0 then -i else i)) H
def mInt : List V → Hp → VK → Prop := fun xs H Q => (∃ i, xs = [.int i] ∧ Q (.int i) H) ∨ ∃ k, xs = [.bl k] ∧ Q (.int (if k then 1 else 0)) H
def mMax2 : List V → Hp → VK → Prop := fun xs H Q => ∃ i j, xs = [.int i, .int j] ∧ Q (.int (if j > i then j else i)) H
def mMin2 : List V → Hp → VK → Prop := fun xs H Q => ∃ i j, xs = [.int i, .int j] ∧ Q (.int (if j < i then j else i)) H
def uStr : List V → Hp → VK → Prop := fun xs H Q => (∃ i, xs = [.int i] ∧ i.natAbs.log2 < 1920 ∧ Q (.str (toString i)) H) ∨ ∃ a, xs = [.str a] ∧ Q (.str a) H
theorem call_strU {X : Cx} : CallR X (.type "str") uStr := CallR.or call_str_int SkE.call_str_str
theorem sf_abs : Sf K mAbs jAbs := by
  intro F s H v x Q QV t js hQ h
  obtain ⟨i, rfl, q⟩ := h
  obtain ⟨u, rfl, j⟩ := jps1 js
  cases j
  have e : (if i < 0 then -i else i) = (i.natAbs : Int) := by split <;> omega
  exact ⟨i, rfl, by rw [e]; exact hQ _ s q _ H .refl t (.int _)⟩
theorem sf_int : Sf K mInt jInt := by
  intro F s H v x Q QV t js hQ h
  unfold jInt at h
  split at h
  · obtain ⟨u, rfl, j⟩ := jps1 js
    cases j
    exact .inl ⟨_, rfl, hQ _ s h _ H .refl t (.int _)⟩
  · obtain ⟨u, rfl, j⟩ := jps1 js
    cases j
    exact .inr ⟨_, rfl, hQ _ s h _ H .refl t (.int _)⟩
  · exact h.elim
theorem sf_max2 : Sf K mMax2 jMax2 := by
  intro F s H v x Q QV t js hQ h
  obtain ⟨i, k, rfl, q⟩ := h
  obtain ⟨u, w, rfl, j1, j2⟩ := jps2 js
  cases j1; cases j2
  have e : (if k > i then k else i) = max i k := by rw [Int.max_def]; split <;> split <;> omega
  exact ⟨i, k, rfl, by rw [e]; exact hQ _ s q _ H .refl t (.int _)⟩
theorem sf_min2 : Sf K mMin2 jMin2 := by
  intro F s H v x Q QV t js hQ h
  obtain ⟨i, k, rfl, q⟩ := h
  obtain ⟨u, w, rfl, j1, j2⟩ := jps2 js
  cases j1; cases j2
  have e : (if k < i then k else i) = min i k := by rw [Int.min_def]; split <;> split <;> omega
  exact ⟨i, k, rfl, by rw [e]; exact hQ _ s q _ H .refl t (.int _)⟩
theorem sf_str : Sf K uStr jStr := by
  intro F s H v x Q QV t js hQ h
  unfold jStr at h
  split at h
  · obtain ⟨u, rfl, j⟩ := jps1 js
    cases j
    rename_i i
    have h1 : i.natAbs < 2 ^ 1000 := Nat.lt_of_lt_of_le h.1 (by decide +kernel)
    have h2 := PySem.Flt.log2_lt_of (by decide : 0 < 1000) h1
    exact .inl ⟨_, rfl, Nat.lt_trans h2 (by decide), hQ _ s h.2 _ H .refl t (.str _)⟩
  · obtain ⟨u, rfl, j⟩ := jps1 js
    cases j
    exact .inr ⟨_, rfl, hQ _ s h _ H .refl t (.str _)⟩
  · exact h.elim
theorem sf_all : Sf K (rAll K) jAll := by
  intro F s H v x Q QV t js hQ h
  obtain ⟨d, bs, rfl, e, q⟩ := h
  obtain ⟨u, rfl, j⟩ := jps1 js
  obtain ⟨a, xs, rfl, h1, r⟩ := jp_list t j e
  exact ⟨a, bs, rfl, by rw [← r.bls]; exact h1, hQ _ s q _ H .refl t (.bl _)⟩
theorem sf_any : Sf K (rAny K) jAny := by
  intro F s H v x Q QV t js hQ h
  obtain ⟨d, bs, rfl, e, q⟩ := h
  obtain ⟨u, rfl, j⟩ := jps1 js
  obtain ⟨a, xs, rfl, h1, r⟩ := jp_list t j e
  exact ⟨a, bs, rfl, by rw [← r.bls]; exact h1, hQ _ s q _ H .refl t (.bl _)⟩
theorem sf_sum : Sf K (rSum K) jSum := by
  intro F s H v x Q QV t js hQ h
  obtain ⟨d, bs, rfl, e, q⟩ := h
  obtain ⟨u, rfl, j⟩ := jps1 js
  obtain ⟨a, xs, rfl, h1, r⟩ := jp_list t j e
  exact ⟨a, bs, rfl, by rw [← r.ints]; exact h1, hQ _ s q _ H .refl t (.int _)⟩
def uTuple (K : PySem.W.Frag) : List V → Hp → VK → Prop := fun xs H Q => ∃ p ys, xs = [.ref p] ∧ ((SqL K H p ys ∧ ∀ l, H l = none → Q (.ref l) (upd H l (.tup ys))) ∨ (SqT K H p ys ∧ Q (.ref p) H))
def uList (K : PySem.W.Frag) : List V → Hp → VK → Prop := fun xs H Q => ∃ p ys, xs = [.ref p] ∧ (SqL K H p ys ∨ SqT K H p ys) ∧ ∀ l, H l = none → Q (.ref l) (upd H l (.lst ys))
theorem call_tupleU {X : Cx} : CallR X (.type "tuple") (uTuple X.K) := call_tuple_of
theorem call_listU {X : Cx} : CallR X (.type "list") (uList X.K) := call_list_of
theorem sf_tuple : Sf K (uTuple K) jTuple := by
  intro F s H v x Q QV t js hQ h
  unfold jTuple at h
  split at h
  · obtain ⟨u, rfl, j⟩ := jps1 js
    cases j with | tup h1 r =>
    exact ⟨_, _, rfl, .inr ⟨sqt_mask h1, hQ _ s h _ H .refl t (.tup h1 r)⟩⟩
  · obtain ⟨u, rfl, j⟩ := jps1 js
    obtain ⟨l, e, q⟩ := h
    obtain ⟨a, xs, rfl, h1, r⟩ := jp_list t j e
    exact ⟨a, xs, rfl, .inl ⟨h1, fun p hp => hQ _ s q _ _ (.new hp) (t.new hp) (.tup (.inl (.inl (mask_new t hp))) (r.up (.new hp)))⟩⟩
  · exact h.elim
theorem jp_seq {F : Hp} {s : Sto} {H : Hp} {v : V} {d : J} {l : List J} (t : Stt K F s H) (j : Jp K (mask F s H) v d) (e : seqOf s d = some l) : ∃ a xs, v = .ref a ∧ (SqL K H a xs ∨ SqT K H a xs) ∧ Jps K (mask F s H) xs l := by
  cases d with
  | tup l' =>
    cases e
    cases j with | tup h1 r =>
    exact ⟨_, _, rfl, .inr (sqt_mask h1), r⟩
  | _ =>
    obtain ⟨a, xs, rfl, h1, r⟩ := jp_list t j e
    exact ⟨a, xs, rfl, .inl h1, r⟩
theorem sf_list : Sf K (uList K) jList := by
  intro F s H v x Q QV t js hQ h
  obtain ⟨d, l, rfl, e, q⟩ := h
  obtain ⟨u, rfl, j⟩ := jps1 js
  obtain ⟨a, xs, rfl, h1, r⟩ := jp_seq t j e
  exact ⟨a, xs, rfl, h1, fun p hp => hQ _ s q _ _ (.new hp) (t.new hp) (.lst (mask_new t hp) (r.up (.new hp)))⟩
theorem sf_listO : Sf K (uList K) jListO := by
  intro F s H v x Q QV t js hQ h
  obtain ⟨d, l, rfl, e, q⟩ := h
  obtain ⟨u, rfl, j⟩ := jps1 js
  obtain ⟨a, xs, rfl, h1, r⟩ := jp_seq t j e
  exact ⟨a, xs, rfl, h1, fun p hp => hQ _ _ (q p (t.fresh hp).1) _ _ (.newO hp) (t.newO (o := .lst l) hp r) (.own p)⟩
/-! ### truth -/
def truJ (s : Sto) (d : J) (Q : Bool → Prop) : Prop := match res s d with
  | .non => Q false
  | .bl b => Q b
  | .int i => Q (i != 0)
  | .str z => z.length ≤ 100000 ∧ Q ((z.length : Int) != 0)
  | .lst l => Q (!l.isEmpty)
  | .tup l => Q (!l.isEmpty)
  | _ => False
def tTruth (K : PySem.W.Frag) (ta : TE) : TT := fun σ H Q => ta σ H fun x H' => ∃ k, TruV K x H' k ∧ Q k H'
theorem pt_tru {X : Cx} {a : Expr} {ta : TE} (ha : PE X a ta) (he : ∀ whole, isTrue a X.env whole = (do let v ← whole; standAt a.pos; holding [v] (truthy v)) := by intro _; rfl) : PT X a (tTruth X.K ta) := pt_truth ha he
def jTruth (p : TJ) : BJ := fun ρ s Q R => p ρ s (fun d s1 => truJ s1 d fun b => Q b s1) R
theorem isEmpty_jps {G : Hp} {xs : List V} {l : List J} (h : Jps K G xs l) : xs.isEmpty = l.isEmpty := by cases h <;> rfl
theorem sb_truth (ha : Se K W ta pa) : Sb K W (tTruth K ta) (jTruth pa) := by
  intro F ρ s σ H Q R QV a hQ hR h
  refine ha F ρ s σ H _ R _ a (fun x s1 h1 v1 H1 l1 st1 j1 => ?_) hR h
  unfold truJ at h1
  split at h1
  · rename_i e
    cases x with
    | non => cases j1; exact ⟨_, rfl, hQ _ s1 h1 H1 l1 st1⟩
    | own b =>
      unfold res at e
      dsimp only at e
      split at e <;> cases e
    | _ => cases e
  · rename_i b e
    cases x with
    | bl b => cases e; cases j1; exact ⟨_, rfl, hQ _ s1 h1 H1 l1 st1⟩
    | own b =>
      unfold res at e
      dsimp only at e
      split at e <;> cases e
    | _ => cases e
  · rename_i i e
    cases x with
    | int b => cases e; cases j1; exact ⟨_, rfl, hQ _ s1 h1 H1 l1 st1⟩
    | own b =>
      unfold res at e
      dsimp only at e
      split at e <;> cases e
    | _ => cases e
  · rename_i z e
    cases res_str e
    cases j1
    exact ⟨_, ⟨Nat.le_trans h1.1 (by decide), rfl⟩, hQ _ s1 h1.2 H1 l1 st1⟩
  · rename_i l e
    obtain ⟨b, xs, rfl, h2, r⟩ := jp_lstX st1 j1 (res_lst e)
    exact ⟨_, .inl ⟨xs, .inl (.inl h2), rfl⟩, by rw [isEmpty_jps r]; exact hQ _ s1 h1 H1 l1 st1⟩
  · rename_i l e
    cases res_tup e
    cases j1 with | tup h2 r =>
    exact ⟨_, .inr (.inl ⟨_, sqt_mask h2, rfl⟩), by rw [isEmpty_jps r]; exact hQ _ s1 h1 H1 l1 st1⟩
  · exact h1.elim
/-! ### isinstance of built-in classes -/
def tyJ (s : Sto) (d : J) : Option String := match res s d with
  | .non => some "NoneType"
  | .bl _ => some "bool"
  | .int _ => some "int"
  | .str _ => some "str"
  | .lst _ => some "list"
  | .tup _ => some "tuple"
  | .dct _ => some "dict"
  | _ => none
theorem tyx_of {F : Hp} {s : Sto} {H : Hp} {v : V} {d : J} {c : String} (t : Stt K F s H) (j : Jp K (mask F s H) v d) (e : tyJ s d = some c) : TyX K H v (.type c) := by
  cases j with
  | non => cases e; exact .base .non
  | bl b => cases e; exact .base (.bl b)
  | int b => cases e; exact .base (.int b)
  | str b => cases e; exact .base (.str b)
  | lst h r => cases e; exact .base (.lst (of_mask h).2.2)
  | tup h r =>
    cases e
    rcases sqt_mask h with (h | ⟨o, h⟩) | h
    · exact .base (.tup h)
    · exact .fTuple h
    · obtain ⟨o, its, n, h, c, _⟩ := h
      exact .kTuple h c
  | dct h c r =>
    cases e
    rcases cor_dK c with rfl | ⟨o, rfl⟩
    · exact .base (.dK (of_mask h).2.2)
    · exact .fDict (of_mask h).2.2
  | own a =>
    have e' : tyJ s (.own a) = (match s a with
      | some (.lst _) => some "list"
      | some (.dct _) => some "dict"
      | _ => none) := by
      unfold tyJ res
      dsimp only
      cases q : s a with
      | none => rfl
      | some o => cases o <;> rfl
    rw [e'] at e
    split at e
    · rename_i q
      cases e
      obtain ⟨xs, h, r⟩ := t.lst q
      exact .base (.lst h)
    · rename_i q
      cases e
      obtain ⟨xs, h, r⟩ := t.dct q
      exact .base (.dK h)
    · cases e
  | _ => cases e
def isT (t c : String) : Bool := t == c || (t == "bool" && c == "int")
def tys7 : List String := ["NoneType", "bool", "int", "str", "list", "tuple", "dict"]
def tys6 : List String := ["bool", "int", "str", "list", "tuple", "dict"]
theorem kit_isT {t c : String} (h1 : t ∈ tys7) (h2 : c ∈ tys6) : kitB t c = some (isT t c) := by
  unfold tys7 at h1
  unfold tys6 at h2
  simp only [List.mem_cons, List.not_mem_nil, or_false] at h1 h2
  rcases h1 with rfl | rfl | rfl | rfl | rfl | rfl | rfl <;> rcases h2 with rfl | rfl | rfl | rfl | rfl | rfl <;> decide +kernel
theorem tyJ_mem {s : Sto} {d : J} {t : String} (h : tyJ s d = some t) : t ∈ tys7 := by
  unfold tyJ at h
  split at h <;> cases h <;> simp [tys7]
def isiJ (xs : List J) (s : Sto) (Q : QJ) : Prop := match xs with
  | [x, .ty c] => ∃ t, tyJ s x = some t ∧ c ∈ tys6 ∧ Q (.bl (isT t c)) s
  | _ => False
def isiTJ (xs : List J) (s : Sto) (Q : QJ) : Prop := match xs with
  | [x, .tup [.ty c, .ty c2]] => ∃ t, tyJ s x = some t ∧ c ∈ tys6 ∧ c2 ∈ tys6 ∧ Q (.bl (isT t c || isT t c2)) s
  | _ => False
theorem sf_isi : Sf K (rIsi K) isiJ := by
  intro F s H v x Q QV t js hQ h
  unfold isiJ at h
  split at h
  · rename_i x c
    obtain ⟨u, w, rfl, j1, j2⟩ := jps2 js
    obtain ⟨n, e, hc, q⟩ := h
    cases j2
    exact ⟨u, .ty c, .type n, .type c, _, rfl, .ty c, tyx_of t j1 e, kit_ty (kit_isT (tyJ_mem e) hc), hQ _ s q _ H .refl t (.bl _)⟩
  · exact h.elim
end
end M

namespace M
open PySem PySem.Spec PyProof.Rows L2
/-! ## methods of built-in types -/
def tyM (s : Sto) (T : String) (d : J) : Prop := (T = "str" ∧ ∃ z, d = .str z) ∨ (T = "list" ∧ ∃ l, lstOf s d = some l)
def jBM (T : String) (r : J → List J → Sto → QJ → Prop) (p : TJ) (a : AJ) : TJ := fun ρ s Q R => p ρ s (fun x s1 => tyM s1 T x ∧ a ρ s1 (fun xs s2 => r x xs s2 Q) R) R
def jBM0 (T : String) (r : J → List J → Sto → QJ → Prop) (p : TJ) : TJ := fun ρ s Q R => p ρ s (fun x s1 => tyM s1 T x ∧ r x [] s1 Q) R
def appendJ (x : J) (xs : List J) (s : Sto) (Q : QJ) : Prop := ∃ a l y, x = .own a ∧ xs = [y] ∧ s a = some (.lst l) ∧ l.length < 100000 ∧ Q .non (put s a (.lst (l ++ [y])))
def extendJ (x : J) (xs : List J) (s : Sto) (Q : QJ) : Prop := ∃ a l y m, x = .own a ∧ xs = [y] ∧ s a = some (.lst l) ∧ lstX s y = some m ∧ l.length + m.length ≤ 100000 ∧ Q .non (put s a (.lst (l ++ m)))
def insertJ (x : J) (xs : List J) (s : Sto) (Q : QJ) : Prop := ∃ a l y i, x = .own a ∧ xs = [.int i, y] ∧ s a = some (.lst l) ∧ l.length < 100000 ∧ (0 ≤ i ∧ i < 2 ^ 63) ∧ Q .non (put s a (.lst (l.take i.toNat ++ [y] ++ l.drop i.toNat)))
def popJ (x : J) (xs : List J) (s : Sto) (Q : QJ) : Prop := ∃ a l y, x = .own a ∧ xs = [] ∧ s a = some (.lst l) ∧ l[l.length - 1]? = some y ∧ Q y (put s a (.lst l.dropLast))
def popAtJ (x : J) (xs : List J) (s : Sto) (Q : QJ) : Prop := ∃ a l y k, x = .own a ∧ xs = [.int ((k : Nat) : Int)] ∧ s a = some (.lst l) ∧ k < 2 ^ 62 ∧ l[k]? = some y ∧ Q y (put s a (.lst (l.eraseIdx k)))
def startswithJ (x : J) (xs : List J) (s : Sto) (Q : QJ) : Prop := ∃ a b, x = .str a ∧ xs = [.str b] ∧ Q (.bl (Txt.startswith a b)) s
def startswith3J (x : J) (xs : List J) (s : Sto) (Q : QJ) : Prop := ∃ a b i, x = .str a ∧ xs = [.str b, .int i] ∧ Q (.bl (Txt.startswith3 a b i)) s
def upperJ (x : J) (xs : List J) (s : Sto) (Q : QJ) : Prop := ∃ a, x = .str a ∧ xs = [] ∧ a.length ≤ 100000 ∧ Q (.str (Txt.upper a)) s
def splitJ (x : J) (xs : List J) (s : Sto) (Q : QJ) : Prop := ∃ a b, x = .str a ∧ xs = [.str b] ∧ (b.length == 0) = false ∧ a.length ≤ 100000 ∧ Q (.lst ((Txt.split a b).map J.str)) s
def joinJ (x : J) (xs : List J) (s : Sto) (Q : QJ) : Prop := ∃ a d, ∃ ys : List Str, x = .str a ∧ xs = [d] ∧ seqOf s d = some (ys.map J.str) ∧ (ys.map (·.length)).sum + ys.length * a.length ≤ 16777216 ∧ Q (.str (Txt.join a ys)) s
section
variable {K : PySem.W.Frag} {W : WX} {ta te : TE} {pa pe : TJ} {xa : TA} {qa : AJ}
theorem tyM_v {F : Hp} {s : Sto} {H : Hp} {v : V} {x : J} {T : String} (t : Stt K F s H) (j : Jp K (mask F s H) v x) (h : tyM s T x) : tyV K T v H := by
  rcases h with ⟨rfl, z, rfl⟩ | ⟨rfl, l, e⟩
  · cases j; exact rfl
  · obtain ⟨a, xs, rfl, h1, r⟩ := jp_list t j e
    exact .inl ⟨rfl, xs, h1⟩
theorem se_bm {T : String} {r : V → List V → Hp → VK → Prop} {rj : J → List J → Sto → QJ → Prop} (hm : Sm K r rj) (ha : Se K W ta pa) (hx : Sa K W xa qa) : Se K W (tBM K T r ta xa) (jBM T rj pa qa) := by
  intro F ρ s σ H Q R QV a hQ hR h
  refine ha F ρ s σ H _ R _ a (fun x s1 h1 v1 H1 l1 st1 j1 => ?_) hR h
  refine ⟨tyM_v st1 j1 h1.1, ?_⟩
  refine hx F ρ s1 σ H1 _ R _ (a.to l1 st1) (fun xs s2 h2 vs H2 l2 st2 j2 => ?_) (fun c fs s' hr => (hR c fs s' hr).up l1) h1.2
  exact hm F s2 H2 v1 vs x xs Q QV st2 (j1.up l2) j2 (fun d s' q => (hQ d s' q).up (l1.trans l2)) h2
theorem se_bm0 {T : String} {r : V → List V → Hp → VK → Prop} {rj : J → List J → Sto → QJ → Prop} (hm : Sm K r rj) (ha : Se K W ta pa) : Se K W (tBM0 K T r ta) (jBM0 T rj pa) := by
  intro F ρ s σ H Q R QV a hQ hR h
  refine ha F ρ s σ H _ R _ a (fun x s1 h1 v1 H1 l1 st1 j1 => ?_) hR h
  exact ⟨tyM_v st1 j1 h1.1, hm F s1 H1 v1 [] x [] Q QV st1 j1 .nil (fun d s' q => (hQ d s' q).up l1) h1.2⟩
theorem mask_w {F : Hp} {s : Sto} {H : Hp} {a : Addr} {o u : O} {h : HO} (e : s a = some u) : Le (mask F s H) (mask F (put s a o) (upd H a h)) := by
  rw [mask_write e]
  exact .refl
theorem sm_append : Sm K rAppend appendJ := by
  intro F s H v vs x xs Q QV t jx js hQ h
  obtain ⟨a, l, y, rfl, rfl, e, hl, q⟩ := h
  obtain ⟨u, rfl, jy⟩ := jps1 js
  cases jx
  obtain ⟨zs, h1, r⟩ := t.lst e
  exact ⟨a, zs, u, rfl, rfl, h1, by rw [r.length]; exact Nat.lt_of_lt_of_le hl (by decide), hQ _ _ q _ _ (mask_w e) (t.write e (r.append (.cons jy .nil))) .non⟩
theorem sm_extend : Sm K rExtend extendJ := by
  intro F s H v vs x xs Q QV t jx js hQ h
  obtain ⟨a, l, y, m, rfl, rfl, e, e2, hl, q⟩ := h
  obtain ⟨u, rfl, jy⟩ := jps1 js
  cases jx
  obtain ⟨zs, h1, r⟩ := t.lst e
  obtain ⟨b, ws, rfl, h2, r2⟩ := jp_lstX t jy e2
  exact ⟨a, b, zs, ws, rfl, rfl, h1, h2, by rw [r.length, r2.length]; exact Nat.le_trans hl (by decide), hQ _ _ q _ _ (mask_w e) (t.write e (r.append r2)) .non⟩
def rInsertL : V → List V → Hp → VK → Prop := fun x vs H Q => ∃ (l : Addr) (xs : List V) (i : Int) (y : V), x = .ref l ∧ vs = [.int i, y] ∧ H l = some (.lst xs) ∧ xs.length < sizeLine ∧ 0 ≤ i ∧ i < 2 ^ 63 ∧
    Q .non (upd H l (.lst (xs.take i.toNat ++ [y] ++ xs.drop i.toNat)))
theorem mt_insertL {X : Cx} : MtR X "list.insert" rInsertL := mt_insert
theorem sm_insert : Sm K rInsertL insertJ := by
  intro F s H v vs x xs Q QV t jx js hQ h
  obtain ⟨a, l, y, i, rfl, rfl, e, hl, hi, q⟩ := h
  obtain ⟨u, w, rfl, j1, jy⟩ := jps2 js
  cases jx
  cases j1
  obtain ⟨zs, h1, r⟩ := t.lst e
  exact ⟨a, zs, i, w, rfl, rfl, h1, by rw [r.length]; exact Nat.lt_of_lt_of_le hl (by decide), hi.1, hi.2, hQ _ _ q _ _ (mask_w e) (t.write e (((r.take _).append (.cons jy .nil)).append (r.drop _))) .non⟩
theorem Jps.dropLast {G : Hp} : ∀ {v : List V} {d : List J}, Jps K G v d → Jps K G v.dropLast d.dropLast
  | _, _, .nil => .nil
  | _, _, .cons h .nil => .nil
  | _, _, .cons h (.cons h2 t) => .cons h (Jps.dropLast (.cons h2 t))
theorem Jps.erase {G : Hp} : ∀ {v : List V} {d : List J} (i : Nat), Jps K G v d → Jps K G (v.eraseIdx i) (d.eraseIdx i)
  | _, _, _, .nil => .nil
  | _, _, 0, .cons _ t => t
  | _, _, i + 1, .cons h t => .cons h (Jps.erase i t)
theorem sm_pop : Sm K rPop popJ := by
  intro F s H v vs x xs Q QV t jx js hQ h
  obtain ⟨a, l, y, rfl, rfl, e, ey, q⟩ := h
  cases jx
  cases js
  obtain ⟨zs, h1, r⟩ := t.lst e
  obtain ⟨w, e2, jw⟩ := r.get ey
  refine ⟨a, zs, w, rfl, rfl, h1, by rw [r.length]; exact e2, hQ _ _ q _ _ (mask_w e) (t.write e r.dropLast) ?_⟩
  rw [mask_write e]
  exact jw
theorem sm_popAt : Sm K rPopAt popAtJ := by
  intro F s H v vs x xs Q QV t jx js hQ h
  obtain ⟨a, l, y, k, rfl, rfl, e, hk, ey, q⟩ := h
  cases jx
  obtain ⟨u, rfl, j1⟩ := jps1 js
  cases j1
  obtain ⟨zs, h1, r⟩ := t.lst e
  obtain ⟨w, e2, jw⟩ := r.get ey
  have hlt := (List.getElem?_eq_some_iff.mp e2).1
  refine ⟨a, zs, (k : Int), k, w, rfl, rfl, h1, by omega, by omega, ?_, e2, hQ _ _ q _ _ (mask_w e) (t.write e (r.erase k)) ?_⟩
  · have := seqIndex_of (k := (k : Int)) (n := zs.length) (by omega) (by omega)
    rw [this]
    rfl
  · rw [mask_write e]
    exact jw
theorem sm_startswith : Sm K (fun x xs H Q => ∃ a b, x = .str a ∧ xs = [.str b] ∧ Q (.bl (Txt.startswith a b)) H) startswithJ := by
  intro F s H v vs x xs Q QV t jx js hQ h
  obtain ⟨a, b, rfl, rfl, q⟩ := h
  cases jx
  obtain ⟨u, rfl, j1⟩ := jps1 js
  cases j1
  exact ⟨a, b, rfl, rfl, hQ _ _ q _ _ .refl t (.bl _)⟩
theorem sm_startswith3 : Sm K (fun x xs H Q => ∃ (a b : Str) (i : Int), x = .str a ∧ xs = [.str b, .int i] ∧ Q (.bl (Txt.startswith3 a b i)) H) startswith3J := by
  intro F s H v vs x xs Q QV t jx js hQ h
  obtain ⟨a, b, i, rfl, rfl, q⟩ := h
  cases jx
  obtain ⟨u, w, rfl, j1, j2⟩ := jps2 js
  cases j1; cases j2
  exact ⟨a, b, i, rfl, rfl, hQ _ _ q _ _ .refl t (.bl _)⟩
theorem sm_upper : Sm K (fun x xs H Q => ∃ a, x = .str a ∧ xs = [] ∧ a.length ≤ 5592405 ∧ Q (.str (Txt.upper a)) H) upperJ := by
  intro F s H v vs x xs Q QV t jx js hQ h
  obtain ⟨a, rfl, rfl, hz, q⟩ := h
  cases jx
  cases js
  exact ⟨a, rfl, rfl, Nat.le_trans hz (by decide), hQ _ _ q _ _ .refl t (.str _)⟩
theorem jps_strs {G : Hp} : ∀ l : List Str, Jps K G (l.map V.str) (l.map J.str)
  | [] => .nil
  | z :: l => .cons (.str z) (jps_strs l)
def rSplit : V → List V → Hp → VK → Prop := fun x xs H Q => ∃ a b, x = .str a ∧ xs = [.str b] ∧ (b.length == 0) = false ∧ a.length + 2 ≤ sizeLine ∧ rNewStrs (Txt.split a b) H Q
theorem mt_splitU {X : Cx} : MtR X "str.split" rSplit := mt_split
theorem sm_split : Sm K rSplit splitJ := by
  intro F s H v vs x xs Q QV t jx js hQ h
  obtain ⟨a, b, rfl, rfl, hb, hz, q⟩ := h
  cases jx
  obtain ⟨u, rfl, j1⟩ := jps1 js
  cases j1
  exact ⟨a, b, rfl, rfl, hb, Nat.le_trans (by omega : a.length + 2 ≤ 100002) (by decide), fun p hp => hQ _ _ q _ _ (.new hp) (t.new hp) (.lst (mask_new t hp) (jps_strs _))⟩
def rJoin (K : PySem.W.Frag) : V → List V → Hp → VK → Prop := fun x xs H Q => ∃ a p, ∃ ys : List Str, x = .str a ∧ xs = [.ref p] ∧ (SqL K H p (ys.map V.str) ∨ SqT K H p (ys.map V.str)) ∧
    (ys.map (·.length)).sum + ys.length * a.length ≤ 16777216 ∧ Q (.str (Txt.join a ys)) H
theorem mt_joinU {X : Cx} : MtR X "str.join" (rJoin X.K) := mt_join
theorem sm_join : Sm K (rJoin K) joinJ := by
  intro F s H v vs x xs Q QV t jx js hQ h
  obtain ⟨a, d, ys, rfl, rfl, e, hz, q⟩ := h
  cases jx
  obtain ⟨u, rfl, j1⟩ := jps1 js
  obtain ⟨b, zs, rfl, h1, r⟩ := jp_seq t j1 e
  exact ⟨a, b, ys, rfl, rfl, by rw [← r.strs]; exact h1, hz, hQ _ _ q _ _ .refl t (.str _)⟩
end
/-! ## defs -/
def keeps (d : J) (a : Addr) : Bool := match d with
  | .own b => a == b
  | _ => false
/-- what was made on the way and is not handed back is let go -/
def restr (s : Sto) (d : J) (s' : Sto) : Sto := fun a => match s a with
  | some _ => s' a
  | none => if keeps d a then s' a else none
theorem restr_sub {s s' : Sto} {d : J} : ∀ a o, restr s d s' a = some o → s' a = some o := fun a o h => by
  unfold restr at h
  split at h
  · exact h
  · split at h
    · exact h
    · cases h
theorem restr_id {s : Sto} {d : J} : restr s d s = s := by
  funext a
  unfold restr
  split
  · rfl
  · rename_i e
    rw [e]
    split <;> rfl
theorem restr_new {s s' : Sto} {d : J} {p : Addr} {o : O} (h : s p = none) (k : keeps d p = false) : restr s d (put s' p o) = restr s d s' := by
  funext a
  unfold restr
  by_cases e : a = p
  · subst e
    rw [h]
    dsimp only
    rw [k]
    rfl
  · rw [put_ne e]
theorem restr_put {s s' : Sto} {d : J} {b : Addr} {o u : O} (h : s b = some u) : restr s d (put s' b o) = put (restr s d s') b o := by
  funext a
  by_cases e : a = b
  · subst e
    unfold restr
    rw [h]
    show put s' a o a = put _ a o a
    rw [put_same, put_same]
  · rw [put_ne e]
    unfold restr
    rw [put_ne e]
theorem restr_own {s s' : Sto} {p : Addr} {o : O} (h : s p = none) : restr s (.own p) (put s' p o) = put (restr s .non s') p o := by
  funext a
  by_cases e : a = p
  · subst e
    unfold restr
    rw [h, put_same]
    dsimp only
    rw [put_same]
    simp [keeps]
  · rw [put_ne e]
    unfold restr
    rw [put_ne e]
    cases s a with
    | some o => rfl
    | none => simp [keeps, e]
def endJ (s : Sto) (Q : QJ) (R : XJ) : EJ := { nx := fun _ s' => Q .non (restr s .non s'), rt := fun d s' => Q d (restr s d s'), bk := fun _ _ => False, ct := fun _ _ => False, xr := fun _ c fs s' => R c fs (restr s .non s') }
/-- an end that lets nothing go -/
def endK (Q : QJ) (R : XJ) : EJ := { nx := fun _ s' => Q .non s', rt := Q, bk := fun _ _ => False, ct := fun _ _ => False, xr := fun _ => R }
def wOf (n m : Nat) (q : SJ) : WJ := fun ds s Q R => ds.length = n ∧ q (endJ s Q R) (ds.map some ++ List.replicate (m - ds.length) none) s
def wOfK (n m : Nat) (q : SJ) : WJ := fun ds s Q R => ds.length = n ∧ q (endK Q R) (ds.map some ++ List.replicate (m - ds.length) none) s
def spJ (K : PySem.W.Frag) (w : WJ) : Sp := fun vs H Q E => ∃ (F : Hp) (s : Sto) (ds : List J) (QJ' : QJ) (R : XJ), Jps K (mask F s H) vs ds ∧ Stt K F s H ∧ (∀ d s', QJ' d s' → Bk K F (mask F s H) Q d s') ∧ (∀ c fs s', R c fs s' → Xk K F (mask F s H) E c fs s') ∧ w ds s QJ' R
theorem Xk.sub {K : PySem.W.Frag} {F G : Hp} {E : XK} {c : Str} {fs : List (Str × J)} {s s' : Sto} (h : Xk K F G E c fs s') (d : ∀ a o, s' a = some o → s a = some o) : Xk K F G E c fs s := fun dd H' l t x => h dd H' (l.trans (.sub d)) (t.sub d) (by
  unfold XD at x ⊢
  cases dd with
  | none => exact x
  | some a =>
    obtain ⟨vs, e, r⟩ := x
    exact ⟨vs, (Le.sub d).xd e, r.up (.sub d)⟩)
theorem Bk.sub {K : PySem.W.Frag} {F G : Hp} {QV : VK} {d : J} {s s' : Sto} (h : Bk K F G QV d s') (e : ∀ a o, s' a = some o → s a = some o) : Bk K F G QV d s := fun v H' l t j => h v H' (l.trans (.sub e)) (t.sub e) (j.up (.sub e))
section
variable {K : PySem.W.Frag} {t : TS} {q : SJ} {N : List Str} {n : Nat} {vs : List V} {H : Hp} {Q : VK} {E : XK}
theorem rd_J (h : Ss K (WE' E) t q) (w : spJ K (wOf n N.length q) vs H Q E) : t (Ends.mk (fun _ H' => Q .non H') Q (fun _ _ => False) (fun _ _ => False)) (L2.start N vs) H := by
  obtain ⟨F, s, ds, Q', R, j, st, hQ, hR, hl, w⟩ := w
  refine h F _ _ _ s _ H ⟨Rs.beg N j, st⟩ ⟨?_, ?_, ?_, ?_, ?_⟩ w
  · intro ρ s' σ H' h' l a
    exact (hQ .non _ h').sub restr_sub _ H' l a.st .non
  · intro d s' h'
    exact (hQ d _ h').sub restr_sub
  · intro ρ s' σ H' h' l a
    exact h'.elim
  · intro ρ s' σ H' h' l a
    exact h'.elim
  · intro ρ c fs s' σ h' d H' l a x
    exact (hR c fs _ h').sub restr_sub d H' l a.st x
theorem rd_K (h : Ss K (WE' E) t q) (w : spJ K (wOfK n N.length q) vs H Q E) : t (Ends.mk (fun _ H' => Q .non H') Q (fun _ _ => False) (fun _ _ => False)) (L2.start N vs) H := by
  obtain ⟨F, s, ds, Q', R, j, st, hQ, hR, hl, w⟩ := w
  refine h F _ _ _ s _ H ⟨Rs.beg N j, st⟩ ⟨?_, ?_, ?_, ?_, ?_⟩ w
  · intro ρ s' σ H' h' l a
    exact hQ .non _ h' _ H' l a.st .non
  · intro d s' h'
    exact hQ d _ h'
  · intro ρ s' σ H' h' l a
    exact h'.elim
  · intro ρ s' σ H' h' l a
    exact h'.elim
  · intro ρ c fs s' σ h' d H' l a x
    exact hR c fs _ h' d H' l a.st x
theorem len_J {w : WJ} (hw : ∀ ds s Q R, w ds s Q R → ds.length = n) : ∀ vs H Q E, spJ K w vs H Q E → vs.length = n := by
  rintro vs H Q E ⟨F, s, ds, Q', R, j, st, hQ, hR, w'⟩
  rw [j.length]
  exact hw _ _ _ _ w'
end
section
variable {K : PySem.W.Frag} {W : WX} {E : XK} {ta te : TE} {pa pe : TJ} {xa : TA} {qa : AJ} {w : WJ} {dvs : List V} {dj : List J}
theorem se_call (hd : ∀ G, Jps K G dvs dj) (hx : Sa K (WE' E) xa qa) : Se K (WE' E) (tCall (spJ K w) dvs E xa) (jCall w dj qa) := by
  intro F ρ s σ H Q R QV a hQ hR h
  refine hx F ρ s σ H _ R _ a (fun ds s1 h1 vs H1 l1 st1 j1 => ?_) hR h
  exact ⟨F, s1, ds ++ dj, Q, R, j1.append (hd _), st1, fun d s' q => (hQ d s' q).up l1, fun c fs s' hr => (hR c fs s' hr).up l1, h1⟩
theorem se_callS (hx : Sa K W xa qa) : Se K W (tCallS (spJ K w) (WE W) xa) (jCall w [] qa) := by
  intro F ρ s σ H Q R QV a hQ hR h
  refine hx F ρ s σ H _ R _ a (fun ds s1 h1 vs H1 l1 st1 j1 => ?_) hR h
  rw [List.append_nil] at h1
  exact ⟨F, s1, ds, Q, R, j1, st1, fun d s' q => (hQ d s' q).up l1, fun c fs s' hr => (hR c fs s' hr).up l1, h1⟩
/-! ### objects -/
def objOf (s : Sto) : J → Option (Str × List (Str × J))
  | .obj c fs => some (c, fs)
  | .own a => match s a with
    | some (.ins c fs) => some (c, fs)
    | _ => none
  | _ => none
theorem jp_obj {F : Hp} {s : Sto} {H : Hp} {v : V} {d : J} {c : Str} {fs : List (Str × J)} (t : Stt K F s H) (j : Jp K (mask F s H) v d) (e : objOf s d = some (c, fs)) : ∃ a dx xs, v = .ref a ∧ H a = some (.ins (He.ga K c) dx xs) ∧ Jpf K (mask F s H) xs fs := by
  cases j with
  | obj h r => cases e; exact ⟨_, _, _, rfl, (of_mask h).2.2, r⟩
  | own a =>
    unfold objOf at e
    dsimp only at e
    split at e
    · rename_i c' l q
      cases e
      obtain ⟨dx, xs, h, r⟩ := t.ins q
      exact ⟨_, dx, xs, rfl, h, r⟩
    · cases e
  | _ => cases e
def jMeth (c m : Str) (w : WJ) (dj : List J) (p : TJ) (a : AJ) : TJ := fun ρ s Q R => p ρ s (fun x s1 => (∃ fs, objOf s1 x = some (c, fs) ∧ fs.lookup m = none) ∧ a ρ s1 (fun ds s2 => w (x :: (ds ++ dj)) s2 Q R) R) R
theorem se_meth {c m : Str} (hd : ∀ G, Jps K G dvs dj) (ha : Se K (WE' E) ta pa) (hx : Sa K (WE' E) xa qa) : Se K (WE' E) (tMeth (He.ga K c) m (spJ K w) dvs E ta xa) (jMeth c m w dj pa qa) := by
  intro F ρ s σ H Q R QV a hQ hR h
  refine ha F ρ s σ H _ R _ a (fun x s1 h1 v1 H1 l1 st1 j1 => ?_) hR h
  obtain ⟨⟨fs, e, el⟩, h1⟩ := h1
  obtain ⟨b, dx, xs, rfl, eb, r⟩ := jp_obj st1 j1 e
  refine ⟨b, dx, xs, rfl, eb, r.look_none el, ?_⟩
  refine hx F ρ s1 σ H1 _ R _ (a.to l1 st1) (fun ds s2 h2 vs H2 l2 st2 j2 => ?_) (fun c fs s' hr => (hR c fs s' hr).up l1) h1
  exact ⟨F, s2, x :: (ds ++ dj), Q, R, .cons (j1.up l2) (j2.append (hd _)), st2, fun d s' q => (hQ d s' q).up (l1.trans l2), fun c fs s' hr => (hR c fs s' hr).up (l1.trans l2), h2⟩
def jFld (L : List Str) (p : TJ) (f : Str) : TJ := fun ρ s Q R => p ρ s (fun x s1 => ∃ c fs d, objOf s1 x = some (c, fs) ∧ c ∈ L ∧ fs.lookup f = some d ∧ Q d s1) R
theorem se_fld {L : List Str} {f : Str} (hL : ∀ c ∈ L, Cls K (He.ga K c) ∧ NoAttr K (He.ga K c) f) (ha : Se K W ta pa) : Se K W (tFld K ta f) (jFld L pa f) := by
  intro F ρ s σ H Q R QV a hQ hR h
  refine ha F ρ s σ H _ R _ a (fun x s1 h1 v1 H1 l1 st1 j1 => ?_) hR h
  obtain ⟨c, fs, d, e, hc, el, q⟩ := h1
  obtain ⟨b, dx, xs, rfl, eb, r⟩ := jp_obj st1 j1 e
  obtain ⟨u, eu, ju⟩ := r.look el
  exact ⟨b, _, dx, xs, u, rfl, eb, (hL c hc).1, (hL c hc).2, eu, hQ _ s1 q _ H1 l1 st1 ju⟩
/-- a constant of the class -/
def jCon (L : List Str) (p : TJ) (f : Str) (d : J) : TJ := fun ρ s Q R => p ρ s (fun x s1 => (∃ c fs, objOf s1 x = some (c, fs) ∧ c ∈ L ∧ fs.lookup f = none) ∧ Q d s1) R
theorem se_con {L : List Str} {f : Str} {d : J} (hL : ∀ c ∈ L, Cls K (He.ga K c) ∧ ∃ v u, Con K (He.ga K c) f v u ∧ ∀ G, Jp K G v d) (ha : Se K W ta pa) : Se K W (tCon K ta f) (jCon L pa f d) := by
  intro F ρ s σ H Q R QV a hQ hR h
  refine ha F ρ s σ H _ R _ a (fun x s1 h1 v1 H1 l1 st1 j1 => ?_) hR h
  obtain ⟨⟨c, fs, e, hc, el⟩, q⟩ := h1
  obtain ⟨b, dx, xs, rfl, eb, r⟩ := jp_obj st1 j1 e
  obtain ⟨cl, v, u, co, jv⟩ := hL c hc
  exact ⟨b, _, dx, xs, v, u, rfl, eb, cl, co, r.look_none el, hQ _ s1 q _ H1 l1 st1 (jv _)⟩
def putJ (f : Str) (d : J) : List (Str × J) → List (Str × J)
  | [] => [(f, d)]
  | (g, e) :: r => if g = f then (g, d) :: r else (g, e) :: putJ f d r
/-- self.f = e, self in the store -/
def jSetF (L : List Str) (p v : TJ) (f : Str) : SJ := fun D ρ s => v ρ s (fun y s1 => p ρ s1 (fun x s2 => ∃ a c fs, x = .own a ∧ s2 a = some (.ins c fs) ∧ c ∈ L ∧ fs.length < 1000 ∧ D.nx ρ (put s2 a (.ins c (putJ f y fs)))) (D.xr ρ)) (D.xr ρ)
end
end M

namespace M
open PySem PySem.Spec PyProof.Rows L2
section
variable {K : PySem.W.Frag} {W : WX} {E : XK} {ta te tv : TE} {pa pe pv : TJ} {xa : TA} {qa : AJ} {w : WJ} {dvs : List V} {dj : List J}
theorem Jpf.put {G : Hp} {f : Str} {v : V} {d : J} (j : Jp K G v d) : ∀ {xs : List (Str × V)} {fs : List (Str × J)}, Jpf K G xs fs → Jpf K G (putF f v xs) (putJ f d fs)
  | _, _, .nil => .cons j .nil
  | _, _, .cons (k := k) h t => by
    unfold putF putJ
    by_cases e : k = f
    · rw [if_pos e, if_pos e]
      exact .cons j t
    · rw [if_neg e, if_neg e]
      exact .cons h (Jpf.put j t)
theorem ss_setF {L : List Str} {f : Str} (hL : ∀ c ∈ L, Cls K (He.ga K c) ∧ NoAttr K (He.ga K c) f) (ha : Se K W ta pa) (hv : Se K W tv pv) : Ss K W (sFld K ta tv f) (jSetF L pa pv f) := by
  intro F D DV ρ s σ H a e h
  refine hv F ρ s σ H _ _ _ a (fun y s1 h1 v1 H1 l1 st1 j1 => ?_) (er_x (G := H) a e) h
  refine ha F ρ s1 σ H1 _ _ _ (a.to l1 st1) (fun x s2 h2 v2 H2 l2 st2 j2 => ?_) (er_x (G := H1) (a.to l1 st1) (e.up l1)) h1
  obtain ⟨b, c, fs, rfl, eb, hc, hl, q⟩ := h2
  cases j2
  obtain ⟨dx, xs, h3, r⟩ := st2.ins eb
  refine ⟨b, _, dx, xs, rfl, h3, (hL c hc).1, (hL c hc).2, by rw [r.length]; exact hl, ?_⟩
  have w : Oh K (mask F s2 H2) (.ins (He.ga K c) dx (putF f v1 xs)) (.ins c (putJ f y fs)) := ⟨rfl, r.put (j1.up l2)⟩
  have L3 := (l1.trans l2).trans (mask_w (h := .ins (He.ga K c) dx (putF f v1 xs)) (o := .ins c (putJ f y fs)) eb)
  exact e.nx ρ _ σ _ q L3 (a.to L3 (st2.write eb w))
/-- what the fields hold of the store's new things is handed over -/
def frz (s s' : Sto) (d : J) : J := match d with
  | .own q => match s q, s' q with
    | none, some (.lst l) => .lst l
    | none, some (.dct l) => .dct l
    | _, _ => .own q
  | d => d
def frzFs (s s' : Sto) (fs : List (Str × J)) : List (Str × J) := fs.map fun f => (f.1, frz s s' f.2)
/-- C(..), seen from then on -/
def jMake (c : Str) (w : WJ) (dj : List J) (a : AJ) : TJ := fun ρ s Q R => a ρ s (fun ds s1 => ∀ p, s1 p = none → w (.own p :: (ds ++ dj)) (put s1 p (.ins c [])) (fun v s2 => v = .non ∧ ∃ fs, s2 p = some (.ins c fs) ∧ Q (.obj c (frzFs s1 s2 fs)) (restr s1 .non s2)) (fun c' fs s2 => R c' fs (restr s1 .non s2))) R
/-- C(..), kept in the store -/
def jMakeO (c : Str) (w : WJ) (dj : List J) (a : AJ) : TJ := fun ρ s Q R => a ρ s (fun ds s1 => ∀ p, s1 p = none → w (.own p :: (ds ++ dj)) (put s1 p (.ins c [])) (fun v s2 => v = .non ∧ Q (.own p) s2) R) R
theorem frz_jp {F : Hp} {s s' : Sto} {H : Hp} {v : V} {d : J} {e : J} (t : Stt K F s' H) (j : Jp K (mask F s' H) v d) : Jp K (mask F (restr s e s') H) v (frz s s' d) ∨ ∃ q, d = .own q ∧ e = .own q := by
  have L : Le (mask F s' H) (mask F (restr s e s') H) := Le.sub restr_sub
  cases d with
  | own q =>
    by_cases k : e = .own q
    · exact .inr ⟨q, rfl, k⟩
    left
    have nk : keeps e q = false := by
      unfold keeps
      split
      · rename_i b
        simp only [beq_eq_false_iff_ne]
        intro z
        exact k (by rw [z])
      · rfl
    unfold frz
    dsimp only
    cases j
    split
    · rename_i l e1 e2
      obtain ⟨xs, h, r⟩ := t.lst e2
      refine .lst ?_ (r.up L)
      rw [mask_none (t.sk _ _ e2).1]
      · exact h
      · unfold restr
        rw [e1]
        dsimp only
        rw [nk]
        rfl
    · rename_i l e1 e2
      obtain ⟨xs, h, r⟩ := t.dct e2
      refine .dct (h := .dK xs) ?_ rfl (r.up L)
      rw [mask_none (t.sk _ _ e2).1]
      · exact h
      · unfold restr
        rw [e1]
        dsimp only
        rw [nk]
        rfl
    · exact .own q
  | _ => exact .inl (j.up L)
theorem frz_jpf {F : Hp} {s s' : Sto} {H : Hp} (t : Stt K F s' H) : ∀ {xs : List (Str × V)} {fs : List (Str × J)}, Jpf K (mask F s' H) xs fs → Jpf K (mask F (restr s .non s') H) xs (frzFs s s' fs)
  | _, _, .nil => .nil
  | _, _, .cons h r => .cons (by
      rcases frz_jp (s := s) (e := .non) t h with z | ⟨q, _, z⟩
      · exact z
      · cases z) (frz_jpf t r)
end
end M

namespace M
open PySem PySem.Spec PyProof.Rows L2
def oexB (K : PySem.W.Frag) (C : Addr) : Bool :=
  (match K.lookup C with
    | some ⟨.type "type", _, .cls cd, sl⟩ =>
      (match cd.mro, sl.toList with
        | .ref C' :: bm, [_, _, _, _, some (.builtin n), _] =>
          decide (C' = C) && (decide (n = "ValueError.__new__") && (!cd.hasDel && (cd.hasDict && PySem.HandSPX.refsVE bm)))
        | _, _ => false)
    | _ => false) &&
  (He.eqO (PySem.W.findIn K (.ref C) "__setattr__") (some (some (.builtin "object.__setattr__"))) &&
  (decide (PySem.W.subIn K (.ref C) (.type "BaseException") = some true) &&
  (decide (PySem.W.typeIn K (.ref C) = some (.type "type")) && PySem.W.keepIn K (.ref C))))
theorem oexB_ok {K : PySem.W.Frag} {C : Addr} (h : oexB K C = true) : OexC K C := by
  unfold oexB at h
  rw [Bool.and_eq_true, Bool.and_eq_true, Bool.and_eq_true, Bool.and_eq_true] at h
  obtain ⟨h1, h2, h3, h4, h5⟩ := h
  refine ⟨?_, He.eqO_ok h2, of_decide_eq_true h3, of_decide_eq_true h4, h5⟩
  split at h1
  · rename_i dd cd sl ho
    split at h1
    · rename_i C' bm k0 k1 k2 k3 nn k5 hm hs
      rw [Bool.and_eq_true, Bool.and_eq_true, Bool.and_eq_true, Bool.and_eq_true] at h1
      obtain ⟨c1, c2, c3, c4, c5⟩ := h1
      have e1 := of_decide_eq_true c1
      have e2 := of_decide_eq_true c2
      subst e1 e2
      obtain ⟨nm, bs, mro, ns, qn, hd, sn, sub, ab, col, del⟩ := cd
      dsimp only at hm c3 c4
      subst hm
      cases hd with
      | false => cases c4
      | true =>
        cases del with
        | true => cases c3
        | false =>
          have hsl : sl = #[k0, k1, k2, k3, some (.builtin "ValueError.__new__"), k5] := by
            obtain ⟨l⟩ := sl
            simp only at hs
            rw [hs]
          subst hsl
          exact ⟨nm, qn, ns, bs, bm, sn, sub, ab, col, dd, k0, k1, k2, k3, k5, ho, c5⟩
    · cases h1
  · cases h1
/-- what isinstance asks of an error's class -/
def kxB (K : PySem.W.Frag) (C : Addr) : Bool :=
  (PySem.W.clsIn K C).isSome &&
  (He.eqO (PySem.W.findIn K (.ref C) "__class__") (some (some (.builtin "object.__class__"))) &&
  (He.eqO (PySem.W.specialIn K (.builtin "object.__class__") "__get__") (some (some (.builtin "getset_descriptor.__get__"))) &&
  (decide (PySem.W.takesIn K (.builtin "object.__class__") = some true) && decide (PySem.W.mroIn K C (.type "object") = some true))))
/-- an error class x whose __init__(self, f) says self.f = f -/
structure Err (K : PySem.W.Frag) (C : Addr) (f : Str) : Prop where
  T : OexC K C
  iC : PySem.W.findIn K (.ref C) "__init__" = some (some (.ref (He.ma K C "__init__")))
  tI : PySem.W.typeIn K (.ref (He.ma K C "__init__")) = some (.type "function")
  nf : PySem.W.findIn K (.ref C) f = some none
  xf : XfC K C
  kx : kxB K C = true
  te : PySem.W.exmOne K (.ref C) (.ref C) = some true
def errB (K : PySem.W.Frag) (C : Addr) (f : Str) : Bool :=
  oexB K C && (He.eqO (PySem.W.findIn K (.ref C) "__init__") (some (some (.ref (He.ma K C "__init__")))) &&
  (decide (PySem.W.typeIn K (.ref (He.ma K C "__init__")) = some (.type "function")) && (He.eqO (PySem.W.findIn K (.ref C) f) (some none) &&
  (xfB K C && (kxB K C && decide (PySem.W.exmOne K (.ref C) (.ref C) = some true))))))
theorem errB_ok {K : PySem.W.Frag} {C : Addr} {f : Str} (h : errB K C f = true) : Err K C f := by
  unfold errB at h
  rw [Bool.and_eq_true, Bool.and_eq_true, Bool.and_eq_true, Bool.and_eq_true, Bool.and_eq_true, Bool.and_eq_true] at h
  obtain ⟨h1, h2, h3, h4, h5, h6, h7⟩ := h
  exact ⟨oexB_ok h1, He.eqO_ok h2, of_decide_eq_true h3, He.eqO_ok h4, xfB_ok h5, h6, of_decide_eq_true h7⟩
/-- isinstance(e, c), e held by the suite -/
def rIsX (K : PySem.W.Frag) (a : Addr) (cls : Value) (d : Option Addr) : List V → Hp → VK → Prop := fun xs H Q =>
  ∃ (C : Addr) (c : V) (cv : Value) (b : Bool), xs = [.ref a, c] ∧ cls = .ref C ∧ (d = none ∨ ∃ dd fs, d = some dd ∧ H dd = some (.xd fs)) ∧ kxB K C = true ∧ XfC K C ∧ ClsV c cv ∧ PySem.W.kitOne K (.ref C) cv = some b ∧ Q (.bl b) H
theorem call_isX {X : Cx} {a : Addr} {cls : Value} {d : Option Addr} {oe : Obj} {pn : List (Addr × Obj)} (hz : L2N.Zn cls d oe) (hf : ∃ vs, oe.data = .fields vs) :
    CallR (X.suite a ((a, oe) :: pn)) (.builtin "isinstance") (rIsX X.K a cls d) := by
  intro pins s σ H xs us Q I r h
  obtain ⟨C, c, cv, b, rfl, rfl, hd, kx, xf, cl, e, q⟩ := h
  obtain ⟨u1, u2, rfl, r1, r2⟩ := vals2 r
  obtain rfl : u1 = Value.ref a := r1
  have e2 := cl.eq r2
  subst e2
  unfold kxB at kx
  rw [Bool.and_eq_true, Bool.and_eq_true, Bool.and_eq_true, Bool.and_eq_true] at kx
  obtain ⟨k1, k2, k3, k4, k5⟩ := kx
  have hp := I.pin (a, oe) (List.mem_append_left _ List.mem_cons_self)
  have hget : s.heap.get? a = some oe := hp.1
  obtain ⟨vs, hv⟩ := hf
  have hno : PySem.W.notCls oe = true := by unfold PySem.W.notCls; rw [hv] <;> rfl
  have key : ∃ od, PySem.W.InstAt s.heap a oe C od := by
    rcases hd with rfl | ⟨dd, fs, rfl, hdd⟩
    · refine ⟨none, hget, hz.1, hno, ?_⟩
      have z : oe.dict = none := hz.2.1
      rw [z]
      exact True.intro
    · have hx : ObjOk X.prog X.w H s.heap dd (.xd fs) := I.hok dd _ hdd
      obtain ⟨mA, ⟨o, es, ep, ho, _⟩, _⟩ := hx
      refine ⟨some o, hget, hz.1, hno, ?_⟩
      have z : oe.dict = some dd := hz.2.1
      rw [z]
      exact ho
  obtain ⟨od, J⟩ := key
  have Z := PySem.W.kitx_exc (K := X.K) (C := C) (x := a) (ox := oe) (od := od) k1 xf.ga xf.gg xf.exC (He.eqO_ok k2) (He.eqO_ok k3) (of_decide_eq_true k4) (of_decide_eq_true k5)
  exact PySem.W.kia_one Z I.kIn J e (fun z => nomatch z) fun tk => ⟨.bl b, H, I.tok tk, rfl, q⟩
/-- raise C(e, ..) where nothing is handled: the exception's context is None -/
theorem pmkN_oex {X : Cx} {CX : CXT} {x : Str} {e : Expr} {es : List Expr} {ta : TA} {p pos : Pos} {C fI : Addr} {k : Nat} {fd : FuncData} {ps : List Str} {sp : Sp} {ds : List Value} {dvs : List V}
    (T : OexC X.K C) (iC : PySem.W.findIn X.K (.ref C) "__init__" = some (some (.ref fI)))
    (tI : PySem.W.typeIn X.K (.ref fI) = some (.type "function"))
    (F1 : FnOk X.prog X.w X.K X.mg X.base CX k fI fd ps sp)
    (hr : Room (k + 1) X.A) (hb : Binds X.K fd ps ds) (hd : Vals dvs ds)
    (hx : Passes CX X (fun _ _ _ => False)) (hg : Gl X x)
    (hm : X.mg x = some (.ref C)) (ha : PA X (e :: es) ta)
    (hdb : (x == ("__debug__" : Str)) = false := by decide)
    (he : starEach (e :: es) X.env = (false, eval e X.env) :: starEach es X.env := by rfl)
    (hpl : (backTo pos (starEach es X.env)).any (·.1) = false := by rfl) :
    L2N.PMk X (.Call (.Name x p) (e :: es) [] pos) (tMkO C sp dvs ta) := by
  intro pins st0 σ H Q I0 hq0
  obtain ⟨nm, qn, NN, bs, bm, sn, sub, ab, col, ddd, m0, m1, m2, m3, m5, hC, hbm⟩ := T.cls
  refine wpAny_Call_Name_kw (ld_glob I0 hg hm ?_ hdb)
  refine PySem.W.callWith_K (h₀ := X.base) I0.ok.mod.kin T.kC
    (thn (ha.run pos pins st0 σ H _ I0 hq0) fun us s1 ⟨vs, H1, I1, r1, hz, q1⟩ => ⟨I1.kIn, ?_⟩) he hpl
  show wpAny _ _ (call (.ref C) us) _ _ _
  obtain ⟨hp, gg, dr, tk, oss⟩ := s1
  have hsz : hp.objs.size ≤ hp.objs.size + 1 := Nat.le_succ _
  have hfree : H1 (hp.objs.size + 1) = none := I1.hok.fresh hsz
  have hq := q1 (hp.objs.size + 1) hfree
  generalize hh2 : (hp.push (PySem.W.kdv_tup us)).push (PySem.HandSPX.excO C hp.objs.size) = hp2
  have kk : ∀ b o, hp.get? b = some o → hp2.get? b = some o := fun b o q => by
    rw [← hh2]
    exact Heap.get?_push_of_some _ (Heap.get?_push_of_some _ q)
  have hget : hp2.get? (hp.objs.size + 1) = some (PySem.HandSPX.excO C hp.objs.size) := by
    rw [← hh2]
    heap_get
  have I2 : Inv X pins σ (upd H1 (hp.objs.size + 1) (exo (hp.objs.size + 1) C none)) ⟨hp2, gg, dr, tk, oss⟩ :=
    I1.laid (t' := tk) (a := hp.objs.size + 1) (h' := hp2) kk hsz (exo_ok hget)
  have r2 : Vals (V.ref (hp.objs.size + 1) :: (vs ++ dvs)) (Value.ref (hp.objs.size + 1) :: (us ++ ds)) :=
    .cons rfl (r1.append hd)
  have hl : (Value.ref (hp.objs.size + 1) :: us ++ ds).length = ps.length := by
    have e1 := r2.length
    rw [F1.len _ _ _ _ hq] at e1
    exact e1.symm
  have hus : us.length ≤ sizeLine := by
    rw [← Paired.length r1, sizeLine_eq]
    omega
  refine wpAny_call (PySem.HandSPX.call_own F.excBase_ValueError
    (fun Y => PySem.HandSPX.refsVE_contains Y bm hbm) (I1.kIn _ _ hC) (PySem.W.looks_findIn I1.kIn iC)
    (fun self => PySem.W.bind_fn I1.kIn self tI) hus ?_)
  rw [hh2]
  refine codeAny_mono (F1.run _ X.stack _ _ ⟨Value.ref (hp.objs.size + 1) :: us, []⟩
    (Value.ref (hp.objs.size + 1) :: (us ++ ds)) _ _ (fun _ _ _ => False) (hr.make C us [])
    (I2.env0.make C us []) (hb _ (Value.ref (hp.objs.size + 1) :: us) I2.kIn hl) r2 hq) fun rr s' hq' => ?_
  cases rr with
  | error er => exact hx pins σ _ _ er s' I2 hq'
  | ok fl =>
    cases fl with
    | ret u =>
      obtain ⟨v, H2, os2, bare2, un2, hok2, rv, ev, d, fs, ea, ed, hd1, q2⟩ := hq'
      subst ev
      obtain ⟨h2, g2, d2, t2, os'⟩ := s'
      obtain ⟨t0, G, J, kG, ge, hoe, na⟩ := mk_end0 (d2 := d2) (t2 := t2) I1 hsz kk un2 hok2 os2 bare2 ea ed hd1
      refine ⟨rv, _, _, _, ⟨G, g2, d2, t2, os'⟩, _, .ref C, some d, rfl, J, kG, ge, hoe, ⟨rfl, rfl, ?_⟩, rfl, rfl, na, rfl, bare2, raises_own T.exC T.tyC, q2⟩
      intro vs e
      cases e
      rfl
    | next => exact False.elim hq'
    | brk => exact False.elim hq'
    | cont => exact False.elim hq'
end M
/-! ## defs -/
namespace M
open PySem PySem.Spec PyProof.Rows L2
/-- the def at f keeps sp, called with the first of its parameters; the others are dvs -/
def Ok (P : Program) (w : World) (K : PySem.W.Frag) (mg : Str → Option Value) (base : Heap) (k : Nat) (f : Addr) (ps : List Str) (dvs : List V) (sp : Sp) : Prop :=
  ∃ fd ds, FnOk P w K mg base (L2N.CX P w) k f fd ps sp ∧ PySem.W.keepIn K (.ref f) = true ∧ Vals dvs ds ∧ Binds K fd ps ds
theorem passN0 {X : Cx} : Passes (L2N.CX X.prog X.w) X E0 := fun _ _ _ _ _ _ _ h => by
  obtain ⟨_, _, _, _, _, _, _, _, _, _, _, _, z⟩ := h
  exact z.elim
theorem takesN0 {X : Cx} : L2N.Takes X (fun _ _ _ _ => False) := fun _ _ x => by
  obtain ⟨_, _, _, _, _, _, _, _, _, _, _, _, _, _, _, _, z⟩ := x
  exact z.elim
section
variable {X : Cx} {k j : Nat} {f C : Addr} {ps : List Str} {sp : Sp} {dvs : List V} {x m : Str} {p pos apos : Pos} {e o : Expr} {es : List Expr} {t : TA} {ta : TE} {E : XK} {W : WX}
theorem pe_c (h : Ok X.prog X.w X.K X.mg X.base k f ps dvs sp) (hr : Room j X.A) (hj : k ≤ j) (hm : X.mg x = some (.ref f)) (hx : Passes (L2N.CX X.prog X.w) X E) (ha : PA X (e :: es) t)
    (hg : Gl X x := by rfl) (hdb : (x == ("__debug__" : Str)) = false := by decide) (he : starEach (e :: es) X.env = (false, eval e X.env) :: starEach es X.env := by rfl) (hpl : (backTo pos (starEach es X.env)).any (·.1) = false := by rfl) :
    PE X (.Call (.Name x p) (e :: es) [] pos) (tCall sp dvs E t) := by
  obtain ⟨fd, ds, F, kp, v, b⟩ := h
  exact pe_call F (hr.mono hj) hg hm kp b v hx ha hdb he hpl
theorem pe_c0 (h : Ok X.prog X.w X.K X.mg X.base k f ps dvs sp) (hr : Room j X.A) (hj : k ≤ j) (hm : X.mg x = some (.ref f)) (hx : Passes (L2N.CX X.prog X.w) X E)
    (hg : Gl X x := by rfl) (hdb : (x == ("__debug__" : Str)) = false := by decide) : PE X (.Call (.Name x p) [] [] pos) (tCall sp dvs E tNil) := by
  obtain ⟨fd, ds, F, kp, v, b⟩ := h
  exact pe_call0 F (hr.mono hj) hg hm kp b v hx hdb
/-- in a try's body -/
theorem pe_cS (h : Ok X.prog X.w X.K X.mg X.base k f ps [] sp) (hr : Room j X.A) (hj : k ≤ j) (hm : X.mg x = some (.ref f)) (tk : L2N.Takes X W) (ha : PA X (e :: es) t)
    (hg : Gl X x := by rfl) (hdb : (x == ("__debug__" : Str)) = false := by decide) (he : starEach (e :: es) X.env = (false, eval e X.env) :: starEach es X.env := by rfl) (hpl : (backTo pos (starEach es X.env)).any (·.1) = false := by rfl) :
    PE X (.Call (.Name x p) (e :: es) [] pos) (tCallS sp (WE W) t) := by
  obtain ⟨fd, ds, F, kp, v, b⟩ := h
  cases v
  exact pe_callS F (hr.mono hj) hg hm kp b (fun σ => L2N.passAt tk σ) ha hdb he hpl
theorem x_callS {σ : L2.St} {H : Hp} {Q : VK} {E : L2.St → XK} (h : t σ H fun vs H1 => sp vs H1 Q (E σ)) : tCallS sp E t σ H Q := h
theorem hu64 (hr : Room j X.A) : X.A.units + 64 < cLine := by have := hr.un; omega
theorem hu65 (hr : Room j X.A) : X.A.units + 65 < cLine := by have := hr.un; omega
theorem pe_gstr {z : Str} (h : ∃ t, X.mg x = some (.str z t)) (hg : Gl X x := by rfl) (hd : (x == ("__debug__" : Str)) = false := by decide) : PE X (.Name x pos) (tC (.str z)) := by
  obtain ⟨t, h⟩ := h
  exact pe_glob hg h ⟨t, rfl⟩ hd
theorem pe_gint {z : Int} (h : ∃ t, X.mg x = some (.int z t)) (hg : Gl X x := by rfl) (hd : (x == ("__debug__" : Str)) = false := by decide) : PE X (.Name x pos) (tC (.int z)) := by
  obtain ⟨t, h⟩ := h
  exact pe_glob hg h ⟨t, rfl⟩ hd
theorem pe_gref {a : Addr} (h : X.mg x = some (.ref a)) (hg : Gl X x := by rfl) (hd : (x == ("__debug__" : Str)) = false := by decide) : PE X (.Name x pos) (tC (.ref a)) := pe_glob hg h rfl hd
theorem pe_ty {n : String} (h : X.mg x = none) (hv : bootBuiltins x = some (.type n)) (hg : Gl X x := by rfl) (hn : x ≠ "__name__" := by decide) (hd : (x == ("__debug__" : Str)) = false := by decide) : PE X (.Name x pos) (tC (.ty n)) := pe_bltn hg h hv rfl hn hd
end
/-! ### the error raised -/
/-- C(e) of an error class with the one field f: its dict d holds it -/
def spErr (K : PySem.W.Frag) (C : Addr) (f : Str) : Sp := fun vs H Q _ => ∃ (a : Addr) (y : V), vs = [.ref a, y] ∧ H a = some (exo a C none) ∧ OexC K C ∧ PySem.W.findIn K (.ref C) f = some none ∧
  ∀ dx, H dx = none → dx ≠ a → Q .non (upd (upd H dx (exd dx [(f, y)])) a (exo a C (some dx)))
theorem pmk_err {X : Cx} {x f pf : Str} {e : Expr} {ta : TA} {p pos : Pos} {C : Addr} {k j : Nat} (T : Err X.K C f) (O : Ok X.prog X.w X.K X.mg X.base k (He.ma X.K C "__init__") ["self", pf] [] (spErr X.K C f))
    (hr : Room j X.A) (hj : k + 1 ≤ j) (hm : X.mg x = some (.ref C)) (ha : PA X [e] ta) (hg : Gl X x := by rfl) (hdb : (x == ("__debug__" : Str)) = false := by decide) (he : starEach [e] X.env = (false, eval e X.env) :: starEach [] X.env := by rfl)
    (hpl : (backTo pos (starEach [] X.env)).any (·.1) = false := by rfl) : L2N.PMk X (.Call (.Name x p) [e] [] pos) (tMkO C (spErr X.K C f) [] ta) := by
  obtain ⟨fd, ds, F, kp, v, b⟩ := O
  cases v
  exact pmkN_oex (dvs := []) (ds := []) T.T T.iC T.tI F (hr.mono hj) b .nil passN0 hg hm ha hdb he hpl
theorem x_mk {σ : L2.St} {H : Hp} {C : Addr} {sp : Sp} {ta : TA} {Q : XK} (h : ta σ H fun vs H1 => vs.length ≤ 1000 ∧ ∀ a, H1 a = none → sp (.ref a :: (vs ++ [])) (upd H1 a (exo a C none))
  (fun v H2 => v = .non ∧ ∃ (d : Addr) (fs : List (Str × V)), H2 a = some (exo a C (some d)) ∧ H2 d = some (exd d fs) ∧ H1 d = none ∧ Q (.ref C) (some d) (upd (del H2 a) d (.xd fs))) (fun _ _ _ => False)) : tMkO C sp [] ta σ H Q := h
theorem x_err {K : PySem.W.Frag} {H : Hp} {C : Addr} {f : Str} {y : V} {Q : XK} (T : Err K C f) (h : ∀ d H2, H d = none → Same H H2 → H2 d = some (.xd [(f, y)]) → Q (.ref C) (some d) H2) :
    [y].length ≤ 1000 ∧ ∀ a, H a = none → spErr K C f (.ref a :: ([y] ++ [])) (upd H a (exo a C none))
      (fun v H2 => v = .non ∧ ∃ (d : Addr) (fs : List (Str × V)), H2 a = some (exo a C (some d)) ∧ H2 d = some (exd d fs) ∧ H d = none ∧ Q (.ref C) (some d) (upd (del H2 a) d (.xd fs))) (fun _ _ _ => False) := by
  refine ⟨Nat.le_trans (Nat.le_refl 1) (by decide), fun a ha => ⟨a, y, rfl, upd_same, T.T, T.nf, fun dx hdx hne => ⟨rfl, dx, [(f, y)], upd_same, ?_, ?_, ?_⟩⟩⟩
  · rw [upd_ne hne]
    exact upd_same
  · rw [upd_ne hne] at hdx
    exact hdx
  · have hd : H dx = none := by
      rw [upd_ne hne] at hdx
      exact hdx
    refine h dx _ hd (fun b o q => ?_) upd_same
    have nb : b ≠ dx := ne_of_none q hd
    have na : b ≠ a := ne_of_none q ha
    rw [upd_ne nb, del_ne na, upd_ne na, upd_ne nb, upd_ne na]
    exact q
end M
namespace M
open PySem PySem.Spec PyProof.Rows L2
/-! ### raise and try -/
def tRaise (W : WX) (t : L2.St → Hp → XK → Prop) : TS := fun _ σ H => t σ H fun cls d H' => W cls d σ H'
theorem x_raise {W : WX} {t : L2.St → Hp → XK → Prop} {D : Ends} {σ : L2.St} {H : Hp} (h : t σ H fun cls d H' => W cls d σ H') : tRaise W t D σ H := h
def tTry (K : PySem.W.Frag) (c : Value) (i : Nat) (tb : WX → TS) (ts : Addr → Value → Option Addr → TS) : TS := fun D σ H => tb (wAs K c i ts (fun _ _ _ _ => False) D) D σ H
theorem x_try {K : PySem.W.Frag} {c : Value} {i : Nat} {tb : WX → TS} {ts : Addr → Value → Option Addr → TS} {D : Ends} {σ : L2.St} {H : Hp} (h : tb (wAs K c i ts (fun _ _ _ _ => False) D) D σ H) : tTry K c i tb ts D σ H := h
/-- the clause's own error comes -/
theorem x_caught {K : PySem.W.Frag} {C : Addr} {i : Nat} {ts : Addr → Value → Option Addr → TS} {n bk ct : L2.St → Hp → Prop} {r : VK} {σ : L2.St} {H : Hp} {d : Option Addr} (te : PySem.W.exmOne K (.ref C) (.ref C) = some true)
    (h : ∀ a, H a = none → ts a (.ref C) d (Ends.mk (fun σ' H' => n (σ'.set i none) H') r (fun σ' H' => bk (σ'.set i none) H') (fun σ' H' => ct (σ'.set i none) H')) (σ.set i (some (.ref a))) H) :
    wAs K (.ref C) i ts (fun _ _ _ _ => False) (Ends.mk n r bk ct) (.ref C) d σ H := ⟨true, te, fun _ a ha => h a ha, fun q => Bool.noConfusion q⟩
theorem x_xf {a : Addr} {cls : Value} {d : Option Addr} {C : Addr} {f : Str} {te : TE} {σ : L2.St} {H : Hp} {Q : VK} (h : te σ H fun x H1 => x = .ref a ∧ cls = .ref C ∧ ∃ (dd : Addr) (fs : List (Str × V)) (v : V), d = some dd ∧ H1 dd = some (.xd fs) ∧ fs.lookup f = some v ∧ Q v H1) : tXf a cls d C f te σ H Q := h
theorem x_xf1 {a C dd : Addr} {f : Str} {v : V} {H : Hp} {R : V → Prop} (e : H dd = some (.xd [(f, v)])) (q : R v) :
    V.ref a = .ref a ∧ Value.ref C = .ref C ∧ ∃ (d2 : Addr) (fs : List (Str × V)) (v : V), some dd = some d2 ∧ H d2 = some (.xd fs) ∧ fs.lookup f = some v ∧ R v := ⟨rfl, rfl, dd, _, v, rfl, e, by simp [List.lookup], q⟩
theorem x_isX {K : PySem.W.Frag} {C a dd : Addr} {f : Str} {v c : V} {cv : Value} {b : Bool} {H : Hp} {Q : VK} (T : Err K C f) (e : H dd = some (.xd [(f, v)])) (cl : ClsV c cv) (k : PySem.W.kitOne K (.ref C) cv = some b) (q : Q (.bl b) H) :
    rIsX K a (.ref C) (some dd) [.ref a, c] H Q := ⟨C, c, cv, b, rfl, rfl, .inr ⟨dd, _, rfl, e⟩, T.kx, T.xf, cl, k, q⟩
/-! ### calls in an except suite -/
def OkH (P : Program) (w : World) (K : PySem.W.Frag) (mg : Str → Option Value) (base : Heap) (k : Nat) (f : Addr) (ps : List Str) (sp : Sp) : Prop :=
  ∃ fd, L2H.FnH P w K mg base (L2N.CX P w) k f fd ps sp ∧ PySem.W.keepIn K (.ref f) = true ∧ Binds K fd ps []
theorem hot_of {X : Cx} {a : Addr} {cls : Value} {d : Option Addr} {oe : Obj} {pn : List (Addr × Obj)} (hz : L2N.Zn cls d oe) (hf : ∃ vs, oe.data = .fields vs) : L2H.HotC (X.suite a ((a, oe) :: pn)) := by
  obtain ⟨vs, h⟩ := hf
  exact ⟨(a, oe), ⟨rfl, vs, h, hz.2.2 vs h⟩, List.mem_cons_self⟩
theorem passAtN0 {X : Cx} {σ : L2.St} : PassesAt (L2N.CX X.prog X.w) X σ E0 := fun _ _ _ _ _ _ h => by
  obtain ⟨_, _, _, _, _, _, _, _, _, _, _, _, z⟩ := h
  exact z.elim
section
variable {X : Cx} {k j : Nat} {f : Addr} {ps : List Str} {sp : Sp} {x : Str} {p pos : Pos} {e : Expr} {es : List Expr} {t : TA}
theorem pe_cH {A : Around} {hv : Option Value} (h : OkH X.prog X.w X.K X.mg X.base k f ps sp) (hr : Room j A) (hj : k ≤ j) (hc : L2H.HotC X) (hm : X.mg x = some (.ref f)) (ha : PA X (e :: es) t) (hA : X.A = A.mark hv := by rfl)
    (hg : Gl X x := by rfl) (hdb : (x == ("__debug__" : Str)) = false := by decide) (he : starEach (e :: es) X.env = (false, eval e X.env) :: starEach es X.env := by rfl) (hpl : (backTo pos (starEach es X.env)).any (·.1) = false := by rfl) :
    PE X (.Call (.Name x p) (e :: es) [] pos) (tCallS sp (fun _ => E0) t) := by
  obtain ⟨fd, F, kp, b⟩ := h
  have r : L2H.RoomH k X.A := by
    rw [hA]
    exact ⟨by have := (hr.mono hj).dp; exact this, by have := (hr.mono hj).un; exact this⟩
  exact L2H.pe_callH F r hc hg hm kp b (fun _ => passAtN0) ha hdb he hpl
end
theorem okH_of {P : Program} {w : World} {K : PySem.W.Frag} {mg : Str → Option Value} {base : Heap} {x qual : Str} {params : Arguments} {body : List Stmt} {scope : Scope} {f : Addr} {fd : FuncData} {N ps : List Str} {k : Nat} {sp : Sp}
    (F : FunD K x qual params body scope [] [] f fd) (S : FnScope N ps scope) (len : ∀ vs H Q E, sp vs H Q E → vs.length = ps.length) (b : Binds K fd ps [])
    (hbody : ∀ (cdv : Value) (A : Around) (outer : List Env) (s : Shared) (H : Hp) (vs : List V) (Q : VK) (E : XK) (p : Addr × Obj), L2H.Hot1 A p → L2H.RoomH k (A.deeper (envOfC qual scope s.heap.objs.size f cdv)) → sp vs H Q E →
      ∃ t, PSs (L2H.cxH (L2N.CX P w) P w K mg base N qual scope f cdv A outer s H E p) body t ∧ t { nx := fun _ H' => Q .non H', rt := Q } (start N vs) H) : OkH P w K mg base (k + 1) f ps sp := by
  have kp := F.kp
  obtain ⟨oc, od, dV, kV, doc, pm, an, cdv, ct, osl, rfl, lk, hcd, _, _⟩ := F.ex
  exact ⟨_, L2H.fn_ofH lk hcd S len fun A outer s H vs Q E p hot hr h => hbody cdv A outer s H vs Q E p hot hr h, kp, b⟩
end M
namespace M
open PySem PySem.Spec PyProof.Rows L2
/-! ## keywords alone; a def's proof in parts -/
def tKw0 (m : Nat) (sp : Sp) (gV : List V → List V → List V) (E : XK) (tk : TA) : TE := fun σ H Q => tk σ H fun zs H2 => zs.length = m ∧ sp (gV [] zs) H2 Q E
theorem x_kw0 {m : Nat} {sp : Sp} {gV : List V → List V → List V} {E : XK} {tk : TA} {σ : L2.St} {H : Hp} {Q : VK} (h : tk σ H fun zs H2 => zs.length = m ∧ sp (gV [] zs) H2 Q E) : tKw0 m sp gV E tk σ H Q := h
def OkK (P : Program) (w : World) (K : PySem.W.Frag) (mg : Str → Option Value) (base : Heap) (k : Nat) (f : Addr) (ps : List Str) (n : Nat) (ks : List Str) (gV : List V → List V → List V) (sp : Sp) : Prop :=
  ∃ fd g, FnOk P w K mg base (L2N.CX P w) k f fd ps sp ∧ PySem.W.keepIn K (.ref f) = true ∧ KBn K fd ps n ks g gV
section
variable {X : Cx} {k j n : Nat} {f : Addr} {ps ks : List Str} {sp : Sp} {E : XK} {x : Str} {p pos : Pos} {e : Expr} {es : List Expr} {kws : List Keyword} {t tk : TA} {gV : List V → List V → List V}
theorem pe_kw0 (h : OkK X.prog X.w X.K X.mg X.base k f ps 0 ks gV sp) (hr : Room j X.A) (hj : k ≤ j) (hm : X.mg x = some (.ref f)) (hx : Passes (L2N.CX X.prog X.w) X E) (hkw : PK X kws tk)
    (hg : Gl X x := by rfl) (hall : (backToKw pos (keywordEach kws X.env)).all (·.1.isSome) = true := by rfl) (hks : (backToKw pos (keywordEach kws X.env)).filterMap (·.1) = ks := by rfl)
    (hdb : (x == ("__debug__" : Str)) = false := by decide)
    (hpl : ((backTo pos (starEach [] X.env)).any (·.1) || (backToKw pos (keywordEach kws X.env)).any (·.1.isNone)) = false := by rfl) :
    PE X (.Call (.Name x p) [] kws pos) (tKw0 ks.length sp gV E tk) := by
  obtain ⟨fd, g, F, kp, b⟩ := h
  refine ⟨fun pins s σ H Q I h => ?_⟩
  refine wpAny_Call_Name_kw (ld_glob I hg hm ?_ hdb)
  refine PySem.W.callWith_KW0 (h₀ := X.base) I.ok.mod.kin kp hall ?_ hpl
  refine thn (hkw.run pos pins s σ H _ I h) fun ws s2 ⟨zs, H2, I2, rz, l2, q2⟩ => ⟨I2.kIn, ?_⟩
  rw [hks]
  exact run_fnN (us := []) (vs := []) F (hr.mono hj) b hx I2 .nil rz rfl l2 q2
theorem pe_kwN (h : OkK X.prog X.w X.K X.mg X.base k f ps n ks gV sp) (hr : Room j X.A) (hj : k ≤ j) (hm : X.mg x = some (.ref f)) (hx : Passes (L2N.CX X.prog X.w) X E) (ha : PA X (e :: es) t) (hkw : PK X kws tk)
    (hg : Gl X x := by rfl) (hall : (backToKw pos (keywordEach kws X.env)).all (·.1.isSome) = true := by rfl) (hks : (backToKw pos (keywordEach kws X.env)).filterMap (·.1) = ks := by rfl)
    (hdb : (x == ("__debug__" : Str)) = false := by decide) (he : starEach (e :: es) X.env = (false, eval e X.env) :: starEach es X.env := by rfl)
    (hpl : ((backTo pos (starEach (e :: es) X.env)).any (·.1) || (backToKw pos (keywordEach kws X.env)).any (·.1.isNone)) = false := by rfl) :
    PE X (.Call (.Name x p) (e :: es) kws pos) (tCallN n ks.length sp gV E t tk) := by
  obtain ⟨fd, g, F, kp, b⟩ := h
  exact pe_callN F (hr.mono hj) hg hm kp b hx ha hkw hall hks hdb he hpl
end
theorem vals_getD : ∀ {vs : List V} {us : List Value} (i : Nat), Vals vs us → RelV (vs.getD i .non) (us.getD i .none)
  | _, _, _, .nil => rfl
  | _, _, 0, .cons r _ => r
  | _, _, i + 1, .cons _ t => vals_getD i t
theorem vals_pick {vs : List V} {us : List Value} (r : Vals vs us) : ∀ idx : List Nat, Vals (idx.map fun i => vs.getD i .non) (idx.map fun i => us.getD i .none)
  | [] => .nil
  | i :: l => .cons (vals_getD i r) (vals_pick r l)
section
variable {K : PySem.W.Frag} {x qual : Str} {params : Arguments} {body : List Stmt} {scope : Scope} {dvs : List V} {kws : List (Str × V)} {f : Addr} {fd : FuncData} {ps : List Str}
/-- keywords, positional defaults: each parameter takes its value out of: positional values, keywords' values, defaults -/
theorem kbinds1 (F : FunD K x qual params body scope dvs kws f fd) (n : Nat) (ks : List Str) (idx : List Nat) (hd : dvs ≠ [])
    (h : ∀ (T : Addr) (kV doc pm : Value) (an : Option Addr) (cdv ct : Value) (us its ws : List Value), us.length = n → its.length = dvs.length → ws.length = ks.length →
      ∃ k, bindArgs (PySem.W.fnOf x qual params body scope (.ref T) kV doc pm an cdv ct) ⟨us, ks.zip ws⟩ = seqItems? (.ref T) >>= k ∧ k (some its.toArray) = pure (ps.zip (idx.map fun i => (us ++ ws ++ its).getD i .none))) :
    ∃ g, KBn K fd ps n ks g (fun vs zs => idx.map fun i => (vs ++ zs ++ dvs).getD i .non) := by
  obtain ⟨oc, od, dV, kV, doc, pm, an, cdv, ct, osl, rfl, lk, hcd, hD, hK⟩ := F.ex
  rcases hD with ⟨e, _⟩ | ⟨_, T, o, its, m, rfl, lT, oT, rT⟩
  · exact absurd e hd
  · refine ⟨fun us ws => idx.map fun i => (us ++ ws ++ its).getD i .none, fun s us ws X l1 l2 => BindsTo.of_looks fun M => ?_, fun r1 r2 => vals_pick ((r1.append r2).append rT) idx⟩
    obtain ⟨k, e1, e2⟩ := h T kV doc pm an cdv ct us its ws l1 rT.length.symm l2
    rw [e1]
    exact looks_items X lT oT (.of_pure e2)
/-- keywords, no defaults -/
theorem kbindsN (F : FunD K x qual params body scope [] kws f fd) (n : Nat) (ks : List Str) (idx : List Nat)
    (h : ∀ (kV doc pm : Value) (an : Option Addr) (cdv ct : Value) (us ws : List Value), us.length = n → ws.length = ks.length →
      bindArgs (PySem.W.fnOf x qual params body scope .none kV doc pm an cdv ct) ⟨us, ks.zip ws⟩ = pure (ps.zip (idx.map fun i => (us ++ ws).getD i .none))) :
    ∃ g, KBn K fd ps n ks g (fun vs zs => idx.map fun i => (vs ++ zs).getD i .non) := by
  obtain ⟨oc, od, dV, kV, doc, pm, an, cdv, ct, osl, rfl, lk, hcd, hD, hK⟩ := F.ex
  rcases hD with ⟨_, rfl⟩ | ⟨e, _⟩
  · exact ⟨fun us ws => idx.map fun i => (us ++ ws).getD i .none, fun s us ws X l1 l2 => .of_eq (h kV doc pm an cdv ct us ws l1 l2), fun r1 r2 => vals_pick (r1.append r2) idx⟩
  · exact absurd rfl e
end
section
variable {P : Program} {w : World} {K : PySem.W.Frag} {mg : Str → Option Value} {base : Heap} {x qual : Str} {params : Arguments} {body : List Stmt} {scope : Scope} {dvs : List V} {kws : List (Str × V)} {f : Addr} {N ps : List Str} {k : Nat} {sp : Sp}
theorem fnF {fd : FuncData} (F : FunD K x qual params body scope dvs kws f fd) (S : FnScope N ps scope) (len : ∀ vs H Q E, sp vs H Q E → vs.length = ps.length) {t : XK → TS}
    (der : ∀ (f : Addr) (cdv : Value) (A : Around) (outer : List Env) (s : Shared) (H : Hp) (E : XK), Room k (A.deeper (envOfC qual scope s.heap.objs.size f cdv)) → PSs (cxOf (L2N.CX P w) P w K mg base N qual scope f cdv A outer s H E) body (t E))
    (rd : ∀ vs H Q E, sp vs H Q E → t E (Ends.mk (fun _ H' => Q .non H') Q (fun _ _ => False) (fun _ _ => False)) (start N vs) H) : FnOk P w K mg base (L2N.CX P w) (k + 1) f fd ps sp :=
  F.ok S len fun cdv A outer s H vs Q E hr h => ⟨t E, der f cdv A outer s H E hr, rd vs H Q E h⟩
theorem okF (F : ∃ fd, FunD K x qual params body scope [] kws f fd) (S : FnScope N ps scope) (len : ∀ vs H Q E, sp vs H Q E → vs.length = ps.length) {t : XK → TS}
    (b : ∀ (kV doc pm : Value) (an : Option Addr) (cdv ct : Value) (us : List Value), us.length = ps.length → bindArgs (PySem.W.fnOf x qual params body scope .none kV doc pm an cdv ct) ⟨us, []⟩ = pure (ps.zip us))
    (der : ∀ (f : Addr) (cdv : Value) (A : Around) (outer : List Env) (s : Shared) (H : Hp) (E : XK), Room k (A.deeper (envOfC qual scope s.heap.objs.size f cdv)) → PSs (cxOf (L2N.CX P w) P w K mg base N qual scope f cdv A outer s H E) body (t E))
    (rd : ∀ vs H Q E, sp vs H Q E → t E (Ends.mk (fun _ H' => Q .non H') Q (fun _ _ => False) (fun _ _ => False)) (start N vs) H) : Ok P w K mg base (k + 1) f ps [] sp := by
  obtain ⟨fd, F⟩ := F
  exact ⟨fd, [], fnF F S len der rd, F.kp, .nil, F.bindsN b⟩
/-- some positional defaults: n values are written, j of the defaults are not needed -/
theorem okF1 (n j : Nat) (F : ∃ fd, FunD K x qual params body scope dvs kws f fd) (S : FnScope N ps scope) (len : ∀ vs H Q E, sp vs H Q E → vs.length = ps.length) {t : XK → TS} (hd : dvs ≠ []) (hn : n + (dvs.length - j) = ps.length)
    (b : ∀ (T : Addr) (kV doc pm : Value) (an : Option Addr) (cdv ct : Value) (us its : List Value), us.length = n → its.length = dvs.length →
      ∃ k, bindArgs (PySem.W.fnOf x qual params body scope (.ref T) kV doc pm an cdv ct) ⟨us, []⟩ = seqItems? (.ref T) >>= k ∧ k (some its.toArray) = pure (ps.zip (us ++ its.drop j)))
    (der : ∀ (f : Addr) (cdv : Value) (A : Around) (outer : List Env) (s : Shared) (H : Hp) (E : XK), Room k (A.deeper (envOfC qual scope s.heap.objs.size f cdv)) → PSs (cxOf (L2N.CX P w) P w K mg base N qual scope f cdv A outer s H E) body (t E))
    (rd : ∀ vs H Q E, sp vs H Q E → t E (Ends.mk (fun _ H' => Q .non H') Q (fun _ _ => False) (fun _ _ => False)) (start N vs) H) : Ok P w K mg base (k + 1) f ps (dvs.drop j) sp := by
  obtain ⟨fd, F⟩ := F
  obtain ⟨ds, v, bb⟩ := F.binds1 n j hd hn b
  exact ⟨fd, ds, fnF F S len der rd, F.kp, v, bb⟩
end
end M
namespace M
open PySem PySem.Spec PyProof.Rows L2
/-! ## a tuple of the top: told by a Bool -/
def relsB : List V → List Value → Bool
  | [], [] => true
  | v :: vs, u :: us => He.relB v u && relsB vs us
  | _, _ => false
theorem relsB_ok : ∀ {vs : List V} {us : List Value}, relsB vs us = true → Vals vs us
  | [], [], _ => .nil
  | v :: vs, u :: us, h => by
    have h2 : (He.relB v u && relsB vs us) = true := h
    rw [Bool.and_eq_true] at h2
    exact .cons (He.relB_ok h2.1) (relsB_ok h2.2)
  | [], _ :: _, h => by cases h
  | _ :: _, [], h => by cases h
def ktupB (K : PySem.W.Frag) (a : Addr) (xs : List V) : Bool := match K.lookup a with
  | some ⟨.type c, _, .seq its _, _⟩ => decide (c = "tuple") && (decide (its.size ≤ 1000) && relsB xs its.toList)
  | _ => false
theorem ktupB_ok {K : PySem.W.Frag} {a : Addr} {xs : List V} (h : ktupB K a xs = true) : ∀ H, SqT K H a xs := by
  intro H
  unfold ktupB at h
  split at h
  · rename_i c d its n sl e
    rw [Bool.and_eq_true, Bool.and_eq_true] at h
    have h1 : c = "tuple" := of_decide_eq_true h.1
    have h2 : its.size ≤ 1000 := of_decide_eq_true h.2.1
    subst h1
    exact .inr ⟨_, its, n, e, rfl, rfl, Nat.le_trans h2 (by decide), relsB_ok h.2.2⟩
  · cases h
end M
namespace M
open PySem PySem.Spec PyProof.Rows L2
theorem hu64M {j : Nat} {A : Around} {h : Option Value} (hr : Room j A) : (A.mark h).units + 64 < cLine := by
  have := hr.un
  show A.units + 64 < cLine
  omega
theorem hu65M {j : Nat} {A : Around} {h : Option Value} (hr : Room j A) : (A.mark h).units + 65 < cLine := by
  have := hr.un
  show A.units + 65 < cLine
  omega
end M

namespace M
open PySem PySem.Spec PyProof.Rows L2
/-! ## raise, try -/
def jRaise1 (c f : Str) (a : AJ) : SJ := fun D ρ s => a ρ s (fun ds s1 => ∃ d, ds = [d] ∧ D.xr ρ c [(f, d)] s1) (D.xr ρ)
def jTry (tab : List (Str × Bool)) (i : Nat) (b : SJ) (u : Str → Addr → Addr → SJ) : SJ := fun D ρ s =>
  b { D with xr := fun ρ' c fs s' => ∃ k, tab.lookup c = some k ∧ if k = true then fs ≠ [] ∧ ∀ a dd, s' a = none → u c a dd { D with nx := fun ρ2 s2 => D.nx (ρ2.set i none) s2, bk := fun ρ2 s2 => D.bk (ρ2.set i none) s2, ct := fun ρ2 s2 => D.ct (ρ2.set i none) s2, xr := fun _ => No } (ρ'.set i (some (.exc a dd fs))) s' else D.xr ρ' c fs s' } ρ s
/-- try .. except X: -/
def jTryO (tab : List (Str × Bool)) (b u : SJ) : SJ := fun D ρ s =>
  b { D with xr := fun ρ' c fs s' => ∃ k, tab.lookup c = some k ∧ if k = true then u { D with xr := fun _ => No } ρ' s' else D.xr ρ' c fs s' } ρ s
/-- e.f of what was caught -/
def jXf (a dd : Addr) (c x f : Str) (p : TJ) : TJ := fun ρ s Q R => p ρ s (fun y s1 => c = x ∧ ∃ fs v, y = .exc a dd fs ∧ fs.lookup f = some v ∧ Q v s1) R
def isXJ (tab : List (Str × Bool)) (x c : Str) (a dd : Addr) (xs : List J) (s : Sto) (Q : QJ) : Prop := ∃ fs b, xs = [.exc a dd fs, .cls x] ∧ tab.lookup c = some b ∧ Q (.bl b) s
section
variable {K : PySem.W.Frag} {W : WX} {E : XK} {ta te tv : TE} {pa pe pv : TJ} {xa : TA} {qa : AJ}
theorem Stt.same {F : Hp} {s : Sto} {H H' : Hp} (t : Stt K F s H) (e : Same H H') (n : ∀ a, H a = none → s a = none := by intros; assumption) : Stt K F s H' ∧ Le (mask F s H) (mask F s H') := by
  have l : Le (mask F s H) (mask F s H') := fun a o q => by
    obtain ⟨h1, h2, h3⟩ := of_mask q
    exact ⟨o, by rw [mask_none h1 h2]; exact e a o h3, rfl⟩
  exact ⟨⟨fun a o q => let ⟨h1, h, h3, h4⟩ := t.sk a o q; ⟨h1, h, e a h h3, h4.up l⟩, fun a o q => e a o (t.fr a o q)⟩, l⟩
theorem ss_raise1 {c f : Str} (T : Err K (He.ga K c) f) (hx : Sa K W xa qa) : Ss K W (tRaise W (tMkO (He.ga K c) (spErr K (He.ga K c) f) [] xa)) (jRaise1 c f qa) := by
  intro F D DV ρ s σ H a e h
  show tMkO (He.ga K c) (spErr K (He.ga K c) f) [] xa σ H fun cls d H' => W cls d σ H'
  refine x_mk ?_
  refine hx F ρ s σ H _ _ _ a (fun ds s1 h1 vs H1 l1 st1 j1 => ?_) (er_x (G := H) a e) h
  obtain ⟨d, rfl, q⟩ := h1
  obtain ⟨v, rfl, j⟩ := jps1 j1
  refine x_err (Q := fun cls d H' => W cls d σ H') T fun dd H2 hd sm e2 => ?_
  obtain ⟨f1, f2⟩ := st1.fresh hd
  obtain ⟨st2, l2⟩ := st1.same sm (fun a ha => (st1.fresh ha).1)
  exact e.xr ρ c _ s1 σ q (some dd) H2 (l1.trans l2) (a.to (l1.trans l2) st2) ⟨_, by rw [mask_none f2 f1]; exact e2, .cons (j.up l2) .nil⟩
theorem er_no {F G : Hp} {D : EJ} {DV : Ends} (e : Er K F W G D DV) : Er K F W0 G { D with xr := fun _ => No } DV := ⟨e.nx, e.rt, e.bk, e.ct, fun _ _ _ _ _ h => h.elim⟩
theorem look_mem {α : Type} {c : Str} {k : α} : ∀ {tab : List (Str × α)}, tab.lookup c = some k → (c, k) ∈ tab
  | (d, j) :: r, h => by
    rw [List.lookup_cons] at h
    cases e : c == d with
    | true =>
      rw [e] at h
      cases h
      have := eq_of_beq e
      subst this
      exact List.mem_cons_self
    | false =>
      rw [e] at h
      exact List.mem_cons_of_mem _ (look_mem h)
theorem ss_try {x : Str} {tab : List (Str × Bool)} {i : Nat} {tb : WX → TS} {ts : Addr → Value → Option Addr → TS} {q : SJ} {u : Str → Addr → Addr → SJ} (hk : ∀ p ∈ tab, PySem.W.exmOne K (.ref (He.ga K p.1)) (.ref (He.ga K x)) = some p.2)
    (hb : ∀ W', Ss K W' (tb W') q) (hu : ∀ c a dd, Ss K W0 (ts a (.ref (He.ga K c)) (some dd)) (u c a dd)) : Ss K W (fun D σ H => tb (wAs K (.ref (He.ga K x)) i ts W D) D σ H) (jTry tab i q u) := by
  intro F D DV ρ s σ H a e h
  refine hb _ F { D with xr := fun ρ' c fs s' => ∃ k, tab.lookup c = some k ∧ if k = true then fs ≠ [] ∧ ∀ a dd, s' a = none → u c a dd { D with nx := fun ρ2 s2 => D.nx (ρ2.set i none) s2, bk := fun ρ2 s2 => D.bk (ρ2.set i none) s2, ct := fun ρ2 s2 => D.ct (ρ2.set i none) s2, xr := fun _ => No } (ρ'.set i (some (.exc a dd fs))) s' else D.xr ρ' c fs s' } DV ρ s σ H a ⟨e.nx, e.rt, e.bk, e.ct, ?_⟩ h
  intro ρ' c fs s' σ' hx d H' l' a' xd
  obtain ⟨k, e1, hx⟩ := hx
  refine ⟨k, hk _ (look_mem e1), ?_, ?_⟩
  · rintro rfl b hb'
    obtain ⟨ne, hx⟩ := hx
    cases d with
    | none => exact absurd xd ne
    | some dd =>
      obtain ⟨vs, e2, r⟩ := xd
      have st := a'.st
      refine hu c b dd F { D with nx := fun ρ2 s2 => D.nx (ρ2.set i none) s2, bk := fun ρ2 s2 => D.bk (ρ2.set i none) s2, ct := fun ρ2 s2 => D.ct (ρ2.set i none) s2, xr := fun _ => No } _ _ s' _ H' ⟨a'.rs.set i (.exc (a := b) e2 r), st⟩ ⟨?_, ?_, ?_, ?_, ?_⟩ (hx b dd (st.fresh hb').1)
      · intro ρ2 s2 σ2 H2 h2 l2 a2
        exact e.nx _ s2 _ H2 h2 (l'.trans l2) ⟨a2.rs.set0 i, a2.st⟩
      · intro d2 s2 h2
        exact (e.rt d2 s2 h2).up l'
      · intro ρ2 s2 σ2 H2 h2 l2 a2
        exact e.bk _ s2 _ H2 h2 (l'.trans l2) ⟨a2.rs.set0 i, a2.st⟩
      · intro ρ2 s2 σ2 H2 h2 l2 a2
        exact e.ct _ s2 _ H2 h2 (l'.trans l2) ⟨a2.rs.set0 i, a2.st⟩
      · intro _ _ _ _ _ z
        exact z.elim
  · rintro rfl
    exact e.xr ρ' c fs s' σ' hx d H' l' a' xd
theorem ss_tryO {x : Str} {tab : List (Str × Bool)} {tb : WX → TS} {ts : Addr → Value → Option Addr → TS} {q u : SJ} (hk : ∀ p ∈ tab, PySem.W.exmOne K (.ref (He.ga K p.1)) (.ref (He.ga K x)) = some p.2)
    (hb : ∀ W', Ss K W' (tb W') q) (hu : ∀ a cls d, Ss K W0 (ts a cls d) u) : Ss K W (fun D σ H => tb (wOnly K (.ref (He.ga K x)) ts W D) D σ H) (jTryO tab q u) := by
  intro F D DV ρ s σ H a e h
  refine hb _ F { D with xr := fun ρ' c fs s' => ∃ k, tab.lookup c = some k ∧ if k = true then u { D with xr := fun _ => No } ρ' s' else D.xr ρ' c fs s' } DV ρ s σ H a ⟨e.nx, e.rt, e.bk, e.ct, ?_⟩ h
  intro ρ' c fs s' σ' hx d H' l' a' xd
  obtain ⟨k, e1, hx⟩ := hx
  refine ⟨k, hk _ (look_mem e1), ?_, ?_⟩
  · rintro rfl b hb'
    exact hu b _ d F { D with xr := fun _ => No } _ ρ' s' σ' H' a' (er_no (e.up l')) hx
  · rintro rfl
    exact e.xr ρ' c fs s' σ' hx d H' l' a' xd
theorem se_xf {a dd : Addr} {c x f : Str} (ha : Se K W ta pa) : Se K W (tXf a (.ref (He.ga K c)) (some dd) (He.ga K x) f ta) (jXf a dd c x f pa) := by
  intro F ρ s σ H Q R QV at' hQ hR h
  refine ha F ρ s σ H _ R _ at' (fun y s1 h1 v1 H1 l1 st1 j1 => ?_) hR h
  obtain ⟨rfl, fs, v, rfl, e, q⟩ := h1
  cases j1 with | exc e2 r =>
  obtain ⟨u, e3, ju⟩ := r.look e
  exact ⟨rfl, rfl, dd, _, u, rfl, (of_mask e2).2.2, e3, hQ _ s1 q _ H1 l1 st1 ju⟩
theorem sf_isX {tab : List (Str × Bool)} {x c : Str} {a dd : Addr} (hk : ∀ p ∈ tab, kxB K (He.ga K p.1) = true ∧ XfC K (He.ga K p.1) ∧ PySem.W.kitOne K (.ref (He.ga K p.1)) (.ref (He.ga K x)) = some p.2) :
    Sf K (rIsX K a (.ref (He.ga K c)) (some dd)) (isXJ tab x c a dd) := by
  intro F s H v xs Q QV t js hQ h
  obtain ⟨fs, b, rfl, e, q⟩ := h
  obtain ⟨u, w, rfl, j1, j2⟩ := jps2 js
  cases j1 with | exc e2 r =>
  cases j2
  obtain ⟨k1, k2, k3⟩ := hk _ (look_mem e)
  exact ⟨_, _, _, b, rfl, rfl, .inr ⟨dd, _, rfl, (of_mask e2).2.2⟩, k1, k2, .own _, k3, hQ _ s q _ H .refl t (.bl _)⟩
/-! ### targets o[i] = v: a list or a dict of the store -/
def rPutD : TSet := fun o i v H Q => ∃ a H', o = .ref a ∧ DPut H a i v H' ∧ Q H'
theorem set_dict {X : Cx} (hu : X.A.units + 1 < cLine) : PSet X rPutD := by
  intro pins s σ H o i v ov iv u Q I ro ri rv h
  obtain ⟨a, H', rfl, g, q⟩ := h
  obtain rfl : ov = Value.ref a := ro
  exact d_setItem hu I g ri rv fun s4 I4 => ⟨H', I4, q⟩
def uSet : TSet := fun o i v H Q => rSetL o i v H Q ∨ rPutD o i v H Q
theorem set_U {X : Cx} (hu : X.A.units + 1 < cLine) : PSet X uSet := by
  intro pins s σ H o i v ov iv u Q I ro ri rv h
  rcases h with h | h
  · exact set_list pins s σ H o i v ov iv u Q I ro ri rv h
  · exact set_dict hu pins s σ H o i v ov iv u Q I ro ri rv h
def putK' (kvs : List (Key × J)) (k : Key) (v : J) : List (Key × J) := if (kvs.any fun kv => decide (kv.1 = k)) = true then kvs.map fun kv => if kv.1 = k then (kv.1, v) else kv else kvs ++ [(k, v)]
def setR (s : Sto) (o i y : J) (Q : Sto → Prop) : Prop := ∃ a, o = .own a ∧ match s a with
  | some (.lst l) => ∃ k : Nat, i = .int (k : Int) ∧ k < l.length ∧ Q (put s a (.lst (l.set k y)))
  | some (.dct l) => ∃ k, keyOf i = some k ∧ l.length < 100000 ∧ Q (put s a (.dct (putK' l k y)))
  | _ => False
/-- o[i] = .. -/
def jgSub (po pi : TJ) : GJ := fun y ρ s Q => po ρ s (fun o s1 => pi ρ s1 (fun i s2 => setR s2 o i y fun s3 => Q ρ s3) No) No
theorem Jpd.put {G : Hp} {k : Key} {v : V} {d : J} {xs : List (Key × V)} {l : List (Key × J)} (j : Jp K G v d) (h : Jpd K G xs l) : Jpd K G (putK xs k v) (putK' l k d) := by
  unfold putK putK'
  have e : (xs.any fun kv => decide (kv.1 = k)) = (l.any fun kv => decide (kv.1 = k)) := by
    clear j
    induction l generalizing xs with
    | nil => cases h; rfl
    | cons p l ih =>
      cases h with | cons j r =>
      rw [List.any_cons, List.any_cons, ih r]
  rw [e]
  split
  · clear e
    rename_i z
    clear z
    induction l generalizing xs with
    | nil => cases h; exact .nil
    | cons p l ih =>
      cases h with | cons j' r =>
      rename_i kk _ _ _
      rw [List.map_cons, List.map_cons]
      by_cases c : kk = k
      · rw [if_pos c, if_pos c]
        exact .cons j (ih r)
      · rw [if_neg c, if_neg c]
        exact .cons j' (ih r)
  · clear e
    rename_i z
    clear z
    induction l generalizing xs with
    | nil => cases h; exact .cons j .nil
    | cons p l ih =>
      cases h with | cons j' r =>
      exact .cons j' (ih r)
theorem sg_sub {to ti : TE} {po pi : TJ} (ho : Se K W0 to po) (hi : Se K W0 ti pi) : Sg K (gSub to ti uSet) (jgSub po pi) := by
  intro F v d ρ s σ H Q QV a j hQ h
  refine ho F ρ s σ H _ No _ a (fun o s1 h1 v1 H1 l1 st1 j1 => ?_) (fun _ _ _ z => z.elim) h
  refine hi F ρ s1 σ H1 _ No _ (a.to l1 st1) (fun i s2 h2 v2 H2 l2 st2 j2 => ?_) (fun _ _ _ z => z.elim) h1
  obtain ⟨b, rfl, h2⟩ := h2
  cases j1
  have L := l1.trans l2
  have jd := j.up L
  split at h2
  · rename_i l e
    obtain ⟨k, rfl, hk, q⟩ := h2
    cases j2
    obtain ⟨xs, e1, r⟩ := st2.lst e
    refine .inl ⟨b, xs, _, k, rfl, rfl, e1, ?_, hQ ρ _ q σ _ (L.trans (mask_w e)) (a.to (L.trans (mask_w e)) (st2.write (o := .lst (l.set k d)) e (r.set k jd)))⟩
    unfold ixN
    rw [if_pos (by omega), if_pos (by rw [r.length]; omega)]
    rfl
  · rename_i l e
    obtain ⟨k, hk, hl, q⟩ := h2
    obtain ⟨xs, e1, r⟩ := st2.dct e
    rw [keyOf_v j2 hk]
    exact .inr ⟨b, _, rfl, DPut.k e1 (by rw [r.length]; exact Nat.lt_of_lt_of_le hl (by decide)), hQ ρ _ q σ _ (L.trans (mask_w e)) (a.to (L.trans (mask_w e)) (st2.write (o := .dct (putK' l k d)) e (r.put jd)))⟩
  · exact h2.elim
end
end M

namespace M
open PySem PySem.Spec PyProof.Rows L2
/-! ## calls, what is raised wished for at the caller's slots -/
def tMethU (C : Addr) (m : Str) (sp : Sp) (dvs : List V) (E : L2.St → XK) (ta : TE) (t : TA) : TE := fun σ H Q => ta σ H fun x H1 => ∃ a dx fs, x = .ref a ∧ H1 a = some (.ins C dx fs) ∧ fs.lookup m = none ∧
  t σ H1 fun vs H2 => sp (x :: (vs ++ dvs)) H2 Q (E σ)
def tMakeU (C : Addr) (sp : Sp) (dvs : List V) (E : L2.St → XK) (t : TA) : TE := fun σ H Q => t σ H fun vs H1 => ∀ x dx, H1 x = none → H1 dx = none → dx ≠ x →
  sp (.ref x :: (vs ++ dvs)) (upd (upd H1 dx (.own x)) x (.ins C dx [])) (fun v H2 => v = .non ∧ Q (.ref x) H2) (E σ)
section
variable {X : Cx} {k j : Nat} {f C : Addr} {ps : List Str} {sp : Sp} {dvs : List V} {x m : Str} {p pos apos : Pos} {e o : Expr} {es : List Expr} {t : TA} {ta : TE} {W : WX} {fd : FuncData} {ds : List Value}
theorem pe_cU (h : Ok X.prog X.w X.K X.mg X.base k f ps dvs sp) (hr : Room j X.A) (hj : k ≤ j) (hm : X.mg x = some (.ref f)) (tk : L2N.Takes X W) (ha : PA X (e :: es) t)
    (hg : Gl X x := by rfl) (hdb : (x == ("__debug__" : Str)) = false := by decide) (he : starEach (e :: es) X.env = (false, eval e X.env) :: starEach es X.env := by rfl) (hpl : (backTo pos (starEach es X.env)).any (·.1) = false := by rfl) :
    PE X (.Call (.Name x p) (e :: es) [] pos) (tCallSD sp dvs (WE W) t) := by
  obtain ⟨fd, ds, F, kp, v, b⟩ := h
  exact pe_callSD F (hr.mono hj) hg hm kp b v (fun σ => L2N.passAt tk σ) ha hdb he hpl
theorem pe_cU0 (h : Ok X.prog X.w X.K X.mg X.base k f ps dvs sp) (hr : Room j X.A) (hj : k ≤ j) (hm : X.mg x = some (.ref f)) (tk : L2N.Takes X W)
    (hg : Gl X x := by rfl) (hdb : (x == ("__debug__" : Str)) = false := by decide) : PE X (.Call (.Name x p) [] [] pos) (tCallSD sp dvs (WE W) tNil) := by
  obtain ⟨fd, ds, F, kp, v, b⟩ := h
  refine ⟨fun pins s σ H Q I h => ?_⟩
  refine wpAny_Call_Name_kw (ld_glob I hg hm ?_ hdb)
  exact PySem.W.callWith_K0 I.kIn kp (run_fnSD (us := []) (vs := []) F (hr.mono hj) b v (L2N.passAt tk σ) I .nil h)
theorem pe_mU {pl : Sem Bool} (h : Ok X.prog X.w X.K X.mg X.base k f ps dvs sp) (hr : Room j X.A) (hj : k ≤ j) (c : Cls X.K C) (hm : Meth X.K C m f) (tk : L2N.Takes X W) (ho : PE X o ta) (ha : PA X (e :: es) t)
    (hst : starEach (e :: es) X.env = (false, eval e X.env) :: starEach es X.env := by rfl) (hpl : (backTo pos (starEach es X.env)).any (·.1) = false := by rfl)
    (ht : eval (.Call (.Attribute o m apos) (e :: es) [] pos) X.env = (do
      let ov ← eval o X.env
      standAt apos.atName
      let (f, first) ← holding [ov] (getMethod ov m pl)
      callWith pos f first (backTo pos (starEach (e :: es) X.env)) (backToKw pos (keywordEach [] X.env))) := by rfl) :
    PE X (.Call (.Attribute o m apos) (e :: es) [] pos) (tMethU C m sp dvs (WE W) ta t) := by
  obtain ⟨fd, ds, F, kp, v, b⟩ := h
  refine ⟨fun pins s σ H Q I h => ?_⟩
  refine PySem.W.methodCall_KW (pl := pl) (thn (ho.run pins s σ H _ I h) fun u s1 ⟨x, H1, I1, rx, a, dx, fs, ex, ea, l, q⟩ => ?_) ht
  subst ex
  obtain rfl : u = Value.ref a := rx
  refine getmeth_ok I1 ea c hm l ?_
  refine PySem.W.callWith_K (first := [.ref a]) (h₀ := X.base) I.ok.mod.kin hm.kp (thn (ha.run pos pins s1 σ H1 _ I1 q) fun us s2 ⟨vs, H2, I2, r, q2⟩ => ⟨I2.kIn, ?_⟩) hst hpl
  exact run_fnSD (us := .ref a :: us) (vs := .ref a :: vs) F (hr.mono hj) b v (L2N.passAt tk σ) I2 (.cons rfl r) q2
theorem pe_mU0 {pl : Sem Bool} (h : Ok X.prog X.w X.K X.mg X.base k f ps dvs sp) (hr : Room j X.A) (hj : k ≤ j) (c : Cls X.K C) (hm : Meth X.K C m f) (tk : L2N.Takes X W) (ho : PE X o ta)
    (ht : eval (.Call (.Attribute o m apos) [] [] pos) X.env = (do
      let ov ← eval o X.env
      standAt apos.atName
      let (f, first) ← holding [ov] (getMethod ov m pl)
      callWith pos f first (backTo pos (starEach [] X.env)) (backToKw pos (keywordEach [] X.env))) := by rfl) :
    PE X (.Call (.Attribute o m apos) [] [] pos) (tMethU C m sp dvs (WE W) ta tNil) := by
  obtain ⟨fd, ds, F, kp, v, b⟩ := h
  refine ⟨fun pins s σ H Q I h => ?_⟩
  refine PySem.W.methodCall_KW (pl := pl) (thn (ho.run pins s σ H _ I h) fun u s1 ⟨x, H1, I1, rx, a, dx, fs, ex, ea, l, q⟩ => ?_) ht
  subst ex
  obtain rfl : u = Value.ref a := rx
  refine getmeth_ok I1 ea c hm l ?_
  exact PySem.W.callWith_K0 (first := [.ref a]) I1.kIn hm.kp (run_fnSD (us := [.ref a]) (vs := [.ref a]) F (hr.mono hj) b v (L2N.passAt tk σ) I1 (.cons rfl .nil) q)
theorem run_makeU {pins : List (Addr × Obj)} {σ : L2.St} {H : Hp} {s : Shared} {Q : VK} {us : List Value} {vs : List V} (M : Mk X.K C f) (F : FnOk X.prog X.w X.K X.mg X.base (L2N.CX X.prog X.w) k f fd ps sp) (hr : Room (k + 1) X.A) (hb : Binds X.K fd ps ds) (hd : Vals dvs ds)
    (tk : L2N.Takes X W) (I : Inv X pins σ H s) (r : Vals vs us)
    (h : ∀ x dx, H x = none → H dx = none → dx ≠ x → sp (.ref x :: (vs ++ dvs)) (upd (upd H dx (.own x)) x (.ins C dx [])) (fun v H2 => v = .non ∧ Q (.ref x) H2) (WE W σ)) :
    wpAny (model X.prog X.w) X.A (call (.ref C) us) (EP X pins σ Q) X.xe s := by
  have hq := h (s.heap.objs.size + 1) s.heap.objs.size (I.hok.fresh (Nat.le_succ _)) (I.hok.fresh (Nat.le_refl _)) (Nat.ne_of_lt (Nat.lt_succ_self _))
  have I2 := Inv.made (C := C) I
  have r2 : Vals (V.ref (s.heap.objs.size + 1) :: (vs ++ dvs)) (Value.ref (s.heap.objs.size + 1) :: (us ++ ds)) := .cons rfl (r.append hd)
  have hl : (Value.ref (s.heap.objs.size + 1) :: us ++ ds).length = ps.length := by
    have e := r2.length
    rw [F.len _ _ _ _ hq] at e
    exact e.symm
  refine wpAny_call (make_map (f := f) I.kIn M.makes M.init (beq_iff_eq.mp M.fn) (codeAny_mono (F.run _ X.stack _ _ ⟨Value.ref (s.heap.objs.size + 1) :: us, []⟩ (Value.ref (s.heap.objs.size + 1) :: (us ++ ds)) _ _ (WE W σ) (hr.make C us [])
    (I2.env0.make C us []) (hb _ (Value.ref (s.heap.objs.size + 1) :: us) I2.kIn hl) r2 hq) fun r s' hq' => ?_))
  cases r with
  | error e => exact L2N.passAt tk σ pins _ _ e s' I2 hq'
  | ok fl =>
    cases fl with
    | ret u =>
      obtain ⟨v, H', I3, rv, ev, q3⟩ := I2.after hq'
      subst ev
      exact ⟨rv, ⟨V.ref (s.heap.objs.size + 1), H', I3, rfl, q3⟩⟩
    | next => exact False.elim hq'
    | brk => exact False.elim hq'
    | cont => exact False.elim hq'
theorem pe_kU (mk : Mk X.K C f) (h : Ok X.prog X.w X.K X.mg X.base k f ps dvs sp) (hr : Room j X.A) (hj : k + 1 ≤ j) (hm : X.mg x = some (.ref C)) (tk : L2N.Takes X W) (ha : PA X (e :: es) t)
    (hg : Gl X x := by rfl) (hdb : (x == ("__debug__" : Str)) = false := by decide) (he : starEach (e :: es) X.env = (false, eval e X.env) :: starEach es X.env := by rfl) (hpl : (backTo pos (starEach es X.env)).any (·.1) = false := by rfl) :
    PE X (.Call (.Name x p) (e :: es) [] pos) (tMakeU C sp dvs (WE W) t) := by
  obtain ⟨fd, ds, F, kp, v, b⟩ := h
  refine ⟨fun pins s σ H Q I h => ?_⟩
  refine wpAny_Call_Name_kw (ld_glob I hg hm ?_ hdb)
  refine PySem.W.callWith_K (h₀ := X.base) I.ok.mod.kin mk.kp (thn (ha.run pos pins s σ H _ I h) fun us s1 ⟨vs, H1, I1, r, q⟩ => ⟨I1.kIn, ?_⟩) he hpl
  exact run_makeU mk F (hr.mono hj) b v tk I1 r q
end
section
variable {K : PySem.W.Frag} {W : WX} {ta te : TE} {pa pe : TJ} {xa : TA} {qa : AJ} {w : WJ} {dvs : List V} {dj : List J}
theorem se_callU (hd : ∀ G, Jps K G dvs dj) (hx : Sa K W xa qa) : Se K W (tCallSD (spJ K w) dvs (WE W) xa) (jCall w dj qa) := by
  intro F ρ s σ H Q R QV a hQ hR h
  refine hx F ρ s σ H _ R _ a (fun ds s1 h1 vs H1 l1 st1 j1 => ?_) hR h
  exact ⟨F, s1, ds ++ dj, Q, R, j1.append (hd _), st1, fun d s' q => (hQ d s' q).up l1, fun c fs s' hr => (hR c fs s' hr).up l1, h1⟩
theorem se_methU {c m : Str} (hd : ∀ G, Jps K G dvs dj) (ha : Se K W ta pa) (hx : Sa K W xa qa) : Se K W (tMethU (He.ga K c) m (spJ K w) dvs (WE W) ta xa) (jMeth c m w dj pa qa) := by
  intro F ρ s σ H Q R QV a hQ hR h
  refine ha F ρ s σ H _ R _ a (fun x s1 h1 v1 H1 l1 st1 j1 => ?_) hR h
  obtain ⟨⟨fs, e, el⟩, h1⟩ := h1
  obtain ⟨b, dx, xs, rfl, eb, r⟩ := jp_obj st1 j1 e
  refine ⟨b, dx, xs, rfl, eb, r.look_none el, ?_⟩
  refine hx F ρ s1 σ H1 _ R _ (a.to l1 st1) (fun ds s2 h2 vs H2 l2 st2 j2 => ?_) (fun c fs s' hr => (hR c fs s' hr).up l1) h1
  exact ⟨F, s2, x :: (ds ++ dj), Q, R, .cons (j1.up l2) (j2.append (hd _)), st2, fun d s' q => (hQ d s' q).up (l1.trans l2), fun c fs s' hr => (hR c fs s' hr).up (l1.trans l2), h2⟩
theorem se_makeU {c : Str} (hd : ∀ G, Jps K G dvs dj) (hx : Sa K W xa qa) : Se K W (tMakeU (He.ga K c) (spJ K w) dvs (WE W) xa) (jMake c w dj qa) := by
  intro F ρ s σ H Q R QV a hQ hR h
  refine hx F ρ s σ H _ R _ a (fun ds s1 h1 vs H1 l1 st1 j1 => ?_) hR h
  intro x dx hxn hdn hne
  have n1 : (upd H1 dx (.own x)) x = none := by rw [upd_ne (Ne.symm hne)]; exact hxn
  have st2 := st1.new (h := .own x) hdn
  have st3 := st2.newO (p := x) (h := .ins (He.ga K c) dx []) (o := .ins c []) n1 (show Oh K _ _ _ from ⟨rfl, .nil⟩)
  have l2 : Le (mask F s1 H1) (mask F (put s1 x (.ins c [])) (upd (upd H1 dx (.own x)) x (.ins (He.ga K c) dx []))) := (Le.new hdn).trans (.newO n1)
  refine ⟨F, _, .own x :: (ds ++ dj), _, _, .cons (.own x) ((j1.up l2).append (hd _)), st3, ?_, ?_, h1 x (st1.fresh hxn).1⟩
  · rintro d s' ⟨rfl, fs, e, q⟩ v H' l3 t3 j3
    cases j3
    refine ⟨rfl, ?_⟩
    obtain ⟨dx', xs, h3, r⟩ := t3.ins e
    refine hQ _ _ q _ H' (((l1.trans l2).trans l3).trans (.sub restr_sub)) (t3.sub restr_sub) (.obj (dx := dx') ?_ (frz_jpf t3 r))
    rw [mask_none (t3.sk _ _ e).1]
    · exact h3
    · unfold restr
      rw [(st1.fresh hxn).1]
      simp [keeps]
  · intro c' fs s' q
    exact ((hR c' fs _ q).sub restr_sub).up (l1.trans l2)
theorem se_makeUO {c : Str} (hd : ∀ G, Jps K G dvs dj) (hx : Sa K W xa qa) : Se K W (tMakeU (He.ga K c) (spJ K w) dvs (WE W) xa) (jMakeO c w dj qa) := by
  intro F ρ s σ H Q R QV a hQ hR h
  refine hx F ρ s σ H _ R _ a (fun ds s1 h1 vs H1 l1 st1 j1 => ?_) hR h
  intro x dx hxn hdn hne
  have n1 : (upd H1 dx (.own x)) x = none := by rw [upd_ne (Ne.symm hne)]; exact hxn
  have st2 := st1.new (h := .own x) hdn
  have st3 := st2.newO (p := x) (h := .ins (He.ga K c) dx []) (o := .ins c []) n1 (show Oh K _ _ _ from ⟨rfl, .nil⟩)
  have l2 : Le (mask F s1 H1) (mask F (put s1 x (.ins c [])) (upd (upd H1 dx (.own x)) x (.ins (He.ga K c) dx []))) := (Le.new hdn).trans (.newO n1)
  refine ⟨F, _, .own x :: (ds ++ dj), _, _, .cons (.own x) ((j1.up l2).append (hd _)), st3, ?_, ?_, h1 x (st1.fresh hxn).1⟩
  · rintro d s' ⟨rfl, q⟩ v H' l3 t3 j3
    cases j3
    exact ⟨rfl, hQ _ _ q _ H' ((l1.trans l2).trans l3) t3 (.own x)⟩
  · intro c' fs s' q
    exact (hR c' fs _ q).up (l1.trans l2)
end
/-! ## small things for the printed proofs -/
theorem an {α : Type} {P : α → Prop} : ∀ x ∈ ([] : List α), P x := fun _ h => nomatch h
theorem ac {α : Type} {P : α → Prop} {a : α} {l : List α} (h : P a) (r : ∀ x ∈ l, P x) : ∀ x ∈ a :: l, P x := fun x m => by
  rcases List.mem_cons.mp m with e | m
  · rw [e]; exact h
  · exact r x m
theorem tabB {P : Str × Bool → Prop} {b : Str × Bool → Bool} {tab : List (Str × Bool)} (h : tab.all b = true) (f : ∀ p, b p = true → P p) : ∀ p ∈ tab, P p := fun p m => f p (List.all_eq_true.mp h p m)
/-- a constant of a class -/
def conB (K : PySem.W.Frag) (C : Addr) (f : Str) (v : V) : Bool := match PySem.W.findIn K (.ref C) f with
  | some (some u) => He.relB v u && (He.eqO (PySem.W.specialIn K u "__get__") (some none) && !(PySem.W.copiedNames.contains f))
  | _ => false
theorem conB_ok {K : PySem.W.Frag} {C : Addr} {f : Str} {v : V} (h : conB K C f v = true) : ∃ u, Con K C f v u := by
  unfold conB at h
  split at h
  · rename_i u e
    rw [Bool.and_eq_true, Bool.and_eq_true] at h
    obtain ⟨h1, h2, h3⟩ := h
    exact ⟨u, e, He.relB_ok h1, He.eqO_ok h2, by cases z : PySem.W.copiedNames.contains f with | false => rfl | true => rw [z] at h3; cases h3⟩
  · cases h
theorem con_of {K : PySem.W.Frag} {c f : Str} {v : V} {d : J} (cl : Cls K (He.ga K c)) (h : ∃ u, Con K (He.ga K c) f v u) (j : ∀ G, Jp K G v d) : Cls K (He.ga K c) ∧ ∃ v u, Con K (He.ga K c) f v u ∧ ∀ G, Jp K G v d :=
  let ⟨u, h⟩ := h; ⟨cl, v, u, h, j⟩
end M

namespace M
open PySem PySem.Spec PyProof.Rows L2
section
variable {K : PySem.W.Frag} {W : WX} {ta te : TE} {pa pe : TJ}
/-! ## further rules -/
def jAug (i : Nat) (p : TJ) (f : Int → Int → Int) : SJ := fun D ρ s => ∃ x : Int, ρ[i]? = some (some (.int x)) ∧ p ρ s (fun y s1 => ∃ j, y = .int j ∧ D.nx (ρ.set i (some (.int (f x j)))) s1) (D.xr ρ)
theorem ss_aug {i : Nat} {f : Int → Int → Int} (ha : Se K W ta pa) : Ss K W (tAug i ta (ipI f)) (jAug i pa f) := by
  intro F D DV ρ s σ H a e h
  obtain ⟨x, ex, h⟩ := h
  obtain ⟨v, ev, jv⟩ := a.rs.get ex
  cases jv
  refine ⟨.int x, ev, ha F ρ s σ H _ _ _ a (fun y s1 h1 v1 H1 l1 st1 j1 => ?_) (er_x (G := H) a e) h⟩
  obtain ⟨j, rfl, q⟩ := h1
  cases j1
  exact ⟨x, j, rfl, rfl, e.nx _ s1 _ H1 q l1 ⟨(a.rs.up l1).set i (.int _), st1⟩⟩
end
theorem hu64S {X : Cx} {a : Addr} {pn : List (Addr × Obj)} {j : Nat} (hr : Room j X.A) : (X.suite a pn).A.units + 64 < cLine := by
  have := hr.un
  show X.A.units + 64 < cLine
  omega
theorem hu65S {X : Cx} {a : Addr} {pn : List (Addr × Obj)} {j : Nat} (hr : Room j X.A) : (X.suite a pn).A.units + 65 < cLine := by
  have := hr.un
  show X.A.units + 65 < cLine
  omega
theorem hu1S {X : Cx} {a : Addr} {pn : List (Addr × Obj)} {j : Nat} (hr : Room j X.A) : (X.suite a pn).A.units + 1 < cLine := by
  have := hr.un
  show X.A.units + 1 < cLine
  omega
theorem huM_of {j : Nat} {A : Around} {h : Option Value} (hr : Room j A) : (A.mark h).units + 1 < cLine := by
  have := hr.un
  show A.units + 1 < cLine
  omega
theorem ex_of {X : Cx} {b : List Stmt} {K : PySem.W.Frag} {W : WX} {t : TS} {q : SJ} (h1 : PSs X b t) (h2 : Ss K W t q) : ∃ t, PSs X b t ∧ Ss K W t q := ⟨t, h1, h2⟩
theorem law_endJ {K : PySem.W.Frag} {w : WJ} {H : Hp} {a : Addr} {ns : List Int} {Q : VK} (hw : ∀ (s : Sto), w [.scr ns] s (fun d _ => d = .bl true) No) (h : SqL K H a (ns.map V.int)) (hQ : ∀ H', Q (.bl true) H') {E : XK} : spJ K w [.ref a] H Q E :=
  ⟨fun _ => none, fun _ => none, [.scr ns], _, No, .cons (.scr (Le.sql (G := H) (fun b o e => ⟨o, by rw [mask_none rfl rfl]; exact e, rfl⟩) h)) .nil, ⟨fun _ _ e => (nomatch e), fun _ _ e => (nomatch e)⟩,
    fun d s' e v H' _ _ j => by
      have e : d = .bl true := e
      subst e
      cases j
      exact hQ H', fun _ _ _ e => e.elim, hw _⟩
/-! ## small data -/
def J.tname : J → String
  | .non => "NoneType"
  | .bl _ => "bool"
  | .int _ => "int"
  | .str _ => "str"
  | .lst _ => "list"
  | .tup _ => "tuple"
  | .dct _ => "dict"
  | _ => "object"
theorem res_ok {s : Sto} {d : J} {n : Nat} (h : J.okd n d = true) : res s d = d := by
  cases d with
  | own a => unfold J.okd at h; cases h
  | _ => rfl
theorem ty_ok {s : Sto} {d : J} {n : Nat} (h : J.okd n d = true) : tyJ s d = some d.tname := by
  unfold tyJ
  rw [res_ok h]
  cases d with
  | non => rfl
  | bl b => rfl
  | int i => rfl
  | str z => rfl
  | lst l => rfl
  | tup l => rfl
  | _ => unfold J.okd at h; cases h
theorem str_ok {z : Str} {n : Nat} (h : J.okd n (.str z) = true) : z.length ≤ 100000 := by
  unfold J.okd at h
  rw [Bool.and_eq_true] at h
  exact of_decide_eq_true h.1
theorem okd_str {z : Str} {n : Nat} (h1 : z.length ≤ 100000) (h2 : ∀ c ∈ z.cps.toList, c < 0x110000) : J.okd n (.str z) = true := by
  unfold J.okd
  rw [Bool.and_eq_true]
  refine ⟨decide_eq_true h1, ?_⟩
  rw [Array.all_eq_true']
  intro x hx
  exact decide_eq_true (h2 x (by simpa using hx))
theorem okd_tup {n : Nat} {l : List J} (h : ∀ x ∈ l, J.okd n x = true) : J.okd (n + 1) (.tup l) = true := by
  unfold J.okd
  rw [oks_all, List.all_eq_true]
  exact h
theorem okd_lst {n : Nat} {l : List J} (h : ∀ x ∈ l, J.okd n x = true) : J.okd (n + 1) (.lst l) = true := by
  unfold J.okd
  rw [oks_all, List.all_eq_true]
  exact h
theorem tup_okd {n : Nat} {l : List J} (h : J.okd (n + 1) (.tup l) = true) : ∀ x ∈ l, J.okd n x = true := by
  unfold J.okd at h
  rw [oks_all, List.all_eq_true] at h
  exact h
theorem lst_okd {n : Nat} {l : List J} (h : J.okd (n + 1) (.lst l) = true) : ∀ x ∈ l, J.okd n x = true := by
  unfold J.okd at h
  rw [oks_all, List.all_eq_true] at h
  exact h
mutual
theorem okd_mono : ∀ {n m : Nat} {d : J}, n ≤ m → J.okd n d = true → J.okd m d = true
  | _, _, .non, _, _ => by unfold J.okd; rfl
  | _, _, .bl _, _, _ => by unfold J.okd; rfl
  | _, _, .int _, _, _ => by unfold J.okd; rfl
  | _, _, .str _, _, h => by unfold J.okd at h ⊢; exact h
  | n + 1, m + 1, .lst l, hl, h => by unfold J.okd at h ⊢; exact oks_mono (by omega) h
  | n + 1, m + 1, .tup l, hl, h => by unfold J.okd at h ⊢; exact oks_mono (by omega) h
  | n + 1, 0, _, hl, _ => by omega
  | 0, _, .lst _, _, h => by unfold J.okd at h; cases h
  | 0, _, .tup _, _, h => by unfold J.okd at h; cases h
  | _, _, .dct _, _, h => by unfold J.okd at h; cases h
  | _, _, .obj _ _, _, h => by unfold J.okd at h; cases h
  | _, _, .scr _, _, h => by unfold J.okd at h; cases h
  | _, _, .own _, _, h => by unfold J.okd at h; cases h
  | _, _, .ty _, _, h => by unfold J.okd at h; cases h
  | _, _, .cls _, _, h => by unfold J.okd at h; cases h
  | _, _, .exc _ _ _, _, h => by unfold J.okd at h; cases h
theorem oks_mono : ∀ {n m : Nat} {l : List J}, n ≤ m → J.oks n l = true → J.oks m l = true
  | _, _, [], _, _ => by unfold J.oks; rfl
  | _, _, d :: r, hl, h => by
    unfold J.oks at h ⊢
    rw [Bool.and_eq_true] at h ⊢
    exact ⟨okd_mono hl h.1, oks_mono hl h.2⟩
end
theorem put_none {s : Sto} {a b : Addr} {o : O} (h : put s a o b = none) : b ≠ a ∧ s b = none := by
  by_cases e : b = a
  · subst e
    rw [put_same] at h
    cases h
  · rw [put_ne e] at h
    exact ⟨e, h⟩
theorem put_comm {s : Sto} {a b : Addr} {o u : O} (h : a ≠ b) : put (put s a o) b u = put (put s b u) a o := by
  funext c
  unfold put
  by_cases e : c = b
  · subst e
    rw [if_pos rfl, if_neg (Ne.symm h), if_pos rfl]
  · rw [if_neg e]
    by_cases e2 : c = a
    · rw [if_pos e2, if_pos e2]
    · rw [if_neg e2, if_neg e2, if_neg e]
theorem put_sh {s : Sto} {a b : Addr} {o u v : O} (h : a ≠ b) : put (put (put s a o) b u) a v = put (put s b u) a v := by
  rw [put_comm h, put_put]
theorem put_in {s : Sto} {a b : Addr} {o u v : O} (h : a ≠ b) : put (put (put s a o) b u) a v = put (put s a v) b u := by
  rw [put_comm h, put_put, put_comm (Ne.symm h)]
theorem ty_str {s : Sto} {d : J} (h : tyJ s d = some "str") : ∃ z, d = .str z := by
  unfold tyJ at h
  split at h
  · simp at h
  · simp at h
  · simp at h
  · rename_i z e
    exact ⟨z, res_str e⟩
  · simp at h
  · simp at h
  · simp at h
  · cases h
theorem isT_str {s : Sto} {d : J} {t : String} (h : tyJ s d = some t) (n : ∀ z, d ≠ .str z) : isT t "str" = false := by
  have hm := tyJ_mem h
  have : t ≠ "str" := by
    rintro rfl
    obtain ⟨z, e⟩ := ty_str h
    exact n z e
  unfold tys7 at hm
  simp only [List.mem_cons, List.not_mem_nil, or_false] at hm
  rcases hm with rfl | rfl | rfl | rfl | rfl | rfl | rfl <;> first | rfl | exact absurd rfl this
/-! ## walking -/
section
variable {ρ : Rho} {s : Sto} {Q : QJ} {R : XJ} {d x y : J} {pa pb pc pe : TJ} {pt pu : BJ} {qa : AJ} {i j : Nat} {r r' : J → J → Sto → QJ → Prop}
theorem y_var (q : Q d s) (e : ρ[i]? = some (some d) := by with_unfolding_all rfl) : jVar i ρ s Q R := ⟨d, e, q⟩
theorem y_c (q : Q d s) : jC d ρ s Q R := q
theorem y_op (h : pa ρ s (fun x s1 => pb ρ s1 (fun y s2 => r x y s2 Q) R) R) : jOp r pa pb ρ s Q R := h
theorem y_un {r : J → Sto → QJ → Prop} (h : pa ρ s (fun x s1 => r x s1 Q) R) : jUn r pa ρ s Q R := h
theorem y_if (h : pt ρ s (fun c s1 => if c = true then pa ρ s1 Q R else pb ρ s1 Q R) R) : jIf pt pa pb ρ s Q R := h
theorem y_test {Q : Bool → Sto → Prop} (h : pa ρ s (fun x s1 => ∃ b, x = .bl b ∧ Q b s1) R) : jTest pa ρ s Q R := h
theorem y_bl {b : Bool} {P : Bool → Prop} (h : P b) : ∃ c, J.bl b = .bl c ∧ P c := ⟨b, rfl, h⟩
theorem y_not {Q : Bool → Sto → Prop} (h : pt ρ s (fun b s1 => Q (!b) s1) R) : jNot pt ρ s Q R := h
theorem y_and {Q : Bool → Sto → Prop} (h : pt ρ s (fun c s1 => if c = true then pu ρ s1 Q R else Q false s1) R) : jAnd pt pu ρ s Q R := h
theorem y_or {Q : Bool → Sto → Prop} (h : pt ρ s (fun c s1 => if c = true then Q true s1 else pu ρ s1 Q R) R) : jOr pt pu ρ s Q R := h
theorem y_yes {Q : Bool → Sto → Prop} (h : Q true s) : jYes ρ s Q R := h
theorem y_andV (h : pa ρ s (fun x s1 => ∃ c, x = .bl c ∧ if c = true then pb ρ s1 Q R else Q (.bl false) s1) R) : jAndV pa pb ρ s Q R := h
theorem y_orV (h : pa ρ s (fun x s1 => ∃ c, x = .bl c ∧ if c = true then Q (.bl true) s1 else pb ρ s1 Q R) R) : jOrV pa pb ρ s Q R := h
theorem y_notV (h : pa ρ s (fun x s1 => ∃ c, x = .bl c ∧ Q (.bl (!c)) s1) R) : jNotV pa ρ s Q R := h
theorem y_chain (h : pa ρ s (fun x s1 => pb ρ s1 (fun y s2 => r x y s2 fun z s3 => ∃ k, z = .bl k ∧ if k = true then pc ρ s3 (fun w s4 => r' y w s4 Q) R else Q (.bl false) s3) R) R) : jChain r r' pa pb pc ρ s Q R := h
theorem y_isN (h : pa ρ s (fun x s1 => Q (.bl x.isN) s1) R) : jIsN pa ρ s Q R := h
theorem y_notN (h : pa ρ s (fun x s1 => Q (.bl (!x.isN)) s1) R) : jNotN pa ρ s Q R := h
theorem y_nil {Q : List J → Sto → Prop} (h : Q [] s) : jNil ρ s Q R := h
theorem y_cons {Q : List J → Sto → Prop} (h : pa ρ s (fun x s1 => qa ρ s1 (fun xs s2 => Q (x :: xs) s2) R) R) : jCons pa qa ρ s Q R := h
def NewJ (n : Nat) (P : Prop) : Prop := n ≤ 100000 ∧ P
theorem y_new {n : Nat} {P : Prop} (h : P) (hz : n ≤ 100000 := by first | decide | (simp only [List.length_cons, List.length_nil]; decide)) : n ≤ 100000 ∧ P := ⟨hz, h⟩
theorem y_tup (h : qa ρ s (fun xs s1 => NewJ xs.length (Q (.tup xs) s1)) R) : jTup qa ρ s Q R := h
theorem y_lst (h : qa ρ s (fun xs s1 => NewJ xs.length (Q (.lst xs) s1)) R) : jLst qa ρ s Q R := h
theorem y_newJ {n : Nat} {P : Prop} (h : P) (hz : n ≤ 100000 := by first | decide | (simp only [List.length_cons, List.length_nil]; decide)) : NewJ n P := ⟨hz, h⟩
def Own (s : Sto) (o : O) (Q : J → Sto → Prop) : Prop := ∀ p, s p = none → Q (.own p) (put s p o)
theorem y_lstO (h : qa ρ s (fun xs s1 => NewJ xs.length (Own s1 (.lst xs) Q)) R) : jLstO qa ρ s Q R := h
theorem y_dct0 (h : Q (.dct []) s) : jDct0 ρ s Q R := h
theorem y_dct0O (h : Own s (.dct []) Q) : jDct0O ρ s Q R := h
theorem y_own {o : O} (h : ∀ p, s p = none → Q (.own p) (put s p o)) : Own s o Q := h
theorem y_call0 {w : WJ} (h : qa ρ s (fun ds s1 => w ds s1 Q R) R) : jCall w [] qa ρ s Q R := by
  unfold jCall
  have e : (fun (ds : List J) (s1 : Sto) => w (ds ++ []) s1 Q R) = fun ds s1 => w ds s1 Q R := by funext ds s1; rw [List.append_nil]
  rw [e]
  exact h
theorem y_call {w : WJ} {dj : List J} (h : qa ρ s (fun ds s1 => w (ds ++ dj) s1 Q R) R) : jCall w dj qa ρ s Q R := h
theorem y_cb {r : List J → Sto → QJ → Prop} (h : qa ρ s (fun xs s1 => r xs s1 Q) R) : jCB r qa ρ s Q R := h
theorem y_bm {T : String} {r : J → List J → Sto → QJ → Prop} (h : pa ρ s (fun x s1 => tyM s1 T x ∧ qa ρ s1 (fun xs s2 => r x xs s2 Q) R) R) : jBM T r pa qa ρ s Q R := h
theorem y_bm0 {T : String} {r : J → List J → Sto → QJ → Prop} (h : pa ρ s (fun x s1 => tyM s1 T x ∧ r x [] s1 Q) R) : jBM0 T r pa ρ s Q R := h
theorem y_tyS {z : Str} {P : Prop} (h : P) : tyM s "str" (.str z) ∧ P := ⟨.inl ⟨rfl, z, rfl⟩, h⟩
theorem y_tyL {a : Addr} {l : List J} {P : Prop} (e : s a = some (.lst l)) (h : P) : tyM s "list" (.own a) ∧ P := ⟨.inr ⟨rfl, l, by unfold lstOf; dsimp only; rw [e]⟩, h⟩
theorem y_sl {r : J → Option Int → Option Int → Sto → QJ → Prop} {lo hi : PJo} (h : pa ρ s (fun x s1 => lo ρ s1 (fun l s2 => hi ρ s2 (fun u s3 => r x l u s3 Q) R) R) R) : jSl r pa lo hi ρ s Q R := h
theorem y_noPart {Q : Option Int → Sto → Prop} (h : Q none s) : jNoPart ρ s Q R := h
theorem y_part {Q : Option Int → Sto → Prop} (h : pa ρ s (fun d s1 => ∃ i, d = .int i ∧ Q (some i) s1) R) : jPart pa ρ s Q R := h
theorem y_int {i : Int} {P : Int → Prop} (h : P i) : ∃ k, J.int i = .int k ∧ P k := ⟨i, rfl, h⟩
def ObjX (s : Sto) (x : J) (c m : Str) (P : Prop) : Prop := (∃ fs, objOf s x = some (c, fs) ∧ fs.lookup m = none) ∧ P
theorem y_meth0 {c m : Str} {w : WJ} (h : pa ρ s (fun x s1 => ObjX s1 x c m (qa ρ s1 (fun ds s2 => w (x :: ds) s2 Q R) R)) R) : jMeth c m w [] pa qa ρ s Q R := by
  unfold jMeth
  have e : ∀ x : J, (fun (ds : List J) (s1 : Sto) => w (x :: (ds ++ [])) s1 Q R) = fun ds s1 => w (x :: ds) s1 Q R := fun x => by funext ds s1; rw [List.append_nil]
  simp only [e]
  exact h
theorem y_objX {c m : Str} {fs : List (Str × J)} {P : Prop} (h : P) (e : fs.lookup m = none := by with_unfolding_all rfl) : ObjX s (.obj c fs) c m P := ⟨⟨fs, rfl, e⟩, h⟩
theorem y_objO {a : Addr} {c m : Str} {fs : List (Str × J)} {P : Prop} (e1 : s a = some (.ins c fs)) (h : P) (e : fs.lookup m = none := by with_unfolding_all rfl) : ObjX s (.own a) c m P := ⟨⟨fs, by unfold objOf; dsimp only; rw [e1], e⟩, h⟩
def FldX (s : Sto) (L : List Str) (x : J) (f : Str) (P : J → Prop) : Prop := ∃ c fs d, objOf s x = some (c, fs) ∧ c ∈ L ∧ fs.lookup f = some d ∧ P d
theorem y_fld {L : List Str} {f : Str} (h : pa ρ s (fun x s1 => FldX s1 L x f fun d => Q d s1) R) : jFld L pa f ρ s Q R := h
theorem y_fldX {L : List Str} {c f : Str} {fs : List (Str × J)} {P : J → Prop} (h : P d) (e : fs.lookup f = some d := by with_unfolding_all rfl) (hc : c ∈ L := by first | exact List.mem_cons_self | decide) : FldX s L (.obj c fs) f P := ⟨c, fs, d, rfl, hc, e, h⟩
theorem y_fldO {a : Addr} {L : List Str} {c f : Str} {fs : List (Str × J)} {P : J → Prop} (e1 : s a = some (.ins c fs)) (h : P d) (e : fs.lookup f = some d := by with_unfolding_all rfl) (hc : c ∈ L := by first | exact List.mem_cons_self | decide) : FldX s L (.own a) f P :=
  ⟨c, fs, d, by unfold objOf; dsimp only; rw [e1], hc, e, h⟩
def ConX (s : Sto) (L : List Str) (x : J) (f : Str) (P : Prop) : Prop := (∃ c fs, objOf s x = some (c, fs) ∧ c ∈ L ∧ fs.lookup f = none) ∧ P
theorem y_con {L : List Str} {f : Str} (h : pa ρ s (fun x s1 => ConX s1 L x f (Q d s1)) R) : jCon L pa f d ρ s Q R := h
theorem y_conX {L : List Str} {c f : Str} {fs : List (Str × J)} {P : Prop} (h : P) (e : fs.lookup f = none := by with_unfolding_all rfl) (hc : c ∈ L := by first | exact List.mem_cons_self | decide) : ConX s L (.obj c fs) f P := ⟨⟨c, fs, rfl, hc, e⟩, h⟩
theorem y_conO {a : Addr} {L : List Str} {c f : Str} {fs : List (Str × J)} {P : Prop} (e1 : s a = some (.ins c fs)) (h : P) (e : fs.lookup f = none := by with_unfolding_all rfl) (hc : c ∈ L := by first | exact List.mem_cons_self | decide) : ConX s L (.own a) f P :=
  ⟨⟨c, fs, by unfold objOf; dsimp only; rw [e1], hc, e⟩, h⟩
/-! ### operators -/
theorem y_add_i {i j : Int} (q : Q (.int (i + j)) s) : addJ (.int i) (.int j) s Q := q
theorem y_add_s {i j : Str} (h : i.length + j.length ≤ 100000) (q : Q (.str (i ++ j)) s) : addJ (.str i) (.str j) s Q := ⟨h, q⟩
theorem y_add_t {i j : List J} (h : i.length + j.length ≤ 100000) (q : Q (.tup (i ++ j)) s) : addJ (.tup i) (.tup j) s Q := ⟨h, q⟩
theorem y_add_l {i j : List J} (h : i.length + j.length ≤ 100000) (q : Q (.lst (i ++ j)) s) : addJ (.lst i) (.lst j) s Q := ⟨i, j, rfl, rfl, h, q⟩
theorem y_sub {i j : Int} (q : Q (.int (i - j)) s) : subJ (.int i) (.int j) s Q := ⟨i, j, rfl, rfl, q⟩
theorem y_mul {i j : Int} (q : Q (.int (i * j)) s) (h1 : i.natAbs < Big) (h2 : j.natAbs < Big) : mulJ (.int i) (.int j) s Q := ⟨⟨h1, h2⟩, q⟩
theorem y_div {i j : Int} (q : Q (.int (i / j)) s) (h1 : 0 < j) (h2 : j.natAbs < Big) : divJ (.int i) (.int j) s Q := ⟨i, j, rfl, rfl, ⟨h1, h2⟩, q⟩
theorem y_mod {i j : Int} (q : Q (.int (i % j)) s) (h1 : 0 < j) : modJ (.int i) (.int j) s Q := ⟨i, j, rfl, rfl, h1, q⟩
theorem y_pow {i : Int} {k : Nat} (h : i.natAbs < 2 ^ 64) (q : Q (.int (i ^ k)) s) (hk : k ≤ 1000000 := by decide) : powJ (.int i) (.int (OfNat.ofNat k)) s Q := by
  refine ⟨i, (k : Int), rfl, rfl, ⟨by omega, by omega, h⟩, ?_⟩
  rw [Int.toNat_natCast]
  exact q
theorem y_cmp {f : Int → Int → Bool} {i j : Int} (q : Q (.bl (f i j)) s) : cmpJ f (.int i) (.int j) s Q := ⟨i, j, rfl, rfl, q⟩
theorem y_neg {i : Int} (q : Q (.int (-i)) s) : negJ (.int i) s Q := ⟨i, rfl, q⟩
theorem y_eq_i {i j : Int} (q : Q (.bl (decide (i = j))) s) : eqRJ (.int i) (.int j) s Q := q
theorem y_eq_s {i j : Str} (q : Q (.bl (decide (i = j))) s) : eqRJ (.str i) (.str j) s Q := q
theorem y_eq_b {i j : Bool} (q : Q (.bl (decide (i = j))) s) : eqRJ (.bl i) (.bl j) s Q := q
theorem y_ne_i {i j : Int} (q : Q (.bl (!decide (i = j))) s) : neRJ (.int i) (.int j) s Q := q
theorem y_ne_s {i j : Str} (q : Q (.bl (!decide (i = j))) s) : neRJ (.str i) (.str j) s Q := q
theorem y_ne_b {i j : Bool} (q : Q (.bl (!decide (i = j))) s) : neRJ (.bl i) (.bl j) s Q := q
theorem y_eq_t {l m : List J} (h1 : (J.tup l).ok = true) (h2 : (J.tup m).ok = true) (q : Q (.bl (eqJ (.tup l) (.tup m))) s) : eqRJ (.tup l) (.tup m) s Q := .inl ⟨⟨h1, h2⟩, q⟩
theorem y_ne_t {l m : List J} (h1 : (J.tup l).ok = true) (h2 : (J.tup m).ok = true) (q : Q (.bl (!eqJ (.tup l) (.tup m))) s) : neRJ (.tup l) (.tup m) s Q := .inl ⟨⟨h1, h2⟩, q⟩
theorem y_eq_l {l m : List J} (h1 : (J.lst l).ok = true) (h2 : (J.lst m).ok = true) (q : Q (.bl (eqJ (.lst l) (.lst m))) s) : eqRJ (.lst l) (.lst m) s Q := .inl ⟨⟨h1, h2⟩, q⟩
theorem y_ne_l {l m : List J} (h1 : (J.lst l).ok = true) (h2 : (J.lst m).ok = true) (q : Q (.bl (!eqJ (.lst l) (.lst m))) s) : neRJ (.lst l) (.lst m) s Q := .inl ⟨⟨h1, h2⟩, q⟩
theorem y_is {a b : Bool} {f : Bool → Bool} (q : Q (.bl (f (decide (a = b)))) s) : isRJ f (.bl a) (.bl b) s Q := ⟨a, b, rfl, rfl, q⟩
theorem y_in_c {n : Nat} {z : Str} (q : Q (.bl (decide (n ∈ z.cps.toList))) s) : inRJ (.str ⟨#[n]⟩) (.str z) s Q := ⟨n, rfl, q⟩
theorem y_in_t {l : List J} (h1 : (res s x).ok = true) (h2 : (J.tup l).ok = true) (q : Q (.bl (l.any fun z => eqJ z (res s x))) s) : inRJ x (.tup l) s Q := by
  cases x <;> exact ⟨⟨h1, h2⟩, q⟩
theorem y_in_l {l : List J} (h1 : (res s x).ok = true) (h2 : (J.lst l).ok = true) (q : Q (.bl (l.any fun z => eqJ z (res s x))) s) : inRJ x (.lst l) s Q := by
  cases x <;> exact ⟨⟨h1, h2⟩, q⟩
theorem y_nin_t {l : List J} (h1 : (res s x).ok = true) (h2 : (J.tup l).ok = true) (q : Q (.bl (!l.any fun z => eqJ z (res s x))) s) : notInRJ x (.tup l) s Q := by
  cases x <;> exact ⟨⟨h1, h2⟩, q⟩
theorem y_nin_l {l : List J} (h1 : (res s x).ok = true) (h2 : (J.lst l).ok = true) (q : Q (.bl (!l.any fun z => eqJ z (res s x))) s) : notInRJ x (.lst l) s Q := by
  cases x <;> exact ⟨⟨h1, h2⟩, q⟩
theorem y_in_d {l : List (Key × J)} {k : Key} (h : keyOf x = some k) (q : Q (.bl (valJ l k).isSome) s) : inRJ x (.dct l) s Q := by
  cases x <;> exact ⟨k, h, q⟩
theorem y_in_do {a : Addr} {l : List (Key × J)} {k : Key} (e : s a = some (.dct l)) (h : keyOf x = some k) (q : Q (.bl (valJ l k).isSome) s) : inRJ x (.own a) s Q := by
  have r : res s (.own a) = .dct l := by unfold res; dsimp only; rw [e]
  unfold inRJ inR
  rw [r]
  cases x <;> exact ⟨k, h, q⟩
theorem y_ix_l {l : List J} {i : Int} (e : atI l i = some d) (q : Q d s) : ixJ (.lst l) (.int i) s Q := ⟨d, e, q⟩
theorem y_ix_t {l : List J} {i : Int} (e : atI l i = some d) (q : Q d s) : ixJ (.tup l) (.int i) s Q := ⟨d, e, q⟩
theorem y_ix_c {l : List Int} {i : Int} (e : atI (l.map J.int) i = some d) (q : Q d s) : ixJ (.scr l) (.int i) s Q := ⟨d, e, q⟩
theorem y_ix_o {a : Addr} {l : List J} {i : Int} (e1 : s a = some (.lst l)) (e : atI l i = some d) (q : Q d s) : ixJ (.own a) (.int i) s Q := by
  have r : res s (.own a) = .lst l := by unfold res; dsimp only; rw [e1]
  unfold ixJ ixR
  rw [r]
  exact ⟨d, e, q⟩
theorem y_ix_s {z : Str} {i : Int} {c : Nat} (hz : z.length ≤ 100000) (e : atI z.cps.toList i = some c) (q : Q (.str ⟨#[c]⟩) s) : ixJ (.str z) (.int i) s Q := ⟨hz, c, e, q⟩
theorem y_ix_d {l : List (Key × J)} {k : Key} (h : keyOf y = some k) (e : valJ l k = some d) (q : Q d s) : ixJ (.dct l) y s Q := by
  cases y <;> exact ⟨k, d, h, e, q⟩
theorem y_sl_t {l : List J} {lo hi : Option Int} (q : Q (.tup (cutJ l lo hi)) s) : slJ (.tup l) lo hi s Q := q
theorem y_sl_l {l : List J} {lo hi : Option Int} (q : Q (.lst (cutJ l lo hi)) s) : slJ (.lst l) lo hi s Q := ⟨l, rfl, q⟩
theorem y_sl_s {z : Str} {lo hi : Option Int} (hz : z.length ≤ 100000) (q : Q (.str (cutS z lo hi)) s) : slJ (.str z) lo hi s Q := ⟨hz, q⟩
/-! ### built-ins -/
theorem y_len_s {z : Str} (hz : z.length ≤ 100000) (q : Q (.int z.length) s) : lenJ [.str z] s Q := ⟨hz, q⟩
theorem y_len_t {l : List J} (q : Q (.int l.length) s) : lenJ [.tup l] s Q := q
theorem y_len_l {l : List J} (q : Q (.int l.length) s) : lenJ [.lst l] s Q := q
theorem y_len_d {l : List (Key × J)} (q : Q (.int l.length) s) : lenJ [.dct l] s Q := q
theorem y_len_c {l : List Int} (q : Q (.int l.length) s) : lenJ [.scr l] s Q := q
theorem y_len_o {a : Addr} {l : List J} (e : s a = some (.lst l)) (q : Q (.int l.length) s) : lenJ [.own a] s Q := by
  unfold lenJ
  dsimp only
  rw [e]
  exact q
theorem y_len_od {a : Addr} {l : List (Key × J)} (e : s a = some (.dct l)) (q : Q (.int l.length) s) : lenJ [.own a] s Q := by
  unfold lenJ
  dsimp only
  rw [e]
  exact q
theorem y_abs {i : Int} (q : Q (.int (i.natAbs : Int)) s) : jAbs [.int i] s Q := ⟨i, rfl, q⟩
theorem y_int1 {i : Int} (q : Q (.int i) s) : jInt [.int i] s Q := q
theorem y_int1b {b : Bool} (q : Q (.int (if b then 1 else 0)) s) : jInt [.bl b] s Q := q
theorem y_max2 {i j : Int} (q : Q (.int (max i j)) s) : jMax2 [.int i, .int j] s Q := ⟨i, j, rfl, q⟩
theorem y_min2 {i j : Int} (q : Q (.int (min i j)) s) : jMin2 [.int i, .int j] s Q := ⟨i, j, rfl, q⟩
theorem y_str_i {i : Int} (h : i.natAbs < 10 ^ 300) (q : Q (.str (toString i)) s) : jStr [.int i] s Q := ⟨h, q⟩
theorem y_str_s {z : Str} (q : Q (.str z) s) : jStr [.str z] s Q := q
theorem y_all {bs : List Bool} (q : Q (.bl (bs.all id)) s) : jAll [.lst (bs.map J.bl)] s Q := ⟨_, bs, rfl, rfl, q⟩
theorem y_any {bs : List Bool} (q : Q (.bl (bs.any id)) s) : jAny [.lst (bs.map J.bl)] s Q := ⟨_, bs, rfl, rfl, q⟩
theorem y_sum {ns : List Int} (q : Q (.int ns.sum) s) : jSum [.lst (ns.map J.int)] s Q := ⟨_, ns, rfl, rfl, q⟩
theorem y_tuple_l {l : List J} (q : Q (.tup l) s) : jTuple [.lst l] s Q := ⟨l, rfl, q⟩
theorem y_tuple_t {l : List J} (q : Q (.tup l) s) : jTuple [.tup l] s Q := q
theorem y_list_l {l : List J} (q : Q (.lst l) s) : jList [.lst l] s Q := ⟨_, l, rfl, rfl, q⟩
theorem y_list_t {l : List J} (q : Q (.lst l) s) : jList [.tup l] s Q := ⟨_, l, rfl, rfl, q⟩
theorem y_isi {c t : String} (e : tyJ s x = some t) (q : Q (.bl (isT t c)) s) (hc : c ∈ tys6 := by decide) : isiJ [x, .ty c] s Q := ⟨t, e, hc, q⟩
theorem y_truth {Q : Bool → Sto → Prop} (h : pa ρ s (fun d s1 => truJ s1 d fun b => Q b s1) R) : jTruth pa ρ s Q R := h
theorem y_tru_b {b : Bool} {P : Bool → Prop} (h : P b) : truJ s (.bl b) P := h
theorem y_tru_i {i : Int} {P : Bool → Prop} (h : P (i != 0)) : truJ s (.int i) P := h
theorem y_tru_n {P : Bool → Prop} (h : P false) : truJ s .non P := h
theorem y_tru_s {z : Str} {P : Bool → Prop} (hz : z.length ≤ 100000) (h : P ((z.length : Int) != 0)) : truJ s (.str z) P := ⟨hz, h⟩
theorem y_tru_l {l : List J} {P : Bool → Prop} (h : P (!l.isEmpty)) : truJ s (.lst l) P := h
theorem y_tru_t {l : List J} {P : Bool → Prop} (h : P (!l.isEmpty)) : truJ s (.tup l) P := h
/-! ### methods -/
theorem y_append {a : Addr} {l : List J} (e : s a = some (.lst l)) (hl : l.length < 100000) (q : Q .non (put s a (.lst (l ++ [y])))) : appendJ (.own a) [y] s Q := ⟨a, l, y, rfl, rfl, e, hl, q⟩
theorem y_startswith {a b : Str} (q : Q (.bl (Txt.startswith a b)) s) : startswithJ (.str a) [.str b] s Q := ⟨a, b, rfl, rfl, q⟩
theorem y_upper {a : Str} (h : a.length ≤ 100000) (q : Q (.str (Txt.upper a)) s) : upperJ (.str a) [] s Q := ⟨a, rfl, rfl, h, q⟩
theorem y_split {a b : Str} (h : (b.length == 0) = false) (hz : a.length ≤ 100000) (q : Q (.lst ((Txt.split a b).map J.str)) s) : splitJ (.str a) [.str b] s Q := ⟨a, b, rfl, rfl, h, hz, q⟩
theorem y_join {a : Str} {ys : List Str} (h : (ys.map (·.length)).sum + ys.length * a.length ≤ 16777216) (q : Q (.str (Txt.join a ys)) s) : joinJ (.str a) [.lst (ys.map J.str)] s Q := ⟨a, _, ys, rfl, rfl, rfl, h, q⟩
/-! ### statements -/
variable {n bk ct : Rho → Sto → Prop} {rt : QJ} {xr : Rho → XJ} {a b u : SJ} {g : GJ} {gs : GsJ} {l : List J}
theorem y_seq (h : a (EJ.mk (b (EJ.mk n rt bk ct xr)) rt bk ct xr) ρ s) : jSeq a b (EJ.mk n rt bk ct xr) ρ s := h
theorem y_next (h : n ρ s) : jNext (EJ.mk n rt bk ct xr) ρ s := h
theorem y_break (h : bk ρ s) : jBreak (EJ.mk n rt bk ct xr) ρ s := h
theorem y_cont (h : ct ρ s) : jCont (EJ.mk n rt bk ct xr) ρ s := h
theorem y_ret (h : pa ρ s rt (xr ρ)) : jRet pa (EJ.mk n rt bk ct xr) ρ s := h
theorem y_retN (h : rt .non s) : jRetN (EJ.mk n rt bk ct xr) ρ s := h
theorem y_drop (h : pa ρ s (fun _ s1 => n ρ s1) (xr ρ)) : jDrop pa (EJ.mk n rt bk ct xr) ρ s := h
theorem y_ifS (h : pt ρ s (fun c s1 => if c = true then a (EJ.mk n rt bk ct xr) ρ s1 else b (EJ.mk n rt bk ct xr) ρ s1) (xr ρ)) : jIfS pt a b (EJ.mk n rt bk ct xr) ρ s := h
theorem y_asg (h : pa ρ s (fun x s1 => g x ρ s1 n) (xr ρ)) : jAsg pa g (EJ.mk n rt bk ct xr) ρ s := h
theorem y_par (h : qa ρ s (fun xs s1 => ∃ x y, xs = [x, y] ∧ n ((ρ.set i (some x)).set j (some y)) s1) (xr ρ)) : jPar i j qa (EJ.mk n rt bk ct xr) ρ s := h
theorem y_two {x y : J} {P : J → J → Prop} (h : P x y) : ∃ x' y', [x, y] = [x', y'] ∧ P x' y' := ⟨x, y, rfl, h⟩
theorem y_par3 {l : Nat} (h : qa ρ s (fun xs s1 => ∃ x y z, xs = [x, y, z] ∧ n (((ρ.set i (some x)).set j (some y)).set l (some z)) s1) (xr ρ)) : jPar3 i j l qa (EJ.mk n rt bk ct xr) ρ s := h
theorem y_three {x y z : J} {P : J → J → J → Prop} (h : P x y z) : ∃ x' y' z', [x, y, z] = [x', y', z'] ∧ P x' y' z' := ⟨x, y, z, rfl, h⟩
theorem y_aug {p : TJ} {f : Int → Int → Int} {x : Int} (h : p ρ s (fun y s1 => ∃ j, y = .int j ∧ n (ρ.set i (some (.int (f x j)))) s1) (xr ρ)) (e : ρ[i]? = some (some (.int x)) := by with_unfolding_all rfl) : jAug i p f (EJ.mk n rt bk ct xr) ρ s := ⟨x, e, h⟩
theorem y_name {P : Rho → Sto → Prop} (h : P (ρ.set i (some d)) s) : jgName i d ρ s P := h
theorem y_gtup {k : Nat} {P : Rho → Sto → Prop} (h : gs l ρ s P) (e : l.length = k := by with_unfolding_all rfl) : jgTup k gs (.tup l) ρ s P := ⟨l, rfl, e, h⟩
theorem y_gcons {P : Rho → Sto → Prop} (h : g d ρ s fun ρ' s' => gs l ρ' s' P) : jgCons g gs (d :: l) ρ s P := ⟨d, l, rfl, h⟩
theorem y_gnil {P : Rho → Sto → Prop} (h : P ρ s) : jgNil [] ρ s P := ⟨rfl, h⟩
def SetX (s : Sto) (o i y : J) (P : Sto → Prop) : Prop := setR s o i y P
theorem y_gsub {po pi : TJ} {P : Rho → Sto → Prop} (h : po ρ s (fun o s1 => pi ρ s1 (fun i s2 => SetX s2 o i d fun s3 => P ρ s3) No) No) : jgSub po pi d ρ s P := h
theorem y_set_l {a : Addr} {i : Int} {P : Sto → Prop} (e : s a = some (.lst l)) (h : P (put s a (.lst (l.set i.toNat y)))) (h0 : 0 ≤ i := by decide) (hk : i.toNat < l.length := by first | decide | simp) : SetX s (.own a) (.int i) y P := by
  refine ⟨a, rfl, ?_⟩
  rw [e]
  exact ⟨i.toNat, by rw [Int.toNat_of_nonneg h0], hk, h⟩
theorem y_set_d {a : Addr} {kvs : List (Key × J)} {k : Key} {P : Sto → Prop} (e : s a = some (.dct kvs)) (ek : keyOf x = some k) (hl : kvs.length < 100000) (h : P (put s a (.dct (putK' kvs k y)))) : SetX s (.own a) x y P := by
  refine ⟨a, rfl, ?_⟩
  rw [e]
  exact ⟨k, ek, hl, h⟩
theorem y_setF {L : List Str} {pv : TJ} {f : Str} (h : pv ρ s (fun y s1 => pa ρ s1 (fun x s2 => ∃ a c fs, x = .own a ∧ s2 a = some (.ins c fs) ∧ c ∈ L ∧ fs.length < 1000 ∧ n ρ (put s2 a (.ins c (putJ f y fs)))) (xr ρ)) (xr ρ)) : jSetF L pa pv f (EJ.mk n rt bk ct xr) ρ s := h
theorem y_raise1 {c f : Str} (h : qa ρ s (fun ds s1 => ∃ d, ds = [d] ∧ xr ρ c [(f, d)] s1) (xr ρ)) : jRaise1 c f qa (EJ.mk n rt bk ct xr) ρ s := h
theorem y_one {x : J} {P : J → Prop} (h : P x) : ∃ x', [x] = [x'] ∧ P x' := ⟨x, rfl, h⟩
theorem y_while (I : Rho → Sto → Prop) (μ : Rho → Sto → Nat) (h0 : I ρ s) (hs : ∀ ρ s, I ρ s → pt ρ s (fun c s1 => if c = true then b (EJ.mk (fun ρ' s' => I ρ' s' ∧ μ ρ' s' < μ ρ s) rt n (fun ρ' s' => I ρ' s' ∧ μ ρ' s' < μ ρ s) xr) ρ s1 else n ρ s1) (xr ρ)) :
    jWhile pt b (EJ.mk n rt bk ct xr) ρ s := ⟨I, μ, h0, hs⟩
theorem y_for {p : IJ} (h : p ρ s (fun I s1 => forJ I.st g b (EJ.mk n rt bk ct xr) I.items ρ s1) (xr ρ)) : jFor p g b (EJ.mk n rt bk ct xr) ρ s := h
def ItX (s : Sto) (d : J) (P : ItJ → Prop) : Prop := ∃ l, itsOf s d = some l ∧ P ⟨l, stOf s d⟩
theorem y_iU {Q : ItJ → Sto → Prop} (h : pa ρ s (fun d s1 => ItX s1 d fun I => Q I s1) R) : jIU pa ρ s Q R := h
theorem y_it_l {P : ItJ → Prop} (h : P ⟨l, fun _ => True⟩) : ItX s (.lst l) P := ⟨l, rfl, h⟩
theorem y_it_t {P : ItJ → Prop} (h : P ⟨l, fun _ => True⟩) : ItX s (.tup l) P := ⟨l, rfl, h⟩
theorem y_it_s {z : Str} {P : ItJ → Prop} (h : P ⟨sgns z, fun _ => True⟩) : ItX s (.str z) P := ⟨_, rfl, h⟩
theorem y_it_o {a : Addr} {P : ItJ → Prop} (e : s a = some (.lst l)) (h : P ⟨l, fun s' => s' a = s a⟩) : ItX s (.own a) P := ⟨l, by unfold itsOf lstOf; dsimp only; rw [e], h⟩
theorem y_rng1 {Q : ItJ → Sto → Prop} (h : qa ρ s (fun xs s1 => ∃ j : Int, xs = [.int j] ∧ (j < 2 ^ 62 ∧ -(2 ^ 62) ≤ j) ∧ Q ⟨(List.range j.toNat).map fun (i : Nat) => J.int ((i : Nat) : Int), fun _ => True⟩ s1) R) : jRng1 qa ρ s Q R := h
theorem y_rngJ {k : Int} {P : Int → Prop} (h1 : k < 2 ^ 62 ∧ -(2 ^ 62) ≤ k) (h : P k) : ∃ j : Int, [J.int k] = [.int j] ∧ (j < 2 ^ 62 ∧ -(2 ^ 62) ≤ j) ∧ P j := ⟨k, rfl, h1, h⟩
def EnX (s : Sto) (d : J) (P : ItJ → Prop) : Prop := ∃ l, lstOf s d = some l ∧ P ⟨(List.range l.length).map fun (i : Nat) => J.tup [.int (i : Int), l.getD i .non], stOf s d⟩
theorem y_enum {Q : ItJ → Sto → Prop} (h : qa ρ s (fun xs s1 => ∃ d, xs = [d] ∧ EnX s1 d fun I => Q I s1) R) : jEnum qa ρ s Q R := by
  have e : (fun (xs : List J) (s1 : Sto) => ∃ d, xs = [d] ∧ EnX s1 d fun I => Q I s1) = fun xs s1 => ∃ d l, xs = [d] ∧ lstOf s1 d = some l ∧ Q ⟨(List.range l.length).map fun (i : Nat) => J.tup [.int (i : Int), l.getD i .non], stOf s1 d⟩ s1 := by
    funext xs s1
    apply propext
    constructor
    · rintro ⟨d, e, l, h1, h2⟩
      exact ⟨d, l, e, h1, h2⟩
    · rintro ⟨d, l, e, h1, h2⟩
      exact ⟨d, e, l, h1, h2⟩
  rw [e] at h
  exact h
theorem y_en_l {P : ItJ → Prop} (h : P ⟨(List.range l.length).map fun (i : Nat) => J.tup [.int (i : Int), l.getD i .non], fun _ => True⟩) : EnX s (.lst l) P := ⟨l, rfl, h⟩
theorem y_en_o {a : Addr} {P : ItJ → Prop} (e : s a = some (.lst l)) (h : P ⟨(List.range l.length).map fun (i : Nat) => J.tup [.int (i : Int), l.getD i .non], fun s' => s' a = s a⟩) : EnX s (.own a) P := ⟨l, by unfold lstOf; dsimp only; rw [e], h⟩
/-- a loop by its invariant -/
theorem for_inv {st : Sto → Prop} (I : Nat → Rho → Sto → Prop) (h0 : I 0 ρ s) (hst : ∀ i ρ s, i ≤ l.length → I i ρ s → st s)
    (hs : ∀ (i : Nat) x ρ s (N : Rho → Sto → Prop), l[i]? = some x → I i ρ s → (∀ ρ' s', I (i + 1) ρ' s' → N ρ' s') → g x ρ s fun ρ' s' => b (EJ.mk N rt n N xr) ρ' s')
    (hd : ∀ ρ s, I l.length ρ s → n ρ s) : forJ st g b (EJ.mk n rt bk ct xr) l ρ s := by
  have key : ∀ (k : Nat) (m : List J) ρ s, l.drop k = m → k ≤ l.length → I k ρ s → forJ st g b (EJ.mk n rt bk ct xr) m ρ s := by
    intro k m
    induction m generalizing k with
    | nil =>
      intro ρ s e hk i
      have : k = l.length := by
        have := congrArg List.length e
        simp at this
        omega
      subst this
      exact ⟨hst _ _ _ hk i, hd ρ s i⟩
    | cons x m ih =>
      intro ρ s e hk i
      have hx : l[k]? = some x := by
        have := congrArg (·[0]?) e
        simpa using this
      have hlt := (List.getElem?_eq_some_iff.mp hx).1
      refine ⟨hst _ _ _ hk i, hs k x ρ s _ hx i fun ρ' s' i' => ih (k + 1) ρ' s' ?_ hlt i'⟩
      rw [← List.drop_drop, e]
      rfl
  exact key 0 l ρ s rfl (Nat.zero_le _) h0
theorem y_lc {p : IJ} {vs : List Nat} (h : p ρ s (fun I s1 => lcJ I.st g pt pe (wipeJ ρ vs) (fun acc s2 => Q (.lst acc) s2) I.items [] s1) R) : jLc p g pt pe vs ρ s Q R := h
theorem y_lcO {p : IJ} {vs : List Nat} (h : p ρ s (fun I s1 => lcJ I.st g pt pe (wipeJ ρ vs) (fun acc s2 => Own s2 (.lst acc) Q) I.items [] s1) R) : jLcO p g pt pe vs ρ s Q R := h
/-- each item gives f of it; the store stays -/
theorem lc_map {st : Sto → Prop} {Z : List J → Sto → Prop} (f : J → J) (hl : l.length ≤ 100000) (hst : st s)
    (hs : ∀ x ∈ l, ∀ Y : QJ, Y (f x) s → g x ρ s fun ρ2 s2 => pe ρ2 s2 Y No) (q : Z (l.map f) s) : lcJ st g jYes pe ρ Z l [] s := by
  have key : ∀ (m acc : List J), acc.length + m.length ≤ 100000 → (∀ x ∈ m, x ∈ l) → Z (acc ++ m.map f) s → lcJ st g jYes pe ρ Z m acc s := by
    intro m
    induction m with
    | nil =>
      intro acc hz _ q
      rw [List.map_nil, List.append_nil] at q
      exact ⟨hst, q⟩
    | cons x m ih =>
      intro acc hz hm q
      refine ⟨hst, ?_⟩
      show g x ρ s fun ρ2 s2 => if true = true then pe ρ2 s2 (fun y s4 => acc.length < 100000 ∧ lcJ st g jYes pe ρ Z m (acc ++ [y]) s4) No else lcJ st g jYes pe ρ Z m acc s2
      have e : (fun (ρ2 : Rho) (s2 : Sto) => if true = true then pe ρ2 s2 (fun y s4 => acc.length < 100000 ∧ lcJ st g jYes pe ρ Z m (acc ++ [y]) s4) No else lcJ st g jYes pe ρ Z m acc s2) =
        fun ρ2 s2 => pe ρ2 s2 (fun y s4 => acc.length < 100000 ∧ lcJ st g jYes pe ρ Z m (acc ++ [y]) s4) No := by
        funext ρ2 s2
        rw [if_pos rfl]
      rw [e]
      rw [List.length_cons] at hz
      refine hs x (hm x List.mem_cons_self) _ ⟨by omega, ih (acc ++ [f x]) ?_ (fun y hy => hm y (List.mem_cons_of_mem _ hy)) ?_⟩
      · rw [List.length_append]
        simp only [List.length_cons, List.length_nil]
        omega
      · rw [List.append_assoc]
        exact q
  exact key l [] (by simpa using hl) (fun _ h => h) q
/-- a comprehension by its invariant; N what follows a turn -/
theorem lc_inv {st : Sto → Prop} {Z : List J → Sto → Prop} (I : Nat → List J → Sto → Prop) (h0 : I 0 [] s) (hl : l.length ≤ 100000) (hst : ∀ i acc s, i ≤ l.length → I i acc s → st s)
    (hs : ∀ (i : Nat) x acc s (N : List J → Sto → Prop), l[i]? = some x → I i acc s → acc.length < 100000 → (∀ acc' s', acc'.length ≤ i + 1 → I (i + 1) acc' s' → N acc' s') → g x ρ s fun ρ2 s2 => pt ρ2 s2 (fun c s3 => if c = true then pe ρ2 s3 (fun y s4 => acc.length < 100000 ∧ N (acc ++ [y]) s4) No else N acc s3) No)
    (hd : ∀ acc s, acc.length ≤ l.length → I l.length acc s → Z acc s) : lcJ st g pt pe ρ Z l [] s := by
  have key : ∀ (m : List J) (k : Nat) (acc : List J) (s : Sto), l.drop k = m → k ≤ l.length → acc.length ≤ k → I k acc s → lcJ st g pt pe ρ Z m acc s := by
    intro m
    induction m with
    | nil =>
      intro k acc s e hk ha i
      have : k = l.length := by
        have := congrArg List.length e
        simp at this
        omega
      subst this
      exact ⟨hst _ _ _ hk i, hd acc s ha i⟩
    | cons x m ih =>
      intro k acc s e hk ha i
      have hx : l[k]? = some x := by
        have := congrArg (·[0]?) e
        simpa using this
      have hlt := (List.getElem?_eq_some_iff.mp hx).1
      refine ⟨hst _ _ _ hk i, hs k x acc s _ hx i (by omega) fun acc' s' ha' i' => ih (k + 1) acc' s' ?_ hlt ha' i'⟩
      rw [← List.drop_drop, e]
      rfl
  exact key l 0 [] s rfl (Nat.zero_le _) (Nat.le_refl _) h0
theorem y_xf {a dd : Addr} {c x f : Str} (h : pa ρ s (fun y s1 => c = x ∧ ∃ fs v, y = .exc a dd fs ∧ fs.lookup f = some v ∧ Q v s1) R) : jXf a dd c x f pa ρ s Q R := h
theorem y_xf1 {a dd : Addr} {x f : Str} {v : J} {P : J → Prop} (h : P v) : x = x ∧ ∃ fs v', J.exc a dd [(f, v)] = .exc a dd fs ∧ fs.lookup f = some v' ∧ P v' := ⟨rfl, _, v, rfl, by simp [List.lookup], h⟩
theorem y_isX {tab : List (Str × Bool)} {x c : Str} {a dd : Addr} {fs : List (Str × J)} {k : Bool} (q : Q (.bl k) s) (e : tab.lookup c = some k := by with_unfolding_all rfl) : isXJ tab x c a dd [.exc a dd fs, .cls x] s Q := ⟨fs, k, rfl, e, q⟩
/-! ### a try -/
def XrJ (tab : List (Str × Bool)) (u : Str → Addr → Addr → SJ) (i : Nat) (n : Rho → Sto → Prop) (rt : QJ) (bk ct : Rho → Sto → Prop) (xr : Rho → XJ) : Rho → XJ := fun ρ' c fs s' => ∃ k, tab.lookup c = some k ∧ if k = true then fs ≠ [] ∧ ∀ a dd, s' a = none → u c a dd (EJ.mk (fun ρ2 s2 => n (ρ2.set i none) s2) rt (fun ρ2 s2 => bk (ρ2.set i none) s2) (fun ρ2 s2 => ct (ρ2.set i none) s2) (fun _ => No)) (ρ'.set i (some (.exc a dd fs))) s' else xr ρ' c fs s'
theorem y_try {tab : List (Str × Bool)} {v : Str → Addr → Addr → SJ} (h : b (EJ.mk n rt bk ct (XrJ tab v i n rt bk ct xr)) ρ s) : jTry tab i b v (EJ.mk n rt bk ct xr) ρ s := h
theorem y_xr1 {tab : List (Str × Bool)} {v : Str → Addr → Addr → SJ} {c f : Str} {d : J} (h : ∀ a dd, s a = none → v c a dd (EJ.mk (fun ρ2 s2 => n (ρ2.set i none) s2) rt (fun ρ2 s2 => bk (ρ2.set i none) s2) (fun ρ2 s2 => ct (ρ2.set i none) s2) (fun _ => No)) (ρ.set i (some (.exc a dd [(f, d)]))) s)
    (e : tab.lookup c = some true := by with_unfolding_all rfl) : XrJ tab v i n rt bk ct xr ρ c [(f, d)] s := ⟨true, e, by rw [if_pos rfl]; exact ⟨by simp, h⟩⟩
end
/-! ### a def's beginning -/
section
variable {ds : List J} {s : Sto} {Q : QJ} {R : XJ} {q : SJ} {n m : Nat}
theorem w_of (h : q (EJ.mk (fun _ s' => Q .non (restr s .non s')) (fun d s' => Q d (restr s d s')) (fun _ _ => False) (fun _ _ => False) (fun _ c fs s' => R c fs (restr s .non s'))) (ds.map some ++ List.replicate (m - n) none) s) (hl : ds.length = n := by rfl) : wOf n m q ds s Q R :=
  ⟨hl, by rw [hl]; exact h⟩
theorem w_ofK (h : q (EJ.mk (fun _ s' => Q .non s') Q (fun _ _ => False) (fun _ _ => False) (fun _ => R)) (ds.map some ++ List.replicate (m - n) none) s) (hl : ds.length = n := by rfl) : wOfK n m q ds s Q R := ⟨hl, by rw [hl]; exact h⟩
/-- what follows C(..) -/
def MkC (c : Str) (s1 : Sto) (p : Addr) (Q : QJ) : QJ := fun v s2 => v = .non ∧ ∃ fs, s2 p = some (.ins c fs) ∧ Q (.obj c (frzFs s1 s2 fs)) (restr s1 .non s2)
def MkR (s1 : Sto) (R : XJ) : XJ := fun c' fs s2 => R c' fs (restr s1 .non s2)
def MkX (c : Str) (w : WJ) (ds : List J) (s1 : Sto) (Q : QJ) (R : XJ) : Prop := ∀ p, s1 p = none → w (.own p :: ds) (put s1 p (.ins c [])) (MkC c s1 p Q) (MkR s1 R)
theorem y_make {c : Str} {w : WJ} {ρ : Rho} {qa : AJ} (h : qa ρ s (fun ds s1 => MkX c w ds s1 Q R) R) : jMake c w [] qa ρ s Q R := by
  unfold jMake
  simp only [List.append_nil]
  exact h
end
/-! ### tests whose answer is known or open -/
section
variable {A B : Prop}
theorem ite_t (h : A) : if true = true then A else B := h
theorem ite_f (h : B) : if false = true then A else B := by rw [if_neg (by decide)]; exact h
theorem ite_d {c : Prop} [Decidable c] (h1 : c → A) (h2 : ¬ c → B) : if decide c = true then A else B := by
  by_cases h : c
  · rw [decide_eq_true h]; exact h1 h
  · rw [decide_eq_false h]; exact ite_f (h2 h)
theorem ite_nd {c : Prop} [Decidable c] (h1 : c → B) (h2 : ¬ c → A) : if (!decide c) = true then A else B := by
  by_cases h : c
  · rw [decide_eq_true h]; exact ite_f (h1 h)
  · rw [decide_eq_false h]; exact h2 h
theorem ite_b {c : Bool} (h1 : c = true → A) (h2 : c = false → B) : if c = true then A else B := by
  cases c with
  | true => exact h1 rfl
  | false => exact ite_f (h2 rfl)
theorem ite_T {c : Bool} (hc : c = true) (h : A) : if c = true then A else B := by rw [hc]; exact h
theorem ite_F {c : Bool} (hc : c = false) (h : B) : if c = true then A else B := by rw [hc]; exact ite_f h
end
end M
namespace M
open PySem PySem.Spec PyProof.Rows L2
/-! ## what kind of question is it -/
section
variable {ρ : Rho} {s : Sto} {R : XJ}
theorem is_S {q : SJ} {n bk ct : Rho → Sto → Prop} {rt : QJ} {xr : Rho → XJ} (h : q (EJ.mk n rt bk ct xr) ρ s) : q (EJ.mk n rt bk ct xr) ρ s := h
theorem is_T {p : TJ} {Q : QJ} (h : p ρ s Q R) : p ρ s Q R := h
theorem is_A {p : AJ} {Q : List J → Sto → Prop} (h : p ρ s Q R) : p ρ s Q R := h
theorem is_B {p : BJ} {Q : Bool → Sto → Prop} (h : p ρ s Q R) : p ρ s Q R := h
theorem is_P {p : PJo} {Q : Option Int → Sto → Prop} (h : p ρ s Q R) : p ρ s Q R := h
theorem is_I {p : IJ} {Q : ItJ → Sto → Prop} (h : p ρ s Q R) : p ρ s Q R := h
theorem is_G {g : GJ} {d : J} {Q : Rho → Sto → Prop} (h : g d ρ s Q) : g d ρ s Q := h
theorem is_Gs {g : GsJ} {d : List J} {Q : Rho → Sto → Prop} (h : g d ρ s Q) : g d ρ s Q := h
theorem is_O {r : J → J → Sto → QJ → Prop} {x y : J} {Q : QJ} (h : r x y s Q) : r x y s Q := h
theorem is_O1 {r : J → Sto → QJ → Prop} {x : J} {Q : QJ} (h : r x s Q) : r x s Q := h
theorem is_L {r : List J → Sto → QJ → Prop} {x : List J} {Q : QJ} (h : r x s Q) : r x s Q := h
theorem is_M {r : J → List J → Sto → QJ → Prop} {x : J} {xs : List J} {Q : QJ} (h : r x xs s Q) : r x xs s Q := h
theorem is_If {A B : Prop} {c : Bool} (h : if c = true then A else B) : if c = true then A else B := h
theorem is_Ex {α : Type} {P : α → Prop} (h : ∃ x, P x) : ∃ x, P x := h
end
end M

namespace M
open PySem PySem.Spec PyProof.Rows L2
/-! ## x[::-1] -/
def revS (z : Str) : Str := ⟨z.cps.toList.reverse.toArray⟩
def tRevU (K : PySem.W.Frag) (te : TE) : TE := fun σ H Q => te σ H fun x H1 => (∃ a xs, x = .ref a ∧ SqL K H1 a xs ∧ ∀ p, H1 p = none → Q (.ref p) (upd H1 p (.lst xs.reverse))) ∨ ∃ z, x = .str z ∧ z.length ≤ sizeLine ∧ Q (.str (revS z)) H1
theorem revS_ix (z : Str) : (⟨((Builtin.Str.strSliceIndices none none (-1) z.length).filterMap (z.cps[·]?)).toArray⟩ : Str) = revS z := by
  unfold revS Builtin.Str.strSliceIndices
  show (⟨((sliceRange ((z.cps.size : Int) - 1) (-1) (-1)).filterMap (z.cps[·]?)).toArray⟩ : Str) = _
  rw [PySem.W.krv_sliceRange, PySem.W.krv_range, List.filterMap_reverse]
  have e : (List.range z.cps.size).filterMap (z.cps[·]?) = z.cps.toList := by
    apply List.ext_getElem?
    intro i
    have h : ∀ n, n ≤ z.cps.size → (List.range n).filterMap (z.cps[·]?) = z.cps.toList.take n := by
      intro n
      induction n with
      | zero => intro _; simp
      | succ n ih =>
        intro hn
        rw [List.range_succ, List.filterMap_append, ih (by omega), List.take_succ]
        have : n < z.cps.size := by omega
        simp [this]
    rw [h _ (Nat.le_refl _), List.take_of_length_le (by simp)]
  rw [e]
theorem pe_revU {X : Cx} {e : Expr} {te : TE} {k : Nat} {p1 p2 p3 pos : Pos} (he : PE X e te) : PE X (.Subscript e (.Slice none none (some (.UnaryOp .USub (.Constant (.int 1) k p1) p2)) p3) pos) (tRevU X.K te) := by
  refine ⟨fun pins s σ H Q I h => ?_⟩
  refine Subscript_ (thn (he.run pins s σ H _ I h) fun v s1 ⟨x, H1, I1, r1, q1⟩ => ?_)
  have hst : PO X (some (.UnaryOp .USub (.Constant (.int 1) k p1) p2)) (tPart (tUn (rU fun i => .int (-i)) (tC (.int 1)))) := po_some (pe_un un_neg pe_int)
  refine wpAny_Slice (thn (po_none.run pins s1 σ H1 (fun o H2 => o = none ∧ H2 = H1) I1 ⟨rfl, rfl⟩) fun vl s2 ⟨l, H2, I2, pl, el, e2⟩ => ?_)
  subst el e2
  refine thn (po_none.run pins s2 σ H2 (fun o H3 => o = none ∧ H3 = H2) I2 ⟨rfl, rfl⟩) fun vu s3 ⟨u, H3, I3, pu, eu, e3⟩ => ?_
  subst eu e3
  refine thn (hst.run pins s3 σ H3 (fun o H4 => o = some (-1) ∧ H4 = H3) I3 ⟨1, rfl, -1, rfl, rfl, rfl⟩) fun vs s4 ⟨o, H4, I4, ps, eo, e4⟩ => ?_
  subst eo e4
  have I5 : Inv X pins σ H4 { s4 with heap := s4.heap.push { cls := .type "slice", data := .fields #[vl, vu, vs] } } := I4.kept (t' := s4.toks) fun b ob q => Heap.get?_push_of_some _ q
  rcases q1 with ⟨a, xs, ex, hx, q⟩ | ⟨z, ex, hz, q⟩
  · subst ex
    cases r1
    obtain ⟨its, r, ht, hz⟩ := I5.list hx
    have hlen := r.length
    show wpAny (model X.prog X.w) X.A (subscriptTail e (.Slice none none (some (.UnaryOp .USub (.Constant (.int 1) k p1) p2)) p3) (.ref a) (.ref s4.heap.objs.size)) (EP X pins σ Q) X.xe { s4 with heap := s4.heap.push { cls := .type "slice", data := .fields #[vl, vu, vs] } }
    refine tail_any (ops := [.ref a, .ref s4.heap.objs.size]) ht.isList.typeIs (PySem.slot_list_getitem.lookup) ?_ (by with_unfolding_all rfl)
    refine wpAny_getItem_list_slice ht.isList (Heap.IsSliceOf.new _ vl vu vs) pl pu ps (by decide) ?_ (by rw [List.size_toArray]; omega)
    rw [PySem.W.krv_pick]
    refine ⟨.ref _, _, I5.laid (t' := s4.toks) (o := .lst xs.reverse) (fun b ob q => Heap.get?_push_of_some _ q) (Nat.le_refl _) ?_, rfl, q _ (I5.hok.fresh (Nat.le_refl _))⟩
    exact ⟨by rw [List.length_reverse]; exact hz, _, 0, r.reverse, Heap.get?_push_size _ rfl⟩
  · subst ex
    obtain ⟨t, rfl⟩ := r1
    obtain ⟨ll, rfl, e1⟩ := IsPart.raw pl
    obtain ⟨lu, rfl, e2⟩ := IsPart.raw pu
    obtain ⟨ls, rfl, e3⟩ := IsPart.raw ps
    show wpAny (model X.prog X.w) X.A (subscriptTail e (.Slice none none (some (.UnaryOp .USub (.Constant (.int 1) k p1) p2)) p3) (.str z t) (.ref s4.heap.objs.size)) (EP X pins σ Q) X.xe _
    refine tail_any (ops := [.str z t, .ref s4.heap.objs.size]) (typeIs_str _ _ _) (F.slot_str_getitem.lookup) ?_ (by with_unfolding_all rfl)
    have h0 : ((ls.map (·.1)).getD 1 == 0) = false := by rw [e3]; rfl
    refine wpAny_getItem_str_slice (l := ll) (u := lu) (st := ls) ⟨_, Heap.get?_push_size _ rfl, rfl, rfl⟩ h0 ?_
    have key : sliceMade z t ll lu ls = Made.str (revS z) := by
      unfold sliceMade slicePicked
      rw [e1, e2, e3]
      rw [← revS_ix z]
      rfl
    rw [key]
    have hl : (revS z).length ≤ sizeLine := by
      have : (revS z).length = z.length := by unfold revS; show (z.cps.toList.reverse.toArray).size = z.cps.size; simp
      rw [this]; exact hz
    exact ⟨hl, .str _, _, I5.tok _, ⟨_, rfl⟩, q⟩
def jRev (p : TJ) : TJ := fun ρ s Q R => p ρ s (fun x s1 => match x with
  | .str z => z.length ≤ 100000 ∧ Q (.str (revS z)) s1
  | x => ∃ l, lstOf s1 x = some l ∧ Q (.lst l.reverse) s1) R
section
variable {K : PySem.W.Frag} {W : WX} {ta te : TE} {pa pe : TJ} {xa : TA} {qa : AJ}
theorem Jps.reverse {G : Hp} {v : List V} {d : List J} (h : Jps K G v d) : Jps K G v.reverse d.reverse := by
  induction d generalizing v with
  | nil => cases h; exact .nil
  | cons x d ih =>
    cases h with | cons j r =>
    rw [List.reverse_cons, List.reverse_cons]
    exact (ih r).append (.cons j .nil)
theorem se_rev (ha : Se K W ta pa) : Se K W (tRevU K ta) (jRev pa) := by
  intro F ρ s σ H Q R QV a hQ hR h
  refine ha F ρ s σ H _ R _ a (fun x s1 h1 v1 H1 l1 st1 j1 => ?_) hR h
  split at h1
  · cases j1
    exact .inr ⟨_, rfl, Nat.le_trans h1.1 (by decide), hQ _ s1 h1.2 _ H1 l1 st1 (.str _)⟩
  · obtain ⟨l, e, q⟩ := h1
    obtain ⟨b, xs, rfl, h2, r⟩ := jp_list st1 j1 e
    exact .inl ⟨b, xs, rfl, h2, fun p hp => hQ _ s1 q _ _ (l1.trans (.new hp)) (st1.new hp) (.lst (mask_new st1 hp) (r.reverse.up (.new hp)))⟩
/-! ## {k: v, ..} -/
inductive Spp (K : PySem.W.Frag) (W : WX) : List (TE × TE) → List (TJ × TJ) → Prop
  | nil : Spp K W [] []
  | cons {tk tv : TE} {pk pv : TJ} {l : List (TE × TE)} {r : List (TJ × TJ)} : Se K W tk pk → Se K W tv pv → Spp K W l r → Spp K W ((tk, tv) :: l) ((pk, pv) :: r)
def jPairs : List (TJ × TJ) → Rho → Sto → (List (J × J) → Sto → Prop) → XJ → Prop
  | [], _, s, Q, _ => Q [] s
  | (pk, pv) :: r, ρ, s, Q, R => pk ρ s (fun x s1 => pv ρ s1 (fun y s2 => jPairs r ρ s2 (fun ps s3 => Q ((x, y) :: ps) s3) R) R) R
inductive Jpp (K : PySem.W.Frag) (G : Hp) : List (V × V) → List (J × J) → Prop
  | nil : Jpp K G [] []
  | cons {u v : V} {x y : J} {l : List (V × V)} {r : List (J × J)} : Jp K G u x → Jp K G v y → Jpp K G l r → Jpp K G ((u, v) :: l) ((x, y) :: r)
theorem Jpp.up {G G' : Hp} (e : Le G G') : ∀ {l : List (V × V)} {r : List (J × J)}, Jpp K G l r → Jpp K G' l r
  | _, _, .nil => .nil
  | _, _, .cons a b c => .cons (a.up e) (b.up e) (Jpp.up e c)
theorem spp {trs : List (TE × TE)} {ps : List (TJ × TJ)} (h : Spp K W trs ps) : ∀ (F : Hp) (ρ : Rho) (s : Sto) (σ : L2.St) (H : Hp) (Q : List (J × J) → Sto → Prop) (R : XJ) (QV : List (V × V) → Hp → Prop), At K F ρ s σ H →
    (∀ d s', Q d s' → ∀ v H', Le (mask F s H) (mask F s' H') → Stt K F s' H' → Jpp K (mask F s' H') v d → QV v H') →
    (∀ c fs s', R c fs s' → Xk K F (mask F s H) (fun cl d H' => W cl d σ H') c fs s') → jPairs ps ρ s Q R → tPairs trs σ H QV := by
  induction h with
  | nil => intro F ρ s σ H Q R QV a hQ hR q; exact hQ _ s q _ H .refl a.st .nil
  | cons hk hv _ ih =>
    intro F ρ s σ H Q R QV a hQ hR q
    refine hk F ρ s σ H _ R _ a (fun x s1 h1 v1 H1 l1 st1 j1 => ?_) hR q
    refine hv F ρ s1 σ H1 _ R _ (a.to l1 st1) (fun y s2 h2 v2 H2 l2 st2 j2 => ?_) (fun c fs s' hr => (hR c fs s' hr).up l1) h1
    have L := l1.trans l2
    refine ih F ρ s2 σ H2 _ R _ (a.to L st2) (fun ps s3 h3 vs H3 l3 st3 j3 => ?_) (fun c fs s' hr => (hR c fs s' hr).up L) h2
    exact hQ _ s3 h3 _ H3 (L.trans l3) st3 (.cons ((j1.up l2).up l3) (j2.up l3) j3)
def kvsOf : List (J × J) → Option (List (Key × J))
  | [] => some []
  | (x, y) :: r => match keyOf x, kvsOf r with
    | some k, some l => some ((k, y) :: l)
    | _, _ => none
def mergeJ (kvs more : List (Key × J)) : List (Key × J) := more.foldl (fun acc kv => putK' acc kv.1 kv.2) kvs
def jDisp (ps : List (TJ × TJ)) : TJ := fun ρ s Q R => jPairs ps ρ s (fun l s1 => ∃ kvs, kvsOf l = some kvs ∧ kvs.length ≤ 15 ∧ Q (.dct (mergeJ [] kvs)) s1) R
def jDispO (ps : List (TJ × TJ)) : TJ := fun ρ s Q R => jPairs ps ρ s (fun l s1 => ∃ kvs, kvsOf l = some kvs ∧ kvs.length ≤ 15 ∧ ∀ p, s1 p = none → Q (.own p) (put s1 p (.dct (mergeJ [] kvs)))) R
theorem kvs_jpd {G : Hp} : ∀ {v : List (V × V)} {l : List (J × J)} {kvs : List (Key × J)}, Jpp K G v l → kvsOf l = some kvs → ∃ kvv : List (Key × V), v = kvv.map (fun kv => (kV kv.1, kv.2)) ∧ Jpd K G kvv kvs
  | _, _, _, .nil, e => by cases e; exact ⟨[], rfl, .nil⟩
  | _, _, _, .cons (x := x) (y := y) (r := r) a b c, e => by
    unfold kvsOf at e
    split at e
    · rename_i k l e1 e2
      cases e
      obtain ⟨kvv, rfl, j⟩ := kvs_jpd c e2
      rw [keyOf_v a e1]
      exact ⟨(k, _) :: kvv, rfl, .cons b j⟩
    · cases e
theorem Jpd.merge {G : Hp} : ∀ {v : List (Key × V)} {l : List (Key × J)} {acc : List (Key × V)} {bcc : List (Key × J)}, Jpd K G acc bcc → Jpd K G v l → Jpd K G (mergeK acc v) (mergeJ bcc l)
  | _, _, _, _, h, .nil => h
  | _, _, _, _, h, .cons (k := k) j r => by
    have := Jpd.merge (Jpd.put (k := k) j h) r
    exact this
theorem disp_core {trs : List (TE × TE)} {ps : List (TJ × TJ)} {F : Hp} {ρ : Rho} {s : Sto} {σ : L2.St} {H : Hp} {Z : List (Key × J) → Sto → Prop} {R : XJ} {QV : VK} (hp : Spp K W trs ps) (a : At K F ρ s σ H)
    (hZ : ∀ kvs s', Z kvs s' → ∀ D xs H', F D = none → Le (mask F s H) (mask (upd F D (.dK xs)) s' H') → Stt K (upd F D (.dK xs)) s' H' → Jpd K (mask (upd F D (.dK xs)) s' H') xs (mergeJ [] kvs) → QV (.ref D) H')
    (hR : ∀ c fs s', R c fs s' → Xk K F (mask F s H) (fun cl d H' => W cl d σ H') c fs s') (h : jPairs ps ρ s (fun l s1 => ∃ kvs, kvsOf l = some kvs ∧ kvs.length ≤ 15 ∧ Z kvs s1) R) : tDisp trs σ H QV := by
  intro D hD
  have fD := (a.st.fresh hD).2
  have st1 := a.st.hid (o := .dK []) hD
  have l1 := Le.hid (F := F) (s := s) (o := .dK []) hD
  refine spp hp (upd F D (.dK [])) ρ s σ (upd H D (.dK [])) _ R _ ⟨a.rs.up l1, st1⟩ (fun l s2 h2 v H2 l2 st2 j2 => ?_) (fun c fs s' hr d H' l' t x => ?_) h
  · obtain ⟨kvs, e, hl, z⟩ := h2
    obtain ⟨kvv, rfl, j⟩ := kvs_jpd j2 e
    refine ⟨st2.fr D _ upd_same, kvv, rfl, by rw [j.length]; exact hl, ?_⟩
    have st3 := st2.hidW (u := .dK (mergeK [] kvv))
    refine hZ kvs s2 z D _ _ fD ?_ st3 ?_
    · rw [mask_hid, mask_hid2 (u := .dK [])]
      exact l1.trans l2
    · rw [mask_hid, mask_hid2 (u := .dK [])]
      exact Jpd.merge .nil j
  · have st3 := t.hidOut fD
    refine (hR c fs s' hr) d H' ((l1.trans l').trans .hidOut) st3.1 ?_
    unfold XD at x ⊢
    cases d with
    | none => exact x
    | some b =>
      obtain ⟨vs, e, r⟩ := x
      exact ⟨vs, Le.hidOut.xd e, r.up .hidOut⟩
theorem se_disp {trs : List (TE × TE)} {ps : List (TJ × TJ)} (hp : Spp K W trs ps) : Se K W (tDisp trs) (jDisp ps) := by
  intro F ρ s σ H Q R QV a hQ hR h
  refine disp_core hp a (fun kvs s' q D xs H' fD l st j => ?_) hR h
  obtain ⟨st2, e1, e2⟩ := st.hidOut fD
  exact hQ _ s' q _ H' (l.trans .hidOut) st2 (.dct (h := .dK xs) (by rw [mask_none fD e1]; exact e2) rfl (j.up .hidOut))
theorem se_dispO {trs : List (TE × TE)} {ps : List (TJ × TJ)} (hp : Spp K W trs ps) : Se K W (tDisp trs) (jDispO ps) := by
  intro F ρ s σ H Q R QV a hQ hR h
  refine disp_core (Z := fun kvs s1 => ∀ p, s1 p = none → Q (.own p) (put s1 p (.dct (mergeJ [] kvs)))) hp a (fun kvs s' q D xs H' fD l st j => ?_) hR h
  exact hQ _ _ (q D (st.hidOut fD).2.1) _ H' (l.trans .hidOwn) (st.hidOwn (u := .dct _) fD j) (.own D)
end
section
variable {ρ : Rho} {s : Sto} {Q : QJ} {R : XJ} {pa : TJ}
def RevX (s : Sto) (x : J) (Q : QJ) : Prop := match x with
  | .str z => z.length ≤ 100000 ∧ Q (.str (revS z)) s
  | x => ∃ l, lstOf s x = some l ∧ Q (.lst l.reverse) s
theorem y_rev (h : pa ρ s (fun x s1 => RevX s1 x Q) R) : jRev pa ρ s Q R := h
theorem y_rev_s {z : Str} (hz : z.length ≤ 100000) (h : Q (.str (revS z)) s) : RevX s (.str z) Q := ⟨hz, h⟩
theorem y_rev_l {l : List J} (h : Q (.lst l.reverse) s) : RevX s (.lst l) Q := ⟨l, rfl, h⟩
def KvX (l : List (J × J)) (P : List (Key × J) → Prop) : Prop := ∃ kvs, kvsOf l = some kvs ∧ kvs.length ≤ 15 ∧ P kvs
theorem y_disp {ps : List (TJ × TJ)} (h : jPairs ps ρ s (fun l s1 => KvX l fun kvs => Q (.dct (mergeJ [] kvs)) s1) R) : jDisp ps ρ s Q R := h
theorem y_dispO {ps : List (TJ × TJ)} (h : jPairs ps ρ s (fun l s1 => KvX l fun kvs => Own s1 (.dct (mergeJ [] kvs)) Q) R) : jDispO ps ρ s Q R := h
theorem y_kv {l : List (J × J)} {kvs : List (Key × J)} {P : List (Key × J) → Prop} (h : P kvs) (e : kvsOf l = some kvs := by with_unfolding_all rfl) (hl : kvs.length ≤ 15 := by first | decide | simp) : KvX l P := ⟨kvs, e, hl, h⟩
theorem y_pn {Q : List (J × J) → Sto → Prop} (h : Q [] s) : jPairs [] ρ s Q R := h
theorem y_pc {pk pv : TJ} {r : List (TJ × TJ)} {Q : List (J × J) → Sto → Prop} (h : pk ρ s (fun x s1 => pv ρ s1 (fun y s2 => jPairs r ρ s2 (fun ps s3 => Q ((x, y) :: ps) s3) R) R) R) : jPairs ((pk, pv) :: r) ρ s Q R := h
end
end M

namespace M
open PySem PySem.Spec PyProof.Rows L2
/-! ## min, max of a list; dict(..) -/
def jMinL (xs : List J) (s : Sto) (Q : QJ) : Prop := ∃ (d : J) (ns : List Int), xs = [d] ∧ lstOf s d = some (ns.map J.int) ∧ 0 < ns.length ∧ ∀ m, m ∈ ns → (∀ y, y ∈ ns → m ≤ y) → Q (.int m) s
def jMaxL (xs : List J) (s : Sto) (Q : QJ) : Prop := ∃ (d : J) (ns : List Int), xs = [d] ∧ lstOf s d = some (ns.map J.int) ∧ 0 < ns.length ∧ ∀ m, m ∈ ns → (∀ y, y ∈ ns → y ≤ m) → Q (.int m) s
/-- the pairs of a list as a table -/
def kvsOfL : List J → Option (List (Key × J))
  | [] => some []
  | .tup [x, y] :: r => match keyOf x, kvsOfL r with
    | some k, some l => some ((k, y) :: l)
    | _, _ => none
  | _ => none
def dictR (s : Sto) (d : J) (P : List (Key × J) → Prop) : Prop := (∃ l kvs, lstOf s d = some l ∧ kvsOfL l = some kvs ∧ P (mergeJ [] kvs)) ∨ ∃ kvs, res s d = .dct kvs ∧ P kvs
def jDict (xs : List J) (s : Sto) (Q : QJ) : Prop := ∃ d, xs = [d] ∧ dictR s d fun kvs => Q (.dct kvs) s
def jDictO (xs : List J) (s : Sto) (Q : QJ) : Prop := ∃ d, xs = [d] ∧ dictR s d fun kvs => ∀ p, s p = none → Q (.own p) (put s p (.dct kvs))
section
variable {K : PySem.W.Frag}
theorem sf_minL : Sf K (rMin K) jMinL := by
  intro F s H v x Q QV t js hQ h
  obtain ⟨d, ns, rfl, e, h0, q⟩ := h
  obtain ⟨u, rfl, j⟩ := jps1 js
  obtain ⟨a, xs, rfl, h1, r⟩ := jp_list t j e
  exact ⟨a, ns, rfl, by rw [← r.ints]; exact h1, h0, fun m hm hy => hQ _ s (q m hm hy) _ H .refl t (.int _)⟩
theorem sf_maxL : Sf K (rMax K) jMaxL := by
  intro F s H v x Q QV t js hQ h
  obtain ⟨d, ns, rfl, e, h0, q⟩ := h
  obtain ⟨u, rfl, j⟩ := jps1 js
  obtain ⟨a, xs, rfl, h1, r⟩ := jp_list t j e
  exact ⟨a, ns, rfl, by rw [← r.ints]; exact h1, h0, fun m hm hy => hQ _ s (q m hm hy) _ H .refl t (.int _)⟩
def uDict (K : PySem.W.Frag) : List V → Hp → VK → Prop := fun xs H Q => (∃ (a : Addr) (ps : List Addr) (kvs : List (Key × V)), xs = [.ref a] ∧ SqL K H a (ps.map V.ref) ∧ Paired (fun p kv => SqT K H p [kV kv.1, kv.2]) ps kvs ∧ ∀ p, H p = none → Q (.ref p) (upd H p (.dK (mergeK [] kvs)))) ∨
  (∃ (a : Addr) (kvs : List (Key × V)), xs = [.ref a] ∧ Rd H a (.dK kvs) ∧ ∀ p, H p = none → Q (.ref p) (upd H p (.dK kvs)))
theorem call_dictU {X : Cx} (hc : X.calm = true) : CallR X (.type "dict") (uDict X.K) := CallR.or (call_dictP hc) call_dictD
theorem pairs_of {G : Hp} : ∀ {v : List V} {l : List J} {kvs : List (Key × J)}, Jps K G v l → kvsOfL l = some kvs → ∃ (ps : List Addr) (kvv : List (Key × V)), v = ps.map V.ref ∧ Paired (fun p kv => SqT K G p [kV kv.1, kv.2]) ps kvv ∧ Jpd K G kvv kvs
  | _, _, _, .nil, e => by cases e; exact ⟨[], [], rfl, .nil, .nil⟩
  | _, _, _, .cons (d := d) (ds := r) j t, e => by
    unfold kvsOfL at e
    split at e
    · rename_i h; cases h
    · rename_i x y r' h
      cases h
      split at e
      · rename_i k l e1 e2
        cases e
        obtain ⟨ps, kvv, rfl, p, jd⟩ := pairs_of t e2
        cases j with | tup ht jj =>
        obtain ⟨u, w, rfl, j1, j2⟩ := jps2 jj
        rename_i a
        have ek := keyOf_v j1 e1
        subst ek
        exact ⟨a :: ps, (k, w) :: kvv, rfl, .cons ht p, .cons j2 jd⟩
      · cases e
    · cases e
theorem paired_mono {α β : Type} {R R' : α → β → Prop} (h : ∀ a b, R a b → R' a b) : ∀ {l : List α} {m : List β}, Paired R l m → Paired R' l m
  | _, _, .nil => .nil
  | _, _, .cons a r => .cons (h _ _ a) (paired_mono h r)
theorem dict_core {F : Hp} {s : Sto} {H : Hp} {u : V} {d : J} {P : List (Key × J) → Prop} {QV : VK} (t : Stt K F s H) (j : Jp K (mask F s H) u d) (h : dictR s d P)
    (q : ∀ kvs kvv p, P kvs → H p = none → Jpd K (mask F s H) kvv kvs → QV (.ref p) (upd H p (.dK kvv))) : uDict K [u] H QV := by
  rcases h with ⟨l, kvs, e, e2, z⟩ | ⟨kvs, e, z⟩
  · obtain ⟨a, xs, rfl, h1, r⟩ := jp_list t j e
    obtain ⟨ps, kvv, rfl, p, jd⟩ := pairs_of r e2
    exact .inl ⟨a, ps, kvv, rfl, h1, paired_mono (fun _ _ h => sqt_mask h) p, fun p hp => q _ _ p z hp (Jpd.merge .nil jd)⟩
  · obtain ⟨a, h, xs, rfl, e1, c, r⟩ := jp_dct t j e
    refine .inr ⟨a, xs, rfl, ?_, fun p hp => q _ _ p z hp r⟩
    rcases cor_dK c with rfl | ⟨o, rfl⟩
    · exact .inl e1
    · exact .inr ⟨o, e1⟩
theorem sf_dict : Sf K (uDict K) jDict := by
  intro F s H v x Q QV t js hQ h
  obtain ⟨d, rfl, h⟩ := h
  obtain ⟨u, rfl, j⟩ := jps1 js
  exact dict_core t j h fun kvs kvv p z hp r => hQ _ s z _ _ (.new hp) (t.new hp) (.dct (mask_new t hp) rfl (r.up (.new hp)))
theorem sf_dictO : Sf K (uDict K) jDictO := by
  intro F s H v x Q QV t js hQ h
  obtain ⟨d, rfl, h⟩ := h
  obtain ⟨u, rfl, j⟩ := jps1 js
  exact dict_core t j h fun kvs kvv p z hp r => hQ _ _ (z p (t.fresh hp).1) _ _ (.newO hp) (t.newO (o := .dct kvs) hp r) (.own p)
end
section
variable {s : Sto} {Q : QJ}
theorem y_minL {l : List J} {ns : List Int} (e : l = ns.map J.int) (h : 0 < ns.length) (q : ∀ m, m ∈ ns → (∀ y, y ∈ ns → m ≤ y) → Q (.int m) s) : jMinL [.lst l] s Q := ⟨_, ns, rfl, by rw [e]; rfl, h, q⟩
theorem y_minO {a : Addr} {ns : List Int} (e : s a = some (.lst (ns.map J.int))) (h : 0 < ns.length) (q : ∀ m, m ∈ ns → (∀ y, y ∈ ns → m ≤ y) → Q (.int m) s) : jMinL [.own a] s Q := ⟨_, ns, rfl, by unfold lstOf; dsimp only; rw [e], h, q⟩
theorem y_dict_l {l : List J} {kvs : List (Key × J)} (e : kvsOfL l = some kvs) (q : Q (.dct (mergeJ [] kvs)) s) : jDict [.lst l] s Q := ⟨_, rfl, .inl ⟨l, kvs, rfl, e, q⟩⟩
theorem y_dict_d {kvs : List (Key × J)} (q : Q (.dct kvs) s) : jDict [.dct kvs] s Q := ⟨_, rfl, .inr ⟨kvs, rfl, q⟩⟩
end
/-! ## in a handler's suite the kit's facts are the def's own (the reading must not name the suite) -/
theorem pt_truS {X : Cx} {b : Addr} {pn : List (Addr × Obj)} {a : Expr} {ta : TE} (ha : PE (X.suite b pn) a ta) (he : ∀ whole, isTrue a (X.suite b pn).env whole = (do let v ← whole; standAt a.pos; holding [v] (truthy v)) := by intro _; rfl) : PT (X.suite b pn) a (tTruth X.K ta) := pt_truth ha he
theorem call_isiS {X : Cx} {b : Addr} {pn : List (Addr × Obj)} : CallR (X.suite b pn) (.builtin "isinstance") (rIsi X.K) := call_isi
end M

namespace M
open PySem PySem.Spec PyProof.Rows L2
/-! ## one question at a time (a lemma with premises is tried behind its own question only) -/
section
variable {s : Sto} {R : XJ} {Q : QJ} {x y : J}
theorem is_Fld {L : List Str} {f : Str} {P : J → Prop} (h : FldX s L x f P) : FldX s L x f P := h
theorem is_FldO {L : List Str} {f : Str} {a : Addr} {P : J → Prop} (h : FldX s L (.own a) f P) : FldX s L (.own a) f P := h
theorem is_Obj {c m : Str} {P : Prop} (h : ObjX s x c m P) : ObjX s x c m P := h
theorem is_ObjO {c m : Str} {a : Addr} {P : Prop} (h : ObjX s (.own a) c m P) : ObjX s (.own a) c m P := h
theorem is_Con {L : List Str} {f : Str} {P : Prop} (h : ConX s L x f P) : ConX s L x f P := h
theorem is_ConO {L : List Str} {f : Str} {a : Addr} {P : Prop} (h : ConX s L (.own a) f P) : ConX s L (.own a) f P := h
theorem is_tyO {T : String} {a : Addr} {P : Prop} (h : tyM s T (.own a) ∧ P) : tyM s T (.own a) ∧ P := h
theorem is_SetO {a : Addr} {i : J} {P : Sto → Prop} (h : SetX s (.own a) i y P) : SetX s (.own a) i y P := h
theorem is_New {n : Nat} {P : Prop} (h : NewJ n P) : NewJ n P := h
theorem is_Kv {l : List (J × J)} {P : List (Key × J) → Prop} (h : KvX l P) : KvX l P := h
theorem is_It {P : ItJ → Prop} (h : ItX s x P) : ItX s x P := h
theorem is_En {P : ItJ → Prop} (h : EnX s x P) : EnX s x P := h
theorem is_Tru {P : Bool → Prop} (h : truJ s x P) : truJ s x P := h
theorem is_mul (h : mulJ x y s Q) : mulJ x y s Q := h
theorem is_div (h : divJ x y s Q) : divJ x y s Q := h
theorem is_mod (h : modJ x y s Q) : modJ x y s Q := h
theorem is_pow (h : powJ x y s Q) : powJ x y s Q := h
theorem is_ix (h : ixJ x y s Q) : ixJ x y s Q := h
theorem is_ixl {l : List J} (h : ixJ (.lst l) y s Q) : ixJ (.lst l) y s Q := h
theorem is_ixt {l : List J} (h : ixJ (.tup l) y s Q) : ixJ (.tup l) y s Q := h
theorem is_ixo {a : Addr} (h : ixJ (.own a) y s Q) : ixJ (.own a) y s Q := h
theorem is_isi {xs : List J} (h : isiJ xs s Q) : isiJ xs s Q := h
theorem is_lenO {a : Addr} (h : lenJ [.own a] s Q) : lenJ [.own a] s Q := h
theorem is_isXJ {tab : List (Str × Bool)} {n c : Str} {a dd : Addr} {xs : List J} (h : isXJ tab n c a dd xs s Q) : isXJ tab n c a dd xs s Q := h
theorem is_jVar {i : Nat} {ρ : Rho} (h : jVar i ρ s Q R) : jVar i ρ s Q R := h
theorem is_jAug {i : Nat} {p : TJ} {f : Int → Int → Int} {D : EJ} {ρ : Rho} (h : jAug i p f D ρ s) : jAug i p f D ρ s := h
theorem is_jgTup {k : Nat} {gs : GsJ} {d : J} {ρ : Rho} {P : Rho → Sto → Prop} (h : jgTup k gs d ρ s P) : jgTup k gs d ρ s P := h
end
end M

namespace M
open PySem PySem.Spec PyProof.Rows L2
/-! ## a target that is a field; what never comes; defs that call themselves -/
def gFld (K : PySem.W.Frag) (ta : TE) (f : Str) : TG := fun y σ H R => ta σ H fun x H2 => ∃ a C dx fs, x = .ref a ∧ H2 a = some (.ins C dx fs) ∧ Cls K C ∧ NoAttr K C f ∧ fs.length < 1000 ∧ R σ (upd H2 a (.ins C dx (putF f y fs)))
theorem pg_fld {X : Cx} {o : Expr} {f : Str} {pos : Pos} {ta : TE} (ho : PE X o ta) : PG X (.Attribute o f pos) (gFld X.K ta f) := by
  refine ⟨fun pins s σ H v u Q I r h => ?_⟩
  rw [arm_assign_Attribute]
  refine wpAny_bind (wpAny_holding (thn (ho.run pins s σ H _ I h) fun ov s1 ⟨x, H1, I1, rx, a, C, dx, fs, ex, ea, c, n, l, q⟩ => ?_))
  subst ex
  obtain rfl : ov = Value.ref a := rx
  refine wpAny_bind (wpAny_standAt (wpAny_bind (wpAny_holding (setattr_ok I1 ea c n l r fun s3 I3 => ?_))))
  exact wpAny_release ⟨σ, _, I3, q⟩
def jgFld (L : List Str) (p : TJ) (f : Str) : GJ := fun y ρ s Q => p ρ s (fun x s2 => ∃ a c fs, x = .own a ∧ s2 a = some (.ins c fs) ∧ c ∈ L ∧ fs.length < 1000 ∧ Q ρ (put s2 a (.ins c (putJ f y fs)))) No
theorem sg_fld {K : PySem.W.Frag} {ta : TE} {pa : TJ} {L : List Str} {f : Str} (hL : ∀ c ∈ L, Cls K (He.ga K c) ∧ NoAttr K (He.ga K c) f) (ha : Se K W0 ta pa) : Sg K (gFld K ta f) (jgFld L pa f) := by
  intro F v d ρ s σ H Q QV a j hQ q
  refine ha F ρ s σ H _ _ _ a (fun x s2 h2 v2 H2 l2 st2 j2 => ?_) (fun c fs s' hr => hr.elim) q
  obtain ⟨b, c, fs, rfl, eb, hc, hl, q⟩ := h2
  cases j2
  obtain ⟨dx, xs, h3, r⟩ := st2.ins eb
  refine ⟨b, _, dx, xs, rfl, h3, (hL c hc).1, (hL c hc).2, by rw [r.length]; exact hl, ?_⟩
  have w : Oh K (mask F s2 H2) (.ins (He.ga K c) dx (putF f v xs)) (.ins c (putJ f d fs)) := ⟨rfl, r.put (j.up l2)⟩
  have L3 := l2.trans (mask_w (h := .ins (He.ga K c) dx (putF f v xs)) (o := .ins c (putJ f d fs)) eb)
  exact hQ ρ _ q σ _ L3 (a.to L3 (st2.write eb w))
def jNever : SJ := fun _ _ _ => False
theorem ss_never {K : PySem.W.Frag} {W : WX} : Ss K W tNever jNever := fun _ _ _ _ _ _ _ _ _ h => h.elim
def wNo : WJ := fun _ _ _ _ => False
theorem spJ_no {K : PySem.W.Frag} {vs : List V} {H : Hp} {Q : VK} {E : XK} (h : spJ K wNo vs H Q E) : False := by
  obtain ⟨_, _, _, _, _, _, _, _, _, z⟩ := h
  exact z
theorem okZ {P : Program} {w : World} {K : PySem.W.Frag} {mg : Str → Option Value} {base : Heap} {x qual : Str} {params : Arguments} {body : List Stmt} {scope : Scope} {f : Addr} {ps : List Str} {k : Nat}
    (hF : ∃ fd, FunD K x qual params body scope [] [] f fd)
    (hb : ∀ (kV doc pm : Value) (an : Option Addr) (cdv ct : Value) (us : List Value), us.length = ps.length → bindArgs (PySem.W.fnOf x qual params body scope .none kV doc pm an cdv ct) ⟨us, []⟩ = pure (ps.zip us)) :
    Ok P w K mg base k f ps [] (spJ K wNo) := by
  obtain ⟨fd, F⟩ := hF
  exact ⟨fd, [], ⟨fun _ _ _ _ h => (spJ_no h).elim, fun _ _ _ _ _ _ _ _ _ _ _ _ _ h => (spJ_no h).elim⟩, F.kp, .nil, F.bindsN hb⟩
/-! ## match over texts -/
inductive PPat (X : Cx) : Pattern → List Str → Prop where
  | val {e : Expr} {pos : Pos} {l : Str} (h : PE X e (tC (.str l))) : PPat X (.MatchValue e pos) [l]
  | or1 {e : Expr} {p1 pos : Pos} {ps : List Pattern} {l : Str} {ls : List Str} (h : PE X e (tC (.str l))) (r : PPat X (.MatchOr ps pos) ls) : PPat X (.MatchOr (.MatchValue e p1 :: ps) pos) (l :: ls)
  | or0 {pos : Pos} : PPat X (.MatchOr [] pos) []
def tPick : List (List Str × TS) → Str → TS
  | [], _ => fun D σ H => D.nx σ H
  | (ls, t) :: r, z => fun D σ H => if z ∈ ls then t D σ H else tPick r z D σ H
inductive PCs (X : Cx) : List MatchCase → List (List Str × TS) → Prop where
  | nil : PCs X [] []
  | cons {p : Pattern} {b : List Stmt} {cs : List MatchCase} {ls : List Str} {t : TS} {ts : List (List Str × TS)} (hp : PPat X p ls) (hb : PSs X b t) (r : PCs X cs ts) : PCs X (⟨p, none, b⟩ :: cs) ((ls, t) :: ts)
def tMatch (te : TE) (ts : List (List Str × TS)) : TS := fun D σ H => te σ H fun x H1 => ∃ z, x = .str z ∧ tPick ts z D σ H1
section
variable {X : Cx} {pins : List (Addr × Obj)} {σ : L2.St} {H : Hp} {s : Shared} {z l : Str} {u : Value}
theorem pat_val {e : Expr} {pos : Pos} {Q : Option (List (Str × Value)) → Shared → Prop} (I : Inv X pins σ H s) (ru : RelV (.str z) u) (h : PE X e (tC (.str l)))
    (q : ∀ s', Inv X pins σ H s' → Q (if z = l then some [] else none) s') : wpAny (model X.prog X.w) X.A (matchPattern (.MatchValue e pos) X.env u) Q X.xe s := by
  refine wpAny_matchPattern_Value (thn (h.run pins s σ H (fun v H' => v = .str l ∧ H' = H) I ⟨rfl, rfl⟩) fun x s1 ⟨v, H1, I1, r1, e1, e2⟩ => ?_)
  subst e1 e2
  refine thn (op_eq pins s1 σ H1 (.str z) (.str l) u x (fun v H' => v = .bl (decide (z = l)) ∧ H' = H1) I1 ru r1 ⟨rfl, by rw [show decide (V.str z = V.str l) = decide (z = l) from by simp], rfl⟩) fun c s2 ⟨v, H2, I2, r2, e1, e2⟩ => ?_
  subst e1 e2
  obtain rfl : c = Value.bool (decide (z = l)) := r2
  refine wpAny_truthy_bool ?_
  by_cases k : z = l
  · rw [if_pos (decide_eq_true k)]
    have := q _ I2
    rw [if_pos k] at this
    exact this
  · rw [if_neg (by rw [decide_eq_false k]; decide)]
    have := q _ I2
    rw [if_neg k] at this
    exact this
theorem first_ok {ls : List Str} {p : Pattern} (hp : PPat X p ls) : ∀ {ps : List Pattern} {pos : Pos} {s : Shared} {Q : Option (List (Str × Value)) → Shared → Prop}, p = .MatchOr ps pos → Inv X pins σ H s → RelV (.str z) u →
    (∀ s', Inv X pins σ H s' → Q (if z ∈ ls then some [] else none) s') → wpAny (model X.prog X.w) X.A (matchFirst ps X.env u) Q X.xe s := by
  induction hp with
  | val h => intro ps pos s Q e; cases e
  | or0 =>
    intro ps pos s Q e I ru q
    cases e
    refine wpAny_matchFirst_nil ?_
    have := q s I
    rw [if_neg (by simp)] at this
    exact this
  | @or1 e p1 pos ps l ls h r ih =>
    intro ps' pos' s Q e2 I ru q
    cases e2
    refine wpAny_matchFirst_cons (pat_val I ru h fun s1 I1 => ?_)
    by_cases k : z = l
    · rw [if_pos k]
      have := q _ I1
      rw [if_pos (by simp [k])] at this
      exact this
    · rw [if_neg k]
      refine ih rfl I1 ru fun s2 I2 => ?_
      have := q _ I2
      by_cases m : z ∈ ls
      · rw [if_pos m]
        rw [if_pos (List.mem_cons_of_mem _ m)] at this
        exact this
      · rw [if_neg m]
        rw [if_neg (by simp [k, m])] at this
        exact this
theorem pat_ok {ls : List Str} {p : Pattern} {Q : Option (List (Str × Value)) → Shared → Prop} (hp : PPat X p ls) (I : Inv X pins σ H s) (ru : RelV (.str z) u)
    (q : ∀ s', Inv X pins σ H s' → Q (if z ∈ ls then some [] else none) s') : wpAny (model X.prog X.w) X.A (matchPattern p X.env u) Q X.xe s := by
  cases hp with
  | val h =>
    refine pat_val I ru h fun s1 I1 => ?_
    have := q _ I1
    simpa only [List.mem_singleton] using this
  | or0 =>
    refine wpAny_matchPattern_Or (wpAny_matchFirst_nil ?_)
    have := q s I
    rw [if_neg (by simp)] at this
    exact this
  | or1 h r =>
    refine wpAny_matchPattern_Or (first_ok (.or1 h r) rfl I ru fun s1 I1 => ?_)
    have := q _ I1
    split <;> rename_i e
    · split at e
      · cases e
      · rename_i k
        rw [if_neg k] at this
        exact this
    · split at e
      · rename_i k
        cases e
        rw [if_pos k] at this
        exact this
      · cases e
theorem cases_ok {cs : List MatchCase} {ts : List (List Str × TS)} (h : PCs X cs ts) : ∀ {b : Bool} {s : Shared} {H : Hp} {D : Ends}, Inv X pins σ H s → RelV (.str z) u → tPick ts z D σ H →
    wpAny (model X.prog X.w) X.A (matchCases cs X.env u b) (SP X pins D) X.xe s := by
  induction h with
  | nil =>
    intro b s H D I ru q
    exact wpAny_matchCases_nil ⟨σ, H, I, q⟩
  | cons hp hb r ih =>
    intro b s H D I ru q
    refine wpAny_matchCases_cons (pat_ok hp I ru fun s1 I1 => ?_)
    unfold tPick at q
    split at q
    · rename_i k
      rw [if_pos k]
      exact wpAny_assignInOrder_none (hb.run pins s1 σ H D I1 q)
    · rename_i k
      rw [if_neg k]
      exact ih I1 ru q
theorem ps_match {e : Expr} {cs : List MatchCase} {pos : Pos} {te : TE} {ts : List (List Str × TS)} (he : PE X e te) (h : PCs X cs ts) : PS X (.Match e cs pos) (tMatch te ts) := by
  refine ⟨fun pins s σ H D I q => ?_⟩
  refine wpAny_Match (thn (he.run pins s σ H _ I q) fun v s1 ⟨x, H1, I1, r1, z, ez, q1⟩ => ?_)
  subst ez
  exact cases_ok h I1 r1 q1
end
def pickJ : List (List Str × SJ) → Str → SJ
  | [], _ => fun D ρ s => D.nx ρ s
  | (ls, q) :: r, z => fun D ρ s => if z ∈ ls then q D ρ s else pickJ r z D ρ s
def jMatch (p : TJ) (qs : List (List Str × SJ)) : SJ := fun D ρ s => p ρ s (fun x s1 => ∃ z, x = .str z ∧ pickJ qs z D ρ s1) (D.xr ρ)
inductive Scs (K : PySem.W.Frag) (W : WX) : List (List Str × TS) → List (List Str × SJ) → Prop where
  | nil : Scs K W [] []
  | cons {ls : List Str} {t : TS} {q : SJ} {ts : List (List Str × TS)} {qs : List (List Str × SJ)} (h : Ss K W t q) (r : Scs K W ts qs) : Scs K W ((ls, t) :: ts) ((ls, q) :: qs)
theorem scs_pick {K : PySem.W.Frag} {W : WX} {ts : List (List Str × TS)} {qs : List (List Str × SJ)} (h : Scs K W ts qs) (z : Str) : Ss K W (tPick ts z) (pickJ qs z) := by
  induction h with
  | nil => exact fun F D DV ρ s σ H a e h => e.nx ρ s σ H h .refl a
  | cons h r ih =>
    intro F D DV ρ s σ H a e q
    unfold pickJ at q
    unfold tPick
    split at q
    · rename_i k
      rw [if_pos k]
      exact h F D DV ρ s σ H a e q
    · rename_i k
      rw [if_neg k]
      exact ih F D DV ρ s σ H a e q
theorem ss_match {K : PySem.W.Frag} {W : WX} {te : TE} {pe : TJ} {ts : List (List Str × TS)} {qs : List (List Str × SJ)} (he : Se K W te pe) (h : Scs K W ts qs) : Ss K W (tMatch te ts) (jMatch pe qs) := by
  intro F D DV ρ s σ H a e q
  refine he F ρ s σ H _ _ _ a (fun x s1 h1 v1 H1 l1 st1 j1 => ?_) (er_x (G := H) a e) q
  obtain ⟨z, rfl, h1⟩ := h1
  cases j1
  exact ⟨z, rfl, scs_pick h z F D DV ρ s1 σ H1 (a.to l1 st1) (e.up l1) h1⟩
theorem y_match {p : TJ} {qs : List (List Str × SJ)} {n bk ct : Rho → Sto → Prop} {rt : QJ} {xr : Rho → XJ} {ρ : Rho} {s : Sto} (h : p ρ s (fun x s1 => ∃ z, x = .str z ∧ pickJ qs z (EJ.mk n rt bk ct xr) ρ s1) (xr ρ)) : jMatch p qs (EJ.mk n rt bk ct xr) ρ s := h
theorem y_strX {z : Str} {P : Str → Prop} (h : P z) : ∃ y, J.str z = .str y ∧ P y := ⟨z, rfl, h⟩
theorem y_pick_t {ls : List Str} {q : SJ} {r : List (List Str × SJ)} {z : Str} {D : EJ} {ρ : Rho} {s : Sto} (m : z ∈ ls) (h : q D ρ s) : pickJ ((ls, q) :: r) z D ρ s := by
  unfold pickJ
  rw [if_pos m]
  exact h
theorem y_pick_f {ls : List Str} {q : SJ} {r : List (List Str × SJ)} {z : Str} {D : EJ} {ρ : Rho} {s : Sto} (m : ¬ z ∈ ls) (h : pickJ r z D ρ s) : pickJ ((ls, q) :: r) z D ρ s := by
  unfold pickJ
  rw [if_neg m]
  exact h
/-! ## f-strings of texts and ints -/
def jFmt (p : TJ) : TJ := fun ρ s Q R => p ρ s (fun x s1 => (∃ y : Str, x = .str y ∧ y.length ≤ 100000 ∧ Q (.str y) s1) ∨ ∃ i : Int, x = .int i ∧ i.natAbs.log2 < 1920 ∧ Q (.str (toString i)) s1) R
theorem se_fmt {K : PySem.W.Frag} {W : WX} {te : TE} {pe : TJ} (h : Se K W te pe) : Se K W (tFmt te) (jFmt pe) := by
  intro F ρ s σ H Q R QV a hQ hR q
  refine h F ρ s σ H _ R _ a (fun x s1 h1 v1 H1 l1 st1 j1 => ?_) hR q
  rcases h1 with ⟨y, rfl, hz, q⟩ | ⟨i, rfl, hz, q⟩
  · cases j1
    exact .inl ⟨y, rfl, by rw [sizeLine_eq]; omega, hQ _ s1 q _ H1 l1 st1 (.str _)⟩
  · cases j1
    exact .inr ⟨i, rfl, hz, hQ _ s1 q _ H1 l1 st1 (.str _)⟩
def jJs : List TJ → Str → Rho → Sto → (Str → Sto → Prop) → XJ → Prop
  | [], acc, _, s, Q, _ => Q acc s
  | p :: ps, acc, ρ, s, Q, R => p ρ s (fun x s1 => ∃ y : Str, x = .str y ∧ (acc ++ y).length ≤ 100000 ∧ jJs ps (acc ++ y) ρ s1 Q R) R
inductive Sjs (K : PySem.W.Frag) (W : WX) : List TE → List TJ → Prop where
  | nil : Sjs K W [] []
  | cons {t : TE} {p : TJ} {ts : List TE} {ps : List TJ} (h : Se K W t p) (r : Sjs K W ts ps) : Sjs K W (t :: ts) (p :: ps)
theorem sjs_run {K : PySem.W.Frag} {W : WX} {ts : List TE} {ps : List TJ} (h : Sjs K W ts ps) : ∀ (F : Hp) (ρ : Rho) (s : Sto) (σ : L2.St) (H G : Hp) (acc : Str) (Q : Str → Sto → Prop) (R : XJ) (QV : Str → Hp → Prop), At K F ρ s σ H → Le G (mask F s H) →
    (∀ z s', Q z s' → ∀ H', Le G (mask F s' H') → Stt K F s' H' → QV z H') → (∀ c fs s', R c fs s' → Xk K F (mask F s H) (fun cl d H' => W cl d σ H') c fs s') → jJs ps acc ρ s Q R → tJs ts acc σ H QV := by
  induction h with
  | nil => intro F ρ s σ H G acc Q R QV a l hQ hR q; exact hQ _ s q H l a.st
  | cons h r ih =>
    intro F ρ s σ H G acc Q R QV a l hQ hR q
    refine h F ρ s σ H _ R _ a (fun x s1 h1 v1 H1 l1 st1 j1 => ?_) hR q
    obtain ⟨y, rfl, hz, q1⟩ := h1
    cases j1
    exact ⟨y, rfl, by rw [sizeLine_eq]; omega, ih F ρ s1 σ H1 G _ Q R QV (a.to l1 st1) (l.trans l1) hQ (fun c fs s' hr => (hR c fs s' hr).up l1) q1⟩
def jJoined (ps : List TJ) : TJ := fun ρ s Q R => jJs ps Str.empty ρ s (fun z s1 => Q (.str z) s1) R
theorem se_joined {K : PySem.W.Frag} {W : WX} {ts : List TE} {ps : List TJ} (h : Sjs K W ts ps) : Se K W (fun σ H Q => tJs ts Str.empty σ H fun out H1 => Q (.str out) H1) (jJoined ps) := by
  intro F ρ s σ H Q R QV a hQ hR q
  exact sjs_run h F ρ s σ H (mask F s H) Str.empty _ R _ a .refl (fun z s' h' H' l' st' => hQ _ s' h' _ H' l' st' (.str z)) hR q
theorem y_joined {ps : List TJ} {ρ : Rho} {s : Sto} {Q : QJ} {R : XJ} (h : jJs ps Str.empty ρ s (fun z s1 => Q (.str z) s1) R) : jJoined ps ρ s Q R := h
def JsX (acc : Str) (x : J) (P : Str → Prop) : Prop := ∃ y : Str, x = .str y ∧ (acc ++ y).length ≤ 100000 ∧ P (acc ++ y)
theorem y_jsX {acc y : Str} {P : Str → Prop} (hz : (acc ++ y).length ≤ 100000) (h : P (acc ++ y)) : JsX acc (.str y) P := ⟨y, rfl, hz, h⟩
theorem y_js0 {acc : Str} {ρ : Rho} {s : Sto} {Q : Str → Sto → Prop} {R : XJ} (h : Q acc s) : jJs [] acc ρ s Q R := h
theorem y_jsc {p : TJ} {ps : List TJ} {acc : Str} {ρ : Rho} {s : Sto} {Q : Str → Sto → Prop} {R : XJ} (h : p ρ s (fun x s1 => JsX acc x fun z => jJs ps z ρ s1 Q R) R) : jJs (p :: ps) acc ρ s Q R := h
end M

namespace M
open PySem PySem.Spec PyProof.Rows L2
/-! ## dict comprehensions, keys ints or texts -/
def dcJ (st : Sto → Prop) (g : GJ) (tt : BJ) (tk tv : TJ) (ρ : Rho) (Q : List (Key × J) → Sto → Prop) : List J → List (Key × J) → Sto → Prop
  | [], acc, s => st s ∧ Q acc s
  | x :: l, acc, s => st s ∧ g x ρ s fun ρ2 s2 => tt ρ2 s2 (fun b s3 => if b = true then tk ρ2 s3 (fun y s4 => tv ρ2 s4 (fun z s5 => ∃ k, keyOf y = some k ∧ acc.length < 100000 ∧ dcJ st g tt tk tv ρ Q l (putK' acc k z) s5) No) No else dcJ st g tt tk tv ρ Q l acc s3) No
def jDc (p : IJ) (g : GJ) (tt : BJ) (tk tv : TJ) (vs : List Nat) : TJ := fun ρ s Q R => p ρ s (fun I s1 => dcJ I.st g tt tk tv (wipeJ ρ vs) (fun acc s2 => Q (.dct acc) s2) I.items [] s1) R
def jDcO (p : IJ) (g : GJ) (tt : BJ) (tk tv : TJ) (vs : List Nat) : TJ := fun ρ s Q R => p ρ s (fun I s1 => dcJ I.st g tt tk tv (wipeJ ρ vs) (fun acc s2 => ∀ p, s2 p = none → Q (.own p) (put s2 p (.dct acc))) I.items [] s1) R
section
variable {K : PySem.W.Frag} {W : WX} {te tk tv : TE} {pe pk pv : TJ} {tt : TT} {pt : BJ} {g : TG} {gj : GJ} {ti : TI} {pi : IJ} {vs : List Nat}
theorem dcJ_st {st : Sto → Prop} {ρ : Rho} {Q : List (Key × J) → Sto → Prop} {l : List J} {acc : List (Key × J)} {s : Sto} (h : dcJ st gj pt pk pv ρ Q l acc s) : st s := by
  cases l <;> exact h.1
theorem dc_coreJ {F : Hp} {ρ : Rho} {s : Sto} {σ : L2.St} {H : Hp} {Q : List (Key × J) → Sto → Prop} {R : XJ} {QV : VK} (hi : Si K W ti pi) (hg : Sgw K vs g gj) (ht : Sb K W0 tt pt) (hk : Se K W0 tk pk) (hv : Se K W0 tv pv) (a : At K F ρ s σ H)
    (hQ : ∀ acc s', Q acc s' → ∀ D xs H', F D = none → Le (mask F s H) (mask (upd F D (.dK xs)) s' H') → Stt K (upd F D (.dK xs)) s' H' → Jpd K (mask (upd F D (.dK xs)) s' H') xs acc → QV (.ref D) H')
    (hR : ∀ c fs s', R c fs s' → Xk K F (mask F s H) (fun cl d H' => W cl d σ H') c fs s') (h : pi ρ s (fun I s1 => dcJ I.st gj pt pk pv (wipeJ ρ vs) Q I.items [] s1) R) : tDc ti g tt tk tv vs σ H QV := by
  refine hi F ρ s σ H _ R _ a (fun I s1 h1 Jt H1 l1 st1 it D hD => ?_) hR h
  have fD := (st1.fresh hD).2
  refine ⟨fun i m H' => m = I.items.length - i ∧ i ≤ I.items.length ∧ ∃ acc s' xs, Le (mask F s1 H1) (mask (upd F D (.dK xs)) s' H') ∧ Stt K (upd F D (.dK xs)) s' H' ∧ Jpd K (mask (upd F D (.dK xs)) s' H') xs acc ∧ dcJ I.st gj pt pk pv (wipeJ ρ vs) Q (I.items.drop i) acc s',
    ⟨_, rfl, Nat.zero_le _, [], s1, [], .hid hD, st1.hid hD, .nil, h1⟩, ?_⟩
  rintro i m H2 ⟨rfl, hi, acc, s2, xs, l2, st2, j2, h2⟩
  have z := it _ i s2 H2 l2 st2 (dcJ_st h2)
  by_cases hlt : i < I.items.length
  · have dr : I.items.drop i = I.items[i] :: I.items.drop (i + 1) := (List.drop_eq_getElem_cons hlt)
    rw [dr] at h2
    obtain ⟨go, yl⟩ := z.1 hlt
    refine .inr ⟨go, fun H' => i + 1 ≤ I.items.length ∧ ∃ acc s' xs, Le (mask F s1 H1) (mask (upd F D (.dK xs)) s' H') ∧ Stt K (upd F D (.dK xs)) s' H' ∧ Jpd K (mask (upd F D (.dK xs)) s' H') xs acc ∧ dcJ I.st gj pt pk pv (wipeJ ρ vs) Q (I.items.drop (i + 1)) acc s',
      fun H' p => ⟨I.items.length - (i + 1), by omega, rfl, p.1, p.2⟩, fun x H3 y => ?_⟩
    obtain ⟨l3, st3, d, ed, jd⟩ := yl x H3 y
    rw [List.getElem?_eq_getElem hlt] at ed
    cases ed
    have a3 : At K (upd F D (.dK xs)) (wipeJ ρ vs) s2 (wipe σ vs) H3 := ⟨(a.rs.wipe vs).up ((l1.trans l2).trans l3), st3⟩
    refine hg _ x _ _ s2 _ H3 _ _ a3 jd (fun ρ4 s4 h4 σ4 H4 l4 a4 w4 => ?_) h2.2
    refine ⟨w4.trans (by
      have : ∀ ws : List Nat, (∀ i ∈ ws, i ∈ vs) → wipe (wipe σ ws) vs = wipe σ vs := fun ws hw => by
        induction ws with
        | nil => rfl
        | cons i ws ih =>
          show wipe ((wipe σ ws).set i none) vs = wipe σ vs
          rw [wipe_set (hw i List.mem_cons_self)]
          exact ih fun j hj => hw j (List.mem_cons_of_mem _ hj)
      exact this vs fun _ h => h), ?_⟩
    refine ht _ ρ4 s4 σ4 H4 _ No _ a4 (fun b s5 h5 H5 l5 st5 => ?_) (fun _ _ _ z => z.elim) h4
    have L5 := ((l2.trans l3).trans l4).trans l5
    cases b with
    | true =>
      refine hk _ ρ4 s5 σ4 H5 _ No _ (a4.to l5 st5) (fun y s6 h6 v6 H6 l6 st6 j6 => ?_) (fun _ _ _ z => z.elim) h5
      refine hv _ ρ4 s6 σ4 H6 _ No _ ((a4.to l5 st5).to l6 st6) (fun z s7 h7 v7 H7 l7 st7 j7 => ?_) (fun _ _ _ z => z.elim) h6
      obtain ⟨k, ek, hz, h7⟩ := h7
      have jx := Jpd.put (k := k) j7 (((((j2.up l3).up l4).up l5).up l6).up l7)
      refine ⟨xs, k, keyOf_v j6 ek, st7.fr D _ upd_same, by rw [j2.length]; exact Nat.lt_of_lt_of_le hz (by decide), hlt, _, s7, putK xs k v7, ?_, st7.hidW, ?_, h7⟩
      · rw [mask_hid, mask_hid2 (u := .dK xs)]
        exact (L5.trans l6).trans l7
      · rw [mask_hid, mask_hid2 (u := .dK xs)]
        exact jx
    | false => exact ⟨hlt, acc, s5, xs, L5, st5, ((j2.up l3).up l4).up l5, h5⟩
  · have q : i = I.items.length := by omega
    subst q
    rw [List.drop_length] at h2
    exact .inl ⟨z.2 rfl, hQ acc s2 h2.2 D xs H2 fD (l1.trans l2) st2 j2⟩
theorem se_dc (hi : Si K W ti pi) (hg : Sgw K vs g gj) (ht : Sb K W0 tt pt) (hk : Se K W0 tk pk) (hv : Se K W0 tv pv) : Se K W (tDc ti g tt tk tv vs) (jDc pi gj pt pk pv vs) := by
  intro F ρ s σ H Q R QV a hQ hR h
  refine dc_coreJ hi hg ht hk hv a (fun acc s' q D xs H' fD l st j => ?_) hR h
  obtain ⟨st2, e1, e2⟩ := st.hidOut fD
  exact hQ _ s' q _ H' (l.trans .hidOut) st2 (.dct (by rw [mask_none fD e1]; exact e2) rfl (j.up .hidOut))
theorem se_dcO (hi : Si K W ti pi) (hg : Sgw K vs g gj) (ht : Sb K W0 tt pt) (hk : Se K W0 tk pk) (hv : Se K W0 tv pv) : Se K W (tDc ti g tt tk tv vs) (jDcO pi gj pt pk pv vs) := by
  intro F ρ s σ H Q R QV a hQ hR h
  refine dc_coreJ hi hg ht hk hv a (fun acc s' q D xs H' fD l st j => ?_) hR h
  exact hQ _ _ (q D (st.hidOut fD).2.1) _ H' (l.trans .hidOwn) (st.hidOwn (u := .dct acc) fD j) (.own D)
end
theorem y_dc {p : IJ} {g : GJ} {pt : BJ} {pk pv : TJ} {vs : List Nat} {ρ : Rho} {s : Sto} {Q : QJ} {R : XJ} (h : p ρ s (fun I s1 => dcJ I.st g pt pk pv (wipeJ ρ vs) (fun acc s2 => Q (.dct acc) s2) I.items [] s1) R) : jDc p g pt pk pv vs ρ s Q R := h
theorem dc_inv {st : Sto → Prop} {g : GJ} {pt : BJ} {pk pv : TJ} {l : List J} {ρ : Rho} {s : Sto} {Z : List (Key × J) → Sto → Prop} (I : Nat → List (Key × J) → Sto → Prop) (h0 : I 0 [] s) (hst : ∀ i acc s, i ≤ l.length → I i acc s → st s)
    (hs : ∀ i x acc s (N : List (Key × J) → Sto → Prop), l[i]? = some x → I i acc s → (∀ acc' s', I (i + 1) acc' s' → N acc' s') → g x ρ s fun ρ2 s2 => pt ρ2 s2 (fun b s3 => if b = true then pk ρ2 s3 (fun y s4 => pv ρ2 s4 (fun z s5 => ∃ k, keyOf y = some k ∧ acc.length < 100000 ∧ N (putK' acc k z) s5) No) No else N acc s3) No)
    (hd : ∀ acc s, I l.length acc s → Z acc s) : dcJ st g pt pk pv ρ Z l [] s := by
  have key : ∀ (m : List J) (i : Nat) acc s, l.drop i = m → i ≤ l.length → I i acc s → dcJ st g pt pk pv ρ Z m acc s := by
    intro m
    induction m with
    | nil =>
      intro i acc s e hi h
      have : l.length ≤ i := List.drop_eq_nil_iff.mp e
      have e2 : i = l.length := by omega
      subst e2
      exact ⟨hst _ acc s (Nat.le_refl _) h, hd acc s h⟩
    | cons x m ih =>
      intro i acc s e hi h
      have hlt : i < l.length := by
        rcases Nat.lt_or_ge i l.length with k | k
        · exact k
        · rw [List.drop_of_length_le k] at e; cases e
      rw [List.drop_eq_getElem_cons hlt] at e
      injection e with e1 e2
      refine ⟨hst i acc s hi h, ?_⟩
      exact hs i x acc s (fun acc s => dcJ st g pt pk pv ρ Z m acc s) (by rw [List.getElem?_eq_getElem hlt, e1]) h fun acc' s' h' => ih (i + 1) acc' s' e2 hlt h'
  exact key l 0 [] s rfl (Nat.zero_le _) h0
end M

namespace M
open PySem PySem.Spec PyProof.Rows L2
/-! ## own ==, !=, len, in, calls of instances; isinstance of own classes -/
section
variable {X : Cx} {k j : Nat} {f C : Addr} {ps : List Str} {sp : Sp} {fd : FuncData} {pins : List (Addr × Obj)} {σ : L2.St} {H : Hp} {s : Shared} {Q : VK} {us : List Value} {vs : List V} {A : Around}
theorem own_run (F : FnOk X.prog X.w X.K X.mg X.base (L2N.CX X.prog X.w) k f fd ps sp) (hb : Binds X.K fd ps []) (hr : Room k A) (e0 : Env0 X.prog X.w X.K X.mg X.base A X.stack s H) (I : Inv X pins σ H s) (r : Vals vs us) (h : sp vs H Q E0) :
    wpAny (model X.prog X.w) A (call (.ref f) us) (EP X pins σ Q) X.xe s := by
  have hl : us.length = ps.length := by rw [← Paired.length r]; exact F.len _ _ _ _ h
  refine wpAny_call (codeAny_mono (F.run A X.stack s H ⟨us, []⟩ us vs Q E0 hr e0 (by have := hb s us I.kIn (by simpa using hl); simpa using this) r h) fun rr s' hq => ?_)
  cases rr with
  | error e => exact passN0 pins σ H s e s' I hq
  | ok fl =>
    cases fl with
    | ret u => exact I.after hq
    | next => exact False.elim hq
    | brk => exact False.elim hq
    | cont => exact False.elim hq
def uEqO (K : PySem.W.Frag) (C : Addr) (sp : Sp) : R2 := fun x y H Q => ∃ a dx fs t, x = .ref a ∧ H a = some (.ins C dx fs) ∧ TyX K H y t ∧ PySem.W.notFirst K C t = true ∧ sp [x, y] H Q E0
def uNeO (K : PySem.W.Frag) (C : Addr) (sp : Sp) : R2 := fun x y H Q => ∃ a dx fs t, x = .ref a ∧ H a = some (.ins C dx fs) ∧ TyX K H y t ∧ PySem.W.notFirst K C t = true ∧ sp [x, y] H (fun v H' => ∃ b, v = .bl b ∧ Q (.bl (!b)) H') E0
theorem back_of {P : Value → Shared → Prop} {z : V} {v : Value} {s' : Shared} (r : RelV z v) (h : P v s') : PySem.W.CmpBack P v s' := by
  cases z <;> first
    | (cases (show v = _ from r); exact h)
    | (obtain ⟨t, e⟩ := r; cases e; exact h)
    | (cases r; exact h)
theorem op_eqO (m : Meth X.K C "__eq__" f) (h : Ok X.prog X.w X.K X.mg X.base k f ps [] sp) (hr : Room j X.A) (hj : k ≤ j) : OpR X (compareOp .Eq) (uEqO X.K C sp) := by
  obtain ⟨fd, ds, F, kp, v, b⟩ := h
  cases v
  intro pins s σ H x y v u Q I rx ry h
  obtain ⟨a, dx, fs, t, rfl, ha, ty, hn, q⟩ := h
  cases (show v = Value.ref a from rx)
  obtain ⟨mA, J, _⟩ := ins_get I.hok ha
  obtain ⟨od, J, _⟩ := J.look
  obtain ⟨P, Z, p, hx⟩ := kit_of I ry ty
  obtain ⟨mm, hF⟩ := I.fr
  refine PySem.W.cmp_K (op := .Eq) (tb := t) (hr.mono hj).units0 hF I.ok.mod.kin J (Z.ty _ _ I.kIn p) hn m.at_ m.fn ?_
  refine wpAny_mono (own_run (us := [.ref a, u]) (vs := [.ref a, y]) F b (hr.mono hj) I.env0 I (.cons rfl (.cons ry .nil)) q) (fun w s' z => ?_) fun _ _ x => x
  obtain ⟨z', H', I', rz, qz⟩ := z
  exact back_of rz ⟨z', H', I', rz, qz⟩
end
section
variable {M : Model} {prog : Program} {w : World} {A : Around} {E : Value → Shared → Prop} {s : Shared} {K : PySem.W.Frag} {x C f : Addr} {ox : Obj} {od : Option Obj} {y : Value}
theorem entry_neO {Q : Fin → Shared → Prop} (hu : A.units < cLine) (X : K.In s.heap) (I : PySem.W.InstAt s.heap x ox C od) (hs : PySem.W.findIn K (.ref C) "__eq__" = some (some (.ref f))) (hf : PySem.W.isFn K (.ref f) = true)
    (h : wpAny M A (call (.ref f) [.ref x, y]) (fun v s' => ∃ b, v = .bool b ∧ Q (.done (.ret (.bool (!b)))) s') E s) : wpAny M A (Builtin.«object.__ne__» ⟨[.ref x, y], []⟩) Q E s := by
  unfold Builtin.«object.__ne__»
  repeat (first
    | with_reducible refine wpAny_cRoomFor hu ?_
    | (refine wpAny_bind (m := callSpecialIfBound? (.ref x) (Str.ofString "__eq__") [y])
        (PySem.W.ifBound_K X I hs hf (wpAny_mono h (fun r s' hr => by
          obtain ⟨b, rfl, hq⟩ := hr
          repeat (first | exact hq | exact wpAny_pure hq | exact wpAny_truthy_bool hq | (refine wpAny_bind (m := truthy (.bool _)) (wpAny_truthy_bool ?_)) | wp_step)) fun _ _ e => e)))
    | wp_step)
theorem ifBound_objNe {args : List Value} {Q : Option Value → Shared → Prop} (X : K.In s.heap) (I : PySem.W.InstAt s.heap x ox C od) (hs : PySem.W.findIn K (.ref C) "__ne__" = some (some (.builtin "object.__ne__")))
    (h : wpAny M A (call (.builtin "object.__ne__") (.ref x :: args)) (fun v => Q (some v)) E s) : wpAny M A (callSpecialIfBound? (.ref x) "__ne__" args) Q E s := by
  simp only [callSpecialIfBound?, bindSpecialIfBound?]
  refine wpAny_holding (wpAny_bind (wpAny_bind (wpAny_bind (I.type.here ((PySem.W.looks_findIn X hs).here ?_)))))
  refine wpAny_bind (wpAny_askSetting (wpAny_ite ?_))
  have fin : wpAny M A (call (.builtin "object.__ne__") ([.ref x] ++ args) >>= fun v => pure (some v)) Q E s := wpAny_bind (wpAny_mono h (fun v s' h' => wpAny_pure h') fun _ _ h' => h')
  split
  · exact wpAny_bind (wpAny_of_eq (F.cmp_object.ne.bind _) (wpAny_pure (by exact fin)))
  · exact wpAny_tryCatch (wpAny_bind (wpAny_of_eq (F.cmp_object.ne.bind _) (wpAny_pure (by exact fin))))
theorem neO_K {t : Value} {Q : Value → Shared → Prop} (hu : A.units + 1 < cLine) (X : K.In s.heap) (I : PySem.W.InstAt s.heap x ox C od) (hb : PySem.W.Looks (model prog w) s.heap (typeOf y) t) (hn : PySem.W.notFirst K C t = true)
    (hne : PySem.W.findIn K (.ref C) "__ne__" = some (some (.builtin "object.__ne__"))) (hm : PySem.W.mroIn K C (.type "object") = some true)
    (hs : PySem.W.findIn K (.ref C) "__eq__" = some (some (.ref f))) (hf : PySem.W.isFn K (.ref f) = true)
    (h : wpAny (model prog w) A.in1 (call (.ref f) [.ref x, y]) (fun v s' => ∃ b, v = .bool b ∧ Q (.bool (!b)) s') E s) : wpAny (model prog w) A (richCompare .NotEq (.ref x) y) Q E s := by
  have one : wpAny (model prog w) A (tryCompare (.ref x) "__ne__" y) (fun r s' => ∃ v, r = some v ∧ Q v s') E s := by
    unfold tryCompare
    refine wpAny_bind (ifBound_objNe X I hne (wpAny_call (codeAny_call_builtin F.cmp_object.ne.plain F.cmpEntry_ne (PySem.W.check_slot F.cmpKind_ne F.cmpSplit_ne (I.type.andThen (PySem.W.looks_mroIn X hm)) (F.cmpArgs_ne _ _)
      (entry_neO (A := A.in1) hu X I hs hf (wpAny_mono h (fun v s' hv => ?_) fun _ _ e => e))))))
    obtain ⟨b, rfl, hq⟩ := hv
    first | exact ⟨b, rfl, wpAny_pure ⟨_, rfl, hq⟩⟩ | exact ⟨b, rfl, wpAny_pure (wpAny_pure ⟨_, rfl, hq⟩)⟩ | exact ⟨b, rfl, ⟨_, rfl, hq⟩⟩
  unfold richCompare
  simp only [oneThing_ref]
  refine wpAny_holding (wpAny_bind (wpAny_cRoomFor (Nat.lt_of_succ_lt hu) ?_))
  rw [cmpInfo_NotEq]
  dsimp only
  refine wpAny_bind (I.type.here (wpAny_bind (hb.here ?_)))
  split
  · rename_i q
    have e : PySem.W.subIn K t (.ref C) = some false := by
      rcases Bool.or_eq_true_iff.mp hn with e | e
      · rw [beq_iff_eq.mp e] at q; simp at q
      · exact beq_iff_eq.mp e
    refine wpAny_bind ((PySem.W.looks_subIn X e).here ?_)
    simp only [Bool.false_eq_true, if_false]
    refine wpAny_bind (wpAny_mono one (fun r s' z => ?_) fun _ _ e => e)
    obtain ⟨v, rfl, hq⟩ := z
    exact wpAny_pure hq
  · refine wpAny_bind (wpAny_pure ?_)
    simp only [Bool.false_eq_true, if_false]
    refine wpAny_bind (wpAny_mono one (fun r s' z => ?_) fun _ _ e => e)
    obtain ⟨v, rfl, hq⟩ := z
    exact wpAny_pure hq
theorem containsO {Q : Bool → Shared → Prop} (X : K.In s.heap) (I : PySem.W.InstAt s.heap x ox C od) (hs : PySem.W.findIn K (.ref C) "__contains__" = some (some (.ref f))) (hf : PySem.W.isFn K (.ref f) = true)
    (h : wpAny M A (call (.ref f) [.ref x, y]) (fun v s' => ∃ b, v = .bool b ∧ Q b s') E s) : wpAny M A (contains (.ref x) y) Q E s := by
  unfold contains
  refine wpAny_holding ?_
  rw [stdlibNamesSay?_ref]
  refine wpAny_bind (m := specialOf (.ref x) (Str.ofString "__contains__")) (wpAny_bind (I.type.here ((PySem.W.looks_findIn X hs).here ?_)))
  show wpAny M A (if (some (Value.ref f) == some Value.none) = true then _ else _) Q E s
  rw [if_neg (by simp)]
  refine wpAny_bind (m := callSpecialUnlessNone? (.ref x) (Str.ofString "__contains__") [y] _) ?_
  refine wpAny_bind (m := specialOf (.ref x) (Str.ofString "__contains__")) (wpAny_bind (I.type.here ((PySem.W.looks_findIn X hs).here ?_)))
  refine wpAny_holding (wpAny_bind ((PySem.W.bind_fn X _ (beq_iff_eq.mp hf)).here ?_))
  show wpAny M A (if (Value.ref f == Value.none) = true then _ else _) _ E s
  rw [if_neg (by simp)]
  refine wpAny_bind (wpAny_mono h (fun v s' hv => ?_) fun _ _ e => e)
  obtain ⟨b, rfl, hq⟩ := hv
  exact wpAny_pure (wpAny_truthy_bool hq)
theorem lenO {Q : Value → Shared → Prop} (X : K.In s.heap) (I : PySem.W.InstAt s.heap x ox C od) (hs : PySem.W.findIn K (.ref C) "__len__" = some (some (.ref f))) (hf : PySem.W.isFn K (.ref f) = true)
    (h : wpAny (model prog w) A.in1 (call (.ref f) [.ref x]) (fun v s' => ∃ (n : Int) (t : Tok), v = .int n t ∧ 0 ≤ n ∧ n < 2 ^ 63 ∧ ∀ t', Q (.int n t') { s' with toks := s'.toks + 1 }) E s) : wpAny (model prog w) A (call (.builtin "len") [.ref x]) Q E s := by
  refine Calls.call_function_entry kind_len plain_len entry_len (args_len1 _) ?_
  unfold Builtin.«len»
  refine wpAny_bind (m := oneArg "len" _) (wpAny_pure ?_)
  refine wpAny_bind (m := callSpecial? (.ref x) (Str.ofString "__len__")) (PySem.W.special_fn X I hs (beq_iff_eq.mp hf) (wpAny_mono h (fun v s' hv => ?_) fun _ _ e => e))
  obtain ⟨n, t, rfl, h0, h1, hq⟩ := hv
  refine wpAny_bind (wpAny_holding (wpAny_pure ?_))
  refine wpAny_bind (wpAny_letGo ?_)
  show wpAny _ _ (if n < 0 then _ else _) _ _ _
  rw [if_neg (by omega)]
  show wpAny _ _ (if n ≥ 2 ^ 63 then _ else _) _ _ _
  rw [if_neg (by omega)]
  exact wpAny_bind (wpAny_mkInt (wpAny_pure ⟨_, rfl, hq _⟩))
end
section
variable {X : Cx} {k j : Nat} {f C : Addr} {ps : List Str} {sp : Sp} {p pos : Pos} {fe e : Expr} {es : List Expr} {tf : TE} {t : TA} {W : WX}
theorem op_neO (m : Meth X.K C "__eq__" f) (h : Ok X.prog X.w X.K X.mg X.base k f ps [] sp) (hne : PySem.W.findIn X.K (.ref C) "__ne__" = some (some (.builtin "object.__ne__"))) (hm : PySem.W.mroIn X.K C (.type "object") = some true)
    (hr : Room j X.A) (hj : k + 1 ≤ j) : OpR X (compareOp .NotEq) (uNeO X.K C sp) := by
  obtain ⟨fd, ds, F, kp, v, b⟩ := h
  cases v
  intro pins s σ H x y v u Q I rx ry h
  obtain ⟨a, dx, fs, t, rfl, ha, ty, hn, q⟩ := h
  cases (show v = Value.ref a from rx)
  obtain ⟨mA, J, _⟩ := ins_get I.hok ha
  obtain ⟨od, J, _⟩ := J.look
  obtain ⟨P, Z, p, hx⟩ := kit_of I ry ty
  show wpAny _ _ (richCompare .NotEq (.ref a) u) _ _ _
  have hr1 := hr.mono hj
  refine neO_K (by have := hr1.un; omega) I.kIn J (Z.ty _ _ I.kIn p) hn hne hm m.at_ m.fn ?_
  refine wpAny_mono (own_run (us := [.ref a, u]) (vs := [.ref a, y]) F b hr1.in1 I.env0.in1 I (.cons rfl (.cons ry .nil)) q) (fun w s' z => ?_) fun _ _ x => x
  obtain ⟨z', H', I', rz, bb, rfl, qz⟩ := z
  obtain rfl : w = Value.bool bb := rz
  exact ⟨bb, rfl, V.bl (!bb), H', I', rfl, qz⟩
def uLenO (C : Addr) (sp : Sp) : List V → Hp → VK → Prop := fun xs H Q => ∃ a dx fs, xs = [.ref a] ∧ H a = some (.ins C dx fs) ∧ sp [.ref a] H (fun v H' => ∃ n : Int, v = .int n ∧ 0 ≤ n ∧ n < 2 ^ 63 ∧ Q (.int n) H') E0
theorem call_lenO (m : Meth X.K C "__len__" f) (h : Ok X.prog X.w X.K X.mg X.base k f ps [] sp) (hr : Room j X.A) (hj : k + 1 ≤ j) : CallR X (.builtin "len") (uLenO C sp) := by
  obtain ⟨fd, ds, F, kp, v, b⟩ := h
  cases v
  intro pins s σ H xs us Q I r h
  obtain ⟨a, dx, fs, rfl, ha, q⟩ := h
  obtain ⟨u, rfl, ru⟩ := r.one
  cases (show u = Value.ref a from ru)
  obtain ⟨mA, J, _⟩ := ins_get I.hok ha
  obtain ⟨od, J, _⟩ := J.look
  refine lenO I.kIn J m.at_ m.fn ?_
  refine wpAny_mono (own_run (us := [.ref a]) (vs := [.ref a]) F b (hr.mono hj).in1 I.env0.in1 I (.cons rfl .nil) q) (fun w s' z => ?_) fun _ _ x => x
  obtain ⟨z', H', I', rz, n, rfl, h0, h1, qz⟩ := z
  obtain ⟨t, rfl⟩ := (show ∃ t, w = Value.int n t from rz)
  exact ⟨n, t, rfl, h0, h1, fun t' => ⟨V.int n, H', I'.tok _, ⟨t', rfl⟩, qz⟩⟩
def uInO (C : Addr) (sp : Sp) (g : Bool → Bool) : R2 := fun x y H Q => ∃ a dx fs, y = .ref a ∧ H a = some (.ins C dx fs) ∧ sp [y, x] H (fun v H' => ∃ b, v = .bl b ∧ Q (.bl (g b)) H') E0
theorem op_inO (m : Meth X.K C "__contains__" f) (h : Ok X.prog X.w X.K X.mg X.base k f ps [] sp) (hr : Room j X.A) (hj : k ≤ j) : OpR X (compareOp .In) (uInO C sp id) := by
  obtain ⟨fd, ds, F, kp, v, b⟩ := h
  cases v
  intro pins s σ H x y v u Q I rx ry h
  obtain ⟨a, dx, fs, rfl, ha, q⟩ := h
  cases (show u = Value.ref a from ry)
  obtain ⟨mA, J, _⟩ := ins_get I.hok ha
  obtain ⟨od, J, _⟩ := J.look
  show wpAny _ _ (do return Value.bool (← contains (.ref a) v)) _ _ _
  refine wpAny_bind (containsO I.kIn J m.at_ m.fn (wpAny_mono (own_run (us := [.ref a, v]) (vs := [.ref a, x]) F b (hr.mono hj) I.env0 I (.cons rfl (.cons rx .nil)) q) (fun w s' z => ?_) fun _ _ x => x))
  obtain ⟨z', H', I', rz, bb, rfl, qz⟩ := z
  obtain rfl : w = Value.bool bb := rz
  exact ⟨bb, rfl, wpAny_pure ⟨V.bl bb, H', I', rfl, qz⟩⟩
theorem op_notInO (m : Meth X.K C "__contains__" f) (h : Ok X.prog X.w X.K X.mg X.base k f ps [] sp) (hr : Room j X.A) (hj : k ≤ j) : OpR X (compareOp .NotIn) (uInO C sp (!·)) := by
  obtain ⟨fd, ds, F, kp, v, b⟩ := h
  cases v
  intro pins s σ H x y v u Q I rx ry h
  obtain ⟨a, dx, fs, rfl, ha, q⟩ := h
  cases (show u = Value.ref a from ry)
  obtain ⟨mA, J, _⟩ := ins_get I.hok ha
  obtain ⟨od, J, _⟩ := J.look
  show wpAny _ _ (do return Value.bool (!(← contains (.ref a) v))) _ _ _
  refine wpAny_bind (containsO I.kIn J m.at_ m.fn (wpAny_mono (own_run (us := [.ref a, v]) (vs := [.ref a, x]) F b (hr.mono hj) I.env0 I (.cons rfl (.cons rx .nil)) q) (fun w s' z => ?_) fun _ _ x => x))
  obtain ⟨z', H', I', rz, bb, rfl, qz⟩ := z
  obtain rfl : w = Value.bool bb := rz
  exact ⟨bb, rfl, wpAny_pure ⟨V.bl (!bb), H', I', rfl, qz⟩⟩
def tCallI (C : Addr) (sp : Sp) (E : L2.St → XK) (tf : TE) (t : TA) : TE := fun σ H Q => tf σ H fun y H1 => ∃ a, y = V.ref a ∧ t σ H1 fun vs H2 => (∃ dx fs, H2 a = some (.ins C dx fs)) ∧ sp (V.ref a :: vs) H2 Q (E σ)
theorem pe_callI (hf : PE X fe tf) (c : Meth X.K C "__call__" f) (fi : PySem.W.fnIn X.K f = true) (h : Ok X.prog X.w X.K X.mg X.base k f ps [] sp) (hr : Room j X.A) (hj : k ≤ j) (tk : L2N.Takes X W) (ha : PA X (e :: es) t)
    (ht : eval (.Call fe (e :: es) [] pos) X.env = (do callWith pos (← eval fe X.env) [] (backTo pos (starEach (e :: es) X.env)) (backToKw pos (keywordEach [] X.env))) := by rfl)
    (he : starEach (e :: es) X.env = (false, eval e X.env) :: starEach es X.env := by rfl) (hpl : (backTo pos (starEach es X.env)).any (·.1) = false := by rfl) : PE X (.Call fe (e :: es) [] pos) (tCallI C sp (WE W) tf t) := by
  obtain ⟨fd, ds, F, kp, v, b⟩ := h
  cases v
  refine ⟨fun pins s σ H Q I h => ?_⟩
  refine Call_ (thn (hf.run pins s σ H _ I h) fun u s1 ⟨y, H1, I1, ry, a, ey, q⟩ => ?_) ht
  subst ey
  obtain rfl : u = Value.ref a := ry
  refine StX.callO_with (thn (ha.run pos pins s1 σ H1 _ I1 q) fun us s2 ⟨vs, H2, I2, r, hi, q2⟩ => ?_) he hpl
  obtain ⟨dx, fs, hi⟩ := hi
  obtain ⟨ox, od, J, hd⟩ := StX.insC_at I2 (.inr ⟨dx, fs, hi⟩)
  refine ⟨⟨C, ox, od, J, hd⟩, ?_⟩
  have hl : (Value.ref a :: us).length = ps.length := by
    have e1 := F.len _ _ _ _ q2
    rw [← e1]
    show us.length + 1 = vs.length + 1
    rw [← Paired.length r]
  refine wpAny_call (PySem.W.kco_code I2.kIn J hd c.at_ c.fn fi (codeAny_mono (F.run X.A X.stack s2 H2 ⟨.ref a :: us, []⟩ (.ref a :: us) (.ref a :: vs) Q (WE W σ) (hr.mono hj) I2.env0 (by have := b s2 (.ref a :: us) I2.kIn (by simpa using hl); simpa using this) (.cons rfl r) q2) fun rr s' hq => ?_))
  cases rr with
  | error e => exact L2N.passAt tk σ pins _ _ e s' I2 hq
  | ok fl =>
    cases fl with
    | ret u => exact I2.after hq
    | next => exact False.elim hq
    | brk => exact False.elim hq
    | cont => exact False.elim hq
end
/-! ### over data -/
section
variable {K : PySem.W.Frag} {w : WJ} {c : Str} {L : List Str} {W : WX} {tf : TE} {pf : TJ} {xa : TA} {qa : AJ}
structure OwnT (K : PySem.W.Frag) (C : Addr) : Prop where
  cl : Cls K C
  kx : kxB K C = true
theorem tyx_own {F : Hp} {s : Sto} {H : Hp} {v : V} {d : J} {c : Str} {fs : List (Str × J)} (t : Stt K F s H) (j : Jp K (mask F s H) v d) (e : objOf s d = some (c, fs)) (T : OwnT K (He.ga K c)) : TyX K H v (.ref (He.ga K c)) := by
  obtain ⟨a, dx, xs, rfl, h, r⟩ := jp_obj t j e
  have kx := T.kx
  unfold kxB at kx
  rw [Bool.and_eq_true, Bool.and_eq_true, Bool.and_eq_true, Bool.and_eq_true] at kx
  obtain ⟨k1, k2, k3, k4, k5⟩ := kx
  exact .base (.ins h T.cl (He.eqO_ok k2) (He.eqO_ok k3) (of_decide_eq_true k4) (of_decide_eq_true k5))
/-- what the other side of an own == may be -/
def sideJ (s : Sto) (L : List Str) (y : J) : Prop := (∃ t, tyJ s y = some t) ∨ ∃ c fs, objOf s y = some (c, fs) ∧ c ∈ L
theorem notFirst_ty {C : Addr} {t : String} (h : t ∈ tys7) : PySem.W.notFirst K C (.type t) = true := by
  have key : PySem.W.subIn K (.type t) (.ref C) = some false := by
    show (fastBuiltinMro t).map (·.contains (.ref C)) = some false
    unfold tys7 at h
    simp only [List.mem_cons, List.not_mem_nil, or_false] at h
    rcases h with rfl | rfl | rfl | rfl | rfl | rfl | rfl
    · rw [show fastBuiltinMro "NoneType" = some [.type "NoneType", .type "object"] by decide +kernel]; simp
    · rw [show fastBuiltinMro "bool" = some [.type "bool", .type "int", .type "object"] by decide +kernel]; simp
    · rw [show fastBuiltinMro "int" = some [.type "int", .type "object"] by decide +kernel]; simp
    · rw [show fastBuiltinMro "str" = some [.type "str", .type "object"] by decide +kernel]; simp
    · rw [show fastBuiltinMro "list" = some [.type "list", .type "object"] by decide +kernel]; simp
    · rw [show fastBuiltinMro "tuple" = some [.type "tuple", .type "object"] by decide +kernel]; simp
    · rw [show fastBuiltinMro "dict" = some [.type "dict", .type "object"] by decide +kernel]; simp
  unfold PySem.W.notFirst
  rw [key]
  simp
theorem side_of {F : Hp} {s : Sto} {H : Hp} {v : V} {d : J} {C : Addr} (t : Stt K F s H) (j : Jp K (mask F s H) v d) (h : sideJ s L d) (hL : ∀ c ∈ L, OwnT K (He.ga K c) ∧ PySem.W.notFirst K C (.ref (He.ga K c)) = true) :
    ∃ u, TyX K H v u ∧ PySem.W.notFirst K C u = true := by
  rcases h with ⟨n, e⟩ | ⟨c, fs, e, hc⟩
  · exact ⟨_, tyx_of t j e, notFirst_ty (tyJ_mem e)⟩
  · exact ⟨_, tyx_own t j e (hL c hc).1, (hL c hc).2⟩
def eqOJ (c : Str) (L : List Str) (w : WJ) (x y : J) (s : Sto) (Q : QJ) : Prop := (∃ fs, objOf s x = some (c, fs)) ∧ sideJ s L y ∧ w [x, y] s Q No
def neOJ (c : Str) (L : List Str) (w : WJ) (x y : J) (s : Sto) (Q : QJ) : Prop := (∃ fs, objOf s x = some (c, fs)) ∧ sideJ s L y ∧ w [x, y] s (fun d s' => ∃ b, d = .bl b ∧ Q (.bl (!b)) s') No
theorem no_x {F G : Hp} {E : XK} {c : Str} {fs : List (Str × J)} {s : Sto} (h : No c fs s) : Xk K F G E c fs s := h.elim
theorem so_eqO (hL : ∀ c' ∈ L, OwnT K (He.ga K c') ∧ PySem.W.notFirst K (He.ga K c) (.ref (He.ga K c')) = true) : So K (uEqO K (He.ga K c) (spJ K w)) (eqOJ c L w) := by
  intro F s H v u x y Q QV t jx jy hQ h
  obtain ⟨⟨fs, e⟩, hy, q⟩ := h
  obtain ⟨a, dx, xs, rfl, h1, r⟩ := jp_obj t jx e
  obtain ⟨ty, h2, h3⟩ := side_of t jy hy hL
  exact ⟨a, dx, xs, ty, rfl, h1, h2, h3, F, s, [x, y], Q, No, .cons jx (.cons jy .nil), t, hQ, fun _ _ _ z => z.elim, q⟩
theorem so_neO (hL : ∀ c' ∈ L, OwnT K (He.ga K c') ∧ PySem.W.notFirst K (He.ga K c) (.ref (He.ga K c')) = true) : So K (uNeO K (He.ga K c) (spJ K w)) (neOJ c L w) := by
  intro F s H v u x y Q QV t jx jy hQ h
  obtain ⟨⟨fs, e⟩, hy, q⟩ := h
  obtain ⟨a, dx, xs, rfl, h1, r⟩ := jp_obj t jx e
  obtain ⟨ty, h2, h3⟩ := side_of t jy hy hL
  refine ⟨a, dx, xs, ty, rfl, h1, h2, h3, F, s, [x, y], _, No, .cons jx (.cons jy .nil), t, fun d s' h => ?_, fun _ _ _ z => z.elim, q⟩
  obtain ⟨b, rfl, q⟩ := h
  intro v' H' l st j
  cases j
  exact ⟨b, rfl, hQ _ s' q _ H' l st (.bl _)⟩
def lenOJ (c : Str) (w : WJ) (xs : List J) (s : Sto) (Q : QJ) : Prop := ∃ x, xs = [x] ∧ (∃ fs, objOf s x = some (c, fs)) ∧ w [x] s (fun d s' => ∃ n : Int, d = .int n ∧ 0 ≤ n ∧ n < 2 ^ 63 ∧ Q (.int n) s') No
theorem sf_lenO : Sf K (uLenO (He.ga K c) (spJ K w)) (lenOJ c w) := by
  intro F s H v x Q QV t js hQ h
  obtain ⟨y, rfl, ⟨fs, e⟩, q⟩ := h
  obtain ⟨u, rfl, j⟩ := jps1 js
  obtain ⟨a, dx, xs, rfl, h1, r⟩ := jp_obj t j e
  refine ⟨a, dx, xs, rfl, h1, F, s, [y], _, No, .cons j .nil, t, fun d s' h => ?_, fun _ _ _ z => z.elim, q⟩
  obtain ⟨n, rfl, h0, h2, q⟩ := h
  intro v' H' l st j
  cases j
  exact ⟨n, rfl, h0, h2, hQ _ s' q _ H' l st (.int _)⟩
def inOJ (c : Str) (w : WJ) (g : Bool → Bool) (x y : J) (s : Sto) (Q : QJ) : Prop := (∃ fs, objOf s y = some (c, fs)) ∧ w [y, x] s (fun d s' => ∃ b, d = .bl b ∧ Q (.bl (g b)) s') No
theorem so_inO {g : Bool → Bool} : So K (uInO (He.ga K c) (spJ K w) g) (inOJ c w g) := by
  intro F s H v u x y Q QV t jx jy hQ h
  obtain ⟨⟨fs, e⟩, q⟩ := h
  obtain ⟨a, dx, xs, rfl, h1, r⟩ := jp_obj t jy e
  refine ⟨a, dx, xs, rfl, h1, F, s, [y, x], _, No, .cons jy (.cons jx .nil), t, fun d s' h => ?_, fun _ _ _ z => z.elim, q⟩
  obtain ⟨b, rfl, q⟩ := h
  intro v' H' l st j
  cases j
  exact ⟨b, rfl, hQ _ s' q _ H' l st (.bl _)⟩
def jCallI (c : Str) (w : WJ) (p : TJ) (a : AJ) : TJ := fun ρ s Q R => p ρ s (fun x s1 => (∃ fs, objOf s1 x = some (c, fs)) ∧ a ρ s1 (fun ds s2 => (∃ fs, objOf s2 x = some (c, fs)) ∧ w (x :: ds) s2 Q R) R) R
theorem se_callI (hf : Se K W tf pf) (hx : Sa K W xa qa) : Se K W (tCallI (He.ga K c) (spJ K w) (WE W) tf xa) (jCallI c w pf qa) := by
  intro F ρ s σ H Q R QV a hQ hR h
  refine hf F ρ s σ H _ R _ a (fun x s1 h1 v1 H1 l1 st1 j1 => ?_) hR h
  obtain ⟨⟨fs, e⟩, h1⟩ := h1
  obtain ⟨b, dx, xs, rfl, eb, r⟩ := jp_obj st1 j1 e
  refine ⟨b, rfl, ?_⟩
  refine hx F ρ s1 σ H1 _ R _ (a.to l1 st1) (fun ds s2 h2 vs H2 l2 st2 j2 => ?_) (fun c fs s' hr => (hR c fs s' hr).up l1) h1
  obtain ⟨⟨fs2, e2⟩, h2⟩ := h2
  obtain ⟨b', dx2, xs2, eq2, eb2, _⟩ := jp_obj st2 (j1.up l2) e2
  cases eq2
  exact ⟨⟨dx2, xs2, eb2⟩, F, s2, x :: ds, Q, R, .cons (j1.up l2) j2, st2, fun d s' q => (hQ d s' q).up (l1.trans l2), fun c fs s' hr => (hR c fs s' hr).up (l1.trans l2), h2⟩
/-! ### isinstance of an own class -/
def isoJ (c : Str) (tab : List (Str × Bool)) (xs : List J) (s : Sto) (Q : QJ) : Prop := ∃ x, xs = [x, .cls c] ∧ ((∃ t, tyJ s x = some t ∧ Q (.bl false) s) ∨ ∃ c' fs b, objOf s x = some (c', fs) ∧ tab.lookup c' = some b ∧ Q (.bl b) s)
theorem lookup_mem {α β : Type} [BEq α] [LawfulBEq α] {a : α} {b : β} : ∀ {l : List (α × β)}, l.lookup a = some b → (a, b) ∈ l
  | [], h => by cases h
  | (k, v) :: r, h => by
    unfold List.lookup at h
    split at h
    · rename_i e
      cases h
      rw [eq_of_beq e]
      exact List.mem_cons_self
    · exact List.mem_cons_of_mem _ (lookup_mem h)
theorem sf_iso {c : Str} {tab : List (Str × Bool)} (h1 : ∀ t ∈ tys7, PySem.W.kitOne K (.type t) (.ref (He.ga K c)) = some false) (h2 : ∀ p ∈ tab, PySem.W.kitOne K (.ref (He.ga K p.1)) (.ref (He.ga K c)) = some p.2) (h3 : ∀ x ∈ tab.map Prod.fst, OwnT K (He.ga K x)) : Sf K (rIsi K) (isoJ c tab) := by
  intro F s H v x Q QV t js hQ h
  obtain ⟨y, rfl, h⟩ := h
  obtain ⟨u, w, rfl, j1, j2⟩ := jps2 js
  cases j2
  rcases h with ⟨n, e, q⟩ | ⟨c', fs, b, e, l, q⟩
  · exact ⟨u, _, .type n, .ref (He.ga K c), _, rfl, .own _, tyx_of t j1 e, h1 n (tyJ_mem e), hQ _ s q _ H .refl t (.bl _)⟩
  · have m := lookup_mem l
    exact ⟨u, _, .ref (He.ga K c'), .ref (He.ga K c), _, rfl, .own _, tyx_own t j1 e (h3 c' (List.mem_map.mpr ⟨_, m, rfl⟩)), h2 _ m, hQ _ s q _ H .refl t (.bl _)⟩
end
section
variable {s : Sto} {Q : QJ} {R : XJ} {x y : J}
theorem y_iso_t {c : Str} {tab : List (Str × Bool)} {t : String} (e : tyJ s x = some t) (q : Q (.bl false) s) : isoJ c tab [x, .cls c] s Q := ⟨x, rfl, .inl ⟨t, e, q⟩⟩
theorem y_iso_o {c c' : Str} {tab : List (Str × Bool)} {fs : List (Str × J)} {b : Bool} (q : Q (.bl b) s) (l : tab.lookup c' = some b := by with_unfolding_all rfl) : isoJ c tab [.obj c' fs, .cls c] s Q := ⟨_, rfl, .inr ⟨c', fs, b, rfl, l, q⟩⟩
theorem y_eqO {c : Str} {L : List Str} {w : WJ} {fs : List (Str × J)} (hy : sideJ s L y) (q : w [.obj c fs, y] s Q No) : eqOJ c L w (.obj c fs) y s Q := ⟨⟨fs, rfl⟩, hy, q⟩
theorem y_neO {c : Str} {L : List Str} {w : WJ} {fs : List (Str × J)} (hy : sideJ s L y) (q : w [.obj c fs, y] s (fun d s' => ∃ b, d = .bl b ∧ Q (.bl (!b)) s') No) : neOJ c L w (.obj c fs) y s Q := ⟨⟨fs, rfl⟩, hy, q⟩
theorem y_lenO {c : Str} {w : WJ} {fs : List (Str × J)} (q : w [.obj c fs] s (fun d s' => ∃ n : Int, d = .int n ∧ 0 ≤ n ∧ n < 2 ^ 63 ∧ Q (.int n) s') No) : lenOJ c w [.obj c fs] s Q := ⟨_, rfl, ⟨fs, rfl⟩, q⟩
theorem y_inO {c : Str} {w : WJ} {g : Bool → Bool} {fs : List (Str × J)} (q : w [.obj c fs, x] s (fun d s' => ∃ b, d = .bl b ∧ Q (.bl (g b)) s') No) : inOJ c w g x (.obj c fs) s Q := ⟨⟨fs, rfl⟩, q⟩
theorem side_obj {L : List Str} {c : Str} {fs : List (Str × J)} (h : c ∈ L) : sideJ s L (.obj c fs) := .inr ⟨c, fs, rfl, h⟩
theorem side_ty {L : List Str} {t : String} (h : tyJ s y = some t) : sideJ s L y := .inl ⟨t, h⟩
def CallX (s : Sto) (c : Str) (x : J) (P : Prop) : Prop := (∃ fs, objOf s x = some (c, fs)) ∧ P
theorem y_callI {c : Str} {w : WJ} {p : TJ} {a : AJ} {ρ : Rho} (h : p ρ s (fun x s1 => CallX s1 c x (a ρ s1 (fun ds s2 => CallX s2 c x (w (x :: ds) s2 Q R)) R)) R) : jCallI c w p a ρ s Q R := h
theorem y_callX {c : Str} {fs : List (Str × J)} {P : Prop} (h : P) : CallX s c (.obj c fs) P := ⟨⟨fs, rfl⟩, h⟩
end
end M

namespace M
open PySem PySem.Spec PyProof.Rows L2
/-! ## sets of keys of one kind, with tables that can be walked -/
theorem prd_perm {α β : Type} {R : α → β → Prop} {l' l : List α} (p : l'.Perm l) : ∀ {m : List β}, Paired R l m → ∃ m', m'.Perm m ∧ Paired R l' m' := by
  induction p with
  | nil => exact fun h => ⟨_, .refl _, h⟩
  | cons x _ ih =>
    intro m h
    cases h with | cons a r =>
    obtain ⟨m', q1, q2⟩ := ih r
    exact ⟨_ :: m', q1.cons _, .cons a q2⟩
  | swap x y l =>
    intro m h
    cases h with | cons a r =>
    cases r with | cons b r =>
    exact ⟨_, .swap _ _ _, .cons b (.cons a r)⟩
  | trans _ _ ih1 ih2 =>
    intro m h
    obtain ⟨m1, q1, h1⟩ := ih2 h
    obtain ⟨m2, q2, h2⟩ := ih1 h1
    exact ⟨m2, q2.trans q1, h2⟩
theorem prd_mem {α β : Type} {R : α → β → Prop} : ∀ {l : List α} {m : List β}, Paired R l m → ∀ y ∈ m, ∃ x ∈ l, R x y
  | _, _, .cons a r, y, h => by
    rcases List.mem_cons.mp h with rfl | h
    · exact ⟨_, List.mem_cons_self, a⟩
    · obtain ⟨x, hx, q⟩ := prd_mem r y h
      exact ⟨x, List.mem_cons_of_mem _ hx, q⟩
theorem prd_mem' {α β : Type} {R : α → β → Prop} : ∀ {l : List α} {m : List β}, Paired R l m → ∀ x ∈ l, ∃ y ∈ m, R x y
  | _, _, .cons a r, y, h => by
    rcases List.mem_cons.mp h with rfl | h
    · exact ⟨_, List.mem_cons_self, a⟩
    · obtain ⟨x, hx, q⟩ := prd_mem' r y h
      exact ⟨x, List.mem_cons_of_mem _ hx, q⟩
section
variable {P : Program} {w : World} {κ : Type} [DecidableEq κ] {kd : PySem.KeyKind P w κ}
def RowK (kd : PySem.KeyKind P w κ) (e : Int × Value) (k : κ) : Prop := kd.is k e.2 = true ∧ e.1 = kd.hash k ∧ e.2.scannable = true
/-- the set at a holds the keys ks -/
def KeySet (kd : PySem.KeyKind P w κ) (hp : Heap) (a : Addr) (ks : List κ) : Prop := ∃ o es ep t, hp.get? a = some o ∧ o.ExactSet ∧ o.data = .set es ep t ∧ Paired (RowK kd) es.toList ks ∧ ks.Nodup ∧
  (es.size < scanBound ∧ t.fits es.size = true) ∧ Ris t.place.toList ∧ (w.params.followText "set-order" = true ∨ t.led = true)
theorem KeySet.to {hp hp' : Heap} {a : Addr} {ks : List κ} (R : KeySet kd hp a ks) (z : ∀ o, hp.get? a = some o → hp'.get? a = some o) : KeySet kd hp' a ks := by
  obtain ⟨ob, es, ep, tb, e, rest⟩ := R
  exact ⟨ob, es, ep, tb, z ob e, rest⟩
theorem rows_el {l : List (Int × Value)} {ks : List κ} (R : Paired (RowK kd) l ks) : ElemsOf kd l := fun e he => by
  obtain ⟨k, _, q1, q2, q3⟩ := prd_mem' R e he
  exact ⟨⟨k, q1, q2⟩, q3⟩
theorem rows_in {l : List (Int × Value)} {ks : List κ} (R : Paired (RowK kd) l ks) (k : κ) : k ∈ ks ↔ ∃ e ∈ l, kd.is k e.2 = true := by
  constructor
  · intro hk
    obtain ⟨e, he, q, _⟩ := prd_mem R k hk
    exact ⟨e, he, q⟩
  · rintro ⟨e, he, q⟩
    obtain ⟨j, hj, q1, _⟩ := prd_mem' R e he
    rw [kd.inj e.2 k j q q1]
    exact hj
theorem KeySet.type {s : Shared} {a : Addr} {ks : List κ} (R : KeySet kd s.heap a ks) : s.TypeIs (.ref a) "set" := by
  obtain ⟨ob, _, _, _, e, ex, _⟩ := R
  exact ⟨ob, e, ex.1⟩
end
section
variable {P : Program} {w : World} {κ : Type} [DecidableEq κ] {kd : PySem.KeyKind P w κ} {A : Around} {E : Value → Shared → Prop} {s : Shared} {a : Addr} {ks : List κ}
theorem laid_at {hp : Heap} {b : Addr} {ob : Obj} {e1 e2 : Array (Int × Value)} {ep : Nat} {t1 t2 : SetTable} (q : hp.get? b = some ob) (qd : ob.data = .set e1 ep t1) :
    (hp.update b (Obj.putSet e2 t2)).get? b = some { ob with data := .set e2 (ep + 1) t2 } := L2.store_at q qd
theorem key_tail {g : Bool → Sem Unit} (hg : ∀ (b : Bool) (s1 : Shared) (Q1 : Unit → Shared → Prop), Q1 () s1 → wpAny (model P w) A (g b) Q1 E s1)
    {ob : Obj} {es : Array (Int × Value)} {ep : Nat} {tb : SetTable} (q : s.heap.get? a = some ob) (ex : ob.ExactSet) (qd : ob.data = .set es ep tb) {es1 : Array (Int × Value)} {t1 : SetTable} {ks1 : List κ}
    (pr : Paired (RowK kd) es1.toList ks1) (nd : ks1.Nodup) (sz : es1.size < scanBound) (ft : t1.fits es1.size = true) (ri : Ris t1.place.toList) (le : w.params.followText "set-order" = true ∨ t1.led = true)
    {was : Bool} {R : Option Bool → Shared → Prop} (hR : ∀ hp ks2, Heap.SameBut a s.heap hp → KeySet kd hp a ks2 → ks2.Perm ks1 → R (some true) { s with heap := hp }) :
    wpAny (model P w) A (do
        storeSet a es1 t1
        if (!was && t1.tooFull) = true then do
            g (relayAll t1 es1 (SetTable.grown es1.size)).2.2
            storeSet a (relayAll t1 es1 (SetTable.grown es1.size)).1 (relayAll t1 es1 (SetTable.grown es1.size)).2.1
            pure (some true)
          else pure (some true)) R E s := by
  have at1 := laid_at (e2 := es1) (t2 := t1) q qd
  have same1 := Heap.SameBut.update s.heap a (Obj.putSet es1 t1)
  refine wpAny_bind (wpAny_storeSet_of q qd ?_ (fits_of_scanBound sz))
  by_cases full : (!was && t1.tooFull) = true
  · rw [if_pos full]
    have z1 := relayAll_perm t1 es1 (SetTable.grown es1.size)
    have z2 := relayAll_fits t1 es1 (SetTable.grown es1.size)
    have z3 := relayAll_ris t1 es1 (SetTable.grown es1.size)
    have z4 := relayAll_led t1 es1 (SetTable.grown es1.size)
    generalize relayAll t1 es1 (SetTable.grown es1.size) = Y at z1 z2 z3 z4 ⊢
    obtain ⟨es2, t2, gv⟩ := Y
    dsimp only at z1 z2 z3 z4 ⊢
    have same : es2.size = es1.size := by rw [← Array.length_toList, z1.length_eq, Array.length_toList]
    obtain ⟨ks2, p2, pr2⟩ := prd_perm z1 pr
    refine wpAny_bind (hg _ _ _ (wpAny_bind (wpAny_storeSet_of at1 rfl ?_ (fits_of_scanBound (same ▸ sz)))))
    exact wpAny_pure (hR _ ks2 (same1.trans (Heap.SameBut.update _ a _)) ⟨_, es2, _, t2, laid_at at1 rfl, ex, rfl, pr2, p2.nodup_iff.mpr nd, ⟨same ▸ sz, z2⟩, z3, le.imp id fun u => by rw [z4]; exact u⟩ p2)
  · rw [if_neg full]
    exact wpAny_pure (hR _ ks1 same1 ⟨_, es1, _, t1, at1, ex, rfl, pr, nd, ⟨sz, ft⟩, ri, le⟩ (.refl _))
theorem key_add {k : κ} {v : Value} {Q : Bool → Shared → Prop} (hv : kd.is k v = true) (sc : v.scannable = true) (R : KeySet kd s.heap a ks) (room : ks.length + 1 < scanBound)
    (hQ : ∀ b hp ks2, Heap.SameBut a s.heap hp → KeySet kd hp a ks2 → (∀ j, j ∈ ks2 ↔ j ∈ ks ∨ j = k) → ks2.length ≤ ks.length + 1 → Q b { s with heap := hp }) : wpAny (model P w) A (setAddHashed a v (kd.hash k)) Q E s := by
  obtain ⟨ob, es, ep, tb, q, ex, qd, pr, nd, ⟨sz, ft⟩, ri, le⟩ := R
  have el : ElemsOf kd es.toList := rows_el pr
  have lk : es.size = ks.length := by rw [← Array.length_toList, Paired.length pr]
  unfold setAddHashed setAddHashedIn
  refine wpAny_holding (wpAny_bind (wpAny_setState_of q qd ft ?_))
  dsimp only
  rw [byScan_of sc sz el]
  simp only [↓reduceIte]
  unfold setAddByScan
  refine wpAny_bind (wpAny_bind (wpAny_rule (wpAny_bind (wpAny_setScan_of hv q qd ft el ?_))))
  cases fi : List.findIdx? (fun e => kd.is k e.2) es.toList with
  | some j =>
    dsimp only
    obtain ⟨hj, pj, _⟩ := List.findIdx?_eq_some_iff_getElem.mp fi
    have inK : k ∈ ks := (rows_in pr k).2 ⟨es.toList[j], List.getElem_mem hj, pj⟩
    exact wpAny_pure (wpAny_pure (hQ _ s.heap ks (Heap.SameBut.refl a s.heap) ⟨ob, es, ep, tb, q, ex, qd, pr, nd, ⟨sz, ft⟩, ri, le⟩ (fun i => ⟨.inl, fun u => u.elim id fun e => e ▸ inK⟩) (Nat.le_succ _)))
  | none =>
    dsimp only
    have notK : k ∉ ks := fun u => by
      obtain ⟨e, he, qe⟩ := (rows_in pr k).1 u
      have := List.findIdx?_eq_none_iff.mp fi e he
      rw [qe] at this
      cases this
    have gw : ∀ (b : Bool) {s1 : Shared} {Q1 : Unit → Shared → Prop}, Q1 () s1 → wpAny (model P w) A (match b with | true => rule "set.scan.the-table-gave-way" | false => pure ()) Q1 E s1 := by
      intro b s1 Q1 u
      cases b with
      | true => exact wpAny_rule u
      | false => exact wpAny_pure u
    have z1 := layNew_perm tb es (kd.hash k) v
    have z2 := layNew_fits tb es (kd.hash k) v
    have z3 := layNew_ris tb es (kd.hash k) v ri
    have z4 := layNew_led tb es (kd.hash k) v
    generalize layNew tb es (kd.hash k) v = Y at z1 z2 z3 z4 ⊢
    obtain ⟨es1, t1, wd, gv⟩ := Y
    dsimp only at z1 z2 z3 z4 ⊢
    rw [Array.toList_push] at z1
    have z5 : es1.toList.Perm ((kd.hash k, v) :: es.toList) := z1.trans (List.perm_append_singleton _ _)
    obtain ⟨ks1, p1, pr1⟩ := prd_perm z5 (Paired.cons (show RowK kd (kd.hash k, v) k from ⟨hv, rfl, sc⟩) pr)
    have nd1 : ks1.Nodup := p1.nodup_iff.mpr (List.nodup_cons.mpr ⟨notK, nd⟩)
    have l1 : es1.size = ks.length + 1 := by rw [← Array.length_toList, Paired.length pr1, p1.length_eq, List.length_cons]
    have sz1 : es1.size < scanBound := by omega
    have led1 : w.params.followText "set-order" = true ∨ t1.led = true := le.imp id fun u => by rw [z4]; exact u
    have fin : ∀ b hp ks2, Heap.SameBut a s.heap hp → KeySet kd hp a ks2 → ks2.Perm ks1 → Q b { s with heap := hp } := fun b hp ks2 sb r p2 =>
      hQ b hp ks2 sb r (fun i => by rw [(p2.trans p1).mem_iff, List.mem_cons]; exact Or.comm) (by rw [(p2.trans p1).length_eq]; exact Nat.le_refl _)
    refine wpAny_bind (gw _ ?_)
    split
    · refine wpAny_bind ?_
      rw [hashByValue_scannable 8 sc]
      refine wpAny_pure (key_tail (kd := kd) (fun b s1 Q1 u => ?_) q ex qd pr1 nd1 sz1 ?_ ?_ ?_ fun hp ks2 sb r p2 => ?_)
      · cases b <;> first | exact wpAny_pure u | exact wpAny_rule u
      · first | (split <;> first | exact z2 | exact SetTable.fits_plain_off z2) | exact z2
      · first | (split <;> exact z3) | exact z3
      · first | (split <;> exact led1) | exact led1
      · dsimp only
        exact wpAny_pure (fin _ hp ks2 sb r p2)
    · refine wpAny_bind (wpAny_pure ?_)
      simp only [↓reduceIte]
      refine key_tail (kd := kd) (fun b s1 Q1 u => ?_) q ex qd pr1 nd1 sz1 z2 z3 led1 fun hp ks2 sb r p2 => ?_
      · cases b <;> first | exact wpAny_pure u | exact wpAny_rule u
      · dsimp only
        exact wpAny_pure (fin _ hp ks2 sb r p2)
/-- an empty set's object -/
def emptySet (w : World) : Obj := { cls := .type "set", dict := none, data := .set #[] 0 (.fresh 0 0 (!w.params.followText "set-order")) }
theorem keys_none {hp : Heap} (q : hp.get? a = some (emptySet w)) : KeySet kd hp a [] := by
  refine ⟨_, #[], 0, _, q, ⟨rfl, rfl, rfl⟩, rfl, .nil, List.nodup_nil, ⟨by decide, by rfl⟩, List.Pairwise.nil, ?_⟩
  show _ ∨ (!w.params.followText "set-order") = true
  cases e : w.params.followText "set-order"
  · exact .inr rfl
  · exact .inl rfl
theorem keys_loop {I : Addr} {fp wr : List Addr} {G : Array GenState → Array GenState → Prop} {n : Nat} {Pv : Nat → Value → Prop} {St : Nat → Shared → Prop} {R : Result → Shared → Prop}
    (W : WalksS P w A.in1 I fp wr G n Pv St) (b : Addr) (hb : b ∉ fp) (xs : List κ) (hn : n = xs.length) (few : xs.length + 1 < scanBound) (hv : ∀ i v, Pv i v → ∃ k, xs[i]? = some k ∧ kd.is k v = true ∧ v.scannable = true) :
    ∀ (m i : Nat) (s : Shared), n - i = m → i ≤ n → St i s → (∃ ks, KeySet kd s.heap b ks ∧ (∀ j, j ∈ ks ↔ j ∈ xs.take i) ∧ ks.length ≤ i) →
      (∀ s2 ks, Moved (b :: wr) G s s2 → KeySet kd s2.heap b ks → (∀ j, j ∈ ks ↔ j ∈ xs) → ks.length ≤ n → R (.ok (.ret .none)) s2) →
      codeAny (model P w) A (.builtin "set.update.loop" ⟨[.ref b, .ref I], []⟩) R s := by
  have out : b ∉ wr := fun u => hb (W.sub _ u)
  have inW : ∀ c ∈ wr, c ∈ b :: wr := fun c hc => List.mem_cons_of_mem _ hc
  intro m
  induction m with
  | zero =>
    intro i s e1 e2 st ⟨ks, r, me, le⟩ fin
    have ei : i = n := by omega
    subst ei
    refine codeAny_builtin F.entry_set_update_loop ?_
    rw [Around.under_plainId F.plain_set_update_loop _]
    show wpAny _ A.in1 (pyNext (.ref I) >>= _) _ _ s
    refine wpAny_bind (W.done s _ _ st fun s2 mv => ?_)
    show wpAny _ A.in1 (ret Value.none) _ _ s2
    exact wpAny_pure (fin s2 ks (mv.mono inW) (r.to fun o e => mv.heap b o out e) (fun j => by rw [me j, hn, List.take_length]) le)
  | succ m ih =>
    intro i s e1 e2 st ⟨ks, r, me, le⟩ fin
    have lt : i < n := by omega
    refine codeAny_builtin F.entry_set_update_loop ?_
    rw [Around.under_plainId F.plain_set_update_loop _]
    show wpAny _ A.in1 (pyNext (.ref I) >>= _) _ _ s
    refine wpAny_bind (W.item i s _ _ lt st fun v s2 pv st2 mv => ?_)
    obtain ⟨k, ek, hk, sc⟩ := hv i v pv
    have r2 := r.to fun o e => mv.heap b o out e
    show wpAny _ A.in1 (holding [v] (setAdd b v) >>= _) _ _ s2
    refine wpAny_bind (wpAny_holding ?_)
    unfold setAdd
    refine wpAny_holding (wpAny_bind (kd.pyHash hk ?_))
    refine key_add (s := { s2 with toks := s2.toks + 1 }) hk sc r2 (by omega) fun bb hp ks2 sb r3 me3 le3 => ?_
    refine wpAny_pure ⟨plainId_quiet F.plain_set_update_loop _, ih (i + 1) _ (by omega) lt (W.frame _ s2 _ _ st2 (Nat.le_succ _) fun c hc o e => ?_) ⟨ks2, r3, fun j => ?_, by omega⟩ fun s3 ks3 mv3 r4 me4 le4 => ?_⟩
    · rw [sb.2 c (fun u : c = b => hb (by rw [← u]; exact hc))]
      exact e
    · have tk : xs.take (i + 1) = xs.take i ++ [k] := by rw [List.take_add_one, ek]; rfl
      rw [me3 j, me j, tk, List.mem_append, List.mem_singleton]
    · refine fin s3 ks3 (Moved.trans W.gtrans ((mv.mono inW).then_heap (Nat.le_succ _) fun c o hc e => ?_) mv3) r4 me4 le4
      rw [sb.2 c (fun u : c = b => hc (by rw [u]; exact List.mem_cons_self))]
      exact e
set_option maxHeartbeats 3200000 in
theorem keys_of_list {l : Addr} {items : Array Value} (xs : List κ) {Q : Value → Shared → Prop} (hh : A.handled = none) (hl : s.heap.IsList l items) (few : xs.length + 1 < scanBound)
    (hv : Paired (fun v k => kd.is k v = true ∧ v.scannable = true) items.toList xs)
    (h : ∀ (hp : Heap) (tk : Nat) ks, KeySet kd hp s.heap.objs.size ks → (∀ j, j ∈ ks ↔ j ∈ xs) → ks.length ≤ xs.length → (∀ b o, s.heap.get? b = some o → hp.get? b = some o) → Q (.ref s.heap.objs.size) { s with heap := hp, toks := tk }) :
    wpAny (model P w) A (call (.type "set") [.ref l]) Q E s := by
  have isz : items.size = xs.length := by rw [← Array.length_toList]; exact Paired.length hv
  obtain ⟨c0, tl0, hmro⟩ := F.called_set.mro
  have hmade := F.called_set.made
  have hsub := F.called_set.sub
  refine wpAny_call (codeAny_of_tree ?_)
  show wpAny _ _ (callAny (.type "set") _) _ _ _
  refine wpAny_pure ⟨Code.quiet_builtin _ (by decide +kernel), codeAny_builtin F.entry_type_call ?_⟩
  rw [Around.under_plain (weight_type_call_type "set" [.ref l] []) rfl]
  have t1 := F.called_set.notType
  have t2 := F.called_set.canCreate
  have t3 := F.typeCall_set_1 (.ref l)
  repeat (any_goals (first | assumption | wp_step))
  refine codeAny_mono (code_set_led1 (.ref l) (E := E) (Q₁ := fun ob s1 => ob = .ref s.heap.objs.size ∧ s1 = { s with heap := s.heap.push (emptySet w) }) ⟨rfl, rfl⟩) fun r s1 hr => ?_
  cases r with
  | error e => exact hr
  | ok fl =>
    cases fl with
    | ret ob =>
      obtain ⟨rfl, rfl⟩ := hr
      have at0 : (s.heap.push (emptySet w)).get? s.heap.objs.size = some (emptySet w) := Heap.get?_push_size _ rfl
      have ty0 : Shared.TypeIs { s with heap := s.heap.push (emptySet w) } (.ref s.heap.objs.size) "set" := ⟨_, at0, rfl⟩
      have i1 := F.called_set.init.lookup
      have i2 := F.called_set.init.bind (.ref s.heap.objs.size)
      repeat (any_goals (first | assumption | wp_step))
      refine codeAny_mono (codeAny_call_builtin (R := wants (fun r s2 => r = .none ∧ ∃ hp tk ks, s2 = { s with heap := hp, toks := tk } ∧ KeySet kd hp s.heap.objs.size ks ∧ (∀ j, j ∈ ks ↔ j ∈ xs) ∧ ks.length ≤ xs.length ∧
          (∀ b o, s.heap.get? b = some o → hp.get? b = some o)) E) F.called_set.init.plain F.entry_set_init (check_set_init_1 ty0 ?_)) fun r2 s2 hr2 => ?_
      · obtain ⟨ol, atl, cl, nl, dl⟩ := hl
        obtain ⟨ocls, odict, odata, oslots⟩ := ol
        simp only at cl dl
        subst cl dl
        have atl2 : (s.heap.push (emptySet w)).get? l = some { cls := .type "list", dict := odict, data := .seq items nl, slots := oslots } := Heap.get?_push_of_some _ atl
        have n1 := F.sub_list_set
        have n2 := F.sub_list_frozenset
        have n3 : (Value.type "list" == Value.type "dict") = false := by decide
        have hl1 : (s.heap.push (emptySet w)).IsList l items := ⟨_, atl2, rfl, nl, rfl⟩
        unfold Builtin.«set.__init__» noKeywords Builtin.Frozenset.updateFrom
        generalize keep : pyIter = PI
        wp_walk
        subst keep
        refine wpAny_pyIter_list hl1 (wpAny_bind (wpAny_runValue ?_))
        have lt0 : l < s.heap.objs.size := Heap.lt_size atl
        have hd3 : A.in1.in1.in1.handled = none := by simp [hh]
        have ne1 : l ≠ (s.heap.push (emptySet w)).objs.size := by
          rw [Heap.size_push]
          exact Nat.ne_of_lt (Nat.lt_succ_of_lt lt0)
        have out1 : s.heap.objs.size ∉ [(s.heap.push (emptySet w)).objs.size, l] := by
          rw [Heap.size_push]
          simp only [List.mem_cons, List.mem_singleton, List.not_mem_nil, or_false, not_or]
          exact ⟨Nat.ne_of_lt (Nat.lt_succ_self _), Nat.ne_of_gt lt0⟩
        have vals : ∀ (i : Nat) (v : Value), items[i]? = some v → ∃ k, xs[i]? = some k ∧ kd.is k v = true ∧ v.scannable = true := fun i v ev => by
          have ev2 : items.toList[i]? = some v := by rw [Array.getElem?_toList]; exact ev
          have key : ∀ {l : List Value} {m : List κ}, Paired (fun v k => kd.is k v = true ∧ v.scannable = true) l m → ∀ (i : Nat) (v : Value), l[i]? = some v → ∃ k, m[i]? = some k ∧ kd.is k v = true ∧ v.scannable = true := by
            intro l m pm
            induction pm with
            | nil => intro i v e; cases e
            | cons hd _ ih =>
              intro i v e
              cases i with
              | zero => cases e; exact ⟨_, rfl, hd⟩
              | succ i => exact ih i v e
          exact key hv i v ev2
        refine keys_loop (kd := kd) ((Walks.list hd3 _ l ne1 items).toS) s.heap.objs.size out1 xs isz few vals (items.size - 0) 0 _ (by omega) (Nat.zero_le _) ⟨⟨_, Heap.get?_push_size _ rfl, rfl, rfl⟩, (hl1.push _)⟩ ?start ?finish
        case start => exact ⟨[], keys_none (Heap.get?_push_of_some _ at0), fun j => by simp, Nat.le_refl _⟩
        case finish =>
          intro s3 ks mv r3 me le
          obtain ⟨hp, g2, d2, tk, o2⟩ := s3
          have eg : g2 = s.gens := mv.gens
          have ed : d2 = s.drawn := mv.drawn
          have eo : o2 = s.os := mv.os
          subst eg ed eo
          show wpAny _ _ _ _ _ _
          refine wpAny_pure ?_
          show wpAny _ _ (ret Value.none) _ _ _
          refine wpAny_pure ⟨rfl, hp, tk, ks, rfl, r3, me, by omega, fun b o e => ?_⟩
          have b0 : b < s.heap.objs.size := Heap.lt_size e
          have b2 : b ≠ (s.heap.push (emptySet w)).objs.size := by
            rw [Heap.size_push]
            exact Nat.ne_of_lt (Nat.lt_succ_of_lt b0)
          exact mv.heap b o (by simp only [List.mem_cons, List.mem_singleton, List.not_mem_nil, or_false, not_or]; exact ⟨Nat.ne_of_lt b0, b2⟩) (Heap.get?_push_of_some _ (Heap.get?_push_of_some _ e))
      · cases r2 with
        | error e => exact hr2
        | ok fl2 =>
          cases fl2 with
          | ret r =>
            obtain ⟨rfl, hp, tk, ks, rfl, r3, me, le, kp⟩ := hr2
            repeat (any_goals (first | assumption | wp_step))
            exact h hp tk ks r3 me le kp
          | _ => exact hr2.elim
    | _ => exact hr.elim
end
section
variable {P : Program} {w : World} {A : Around} {E : Value → Shared → Prop} {s : Shared} {a : Addr}
theorem strs_prd {vs : List Value} {zs : List Str} (h : Paired (fun v k => (PySem.strKind P w).is k v = true) vs zs) : StrsAre vs zs := by
  induction h with
  | nil => exact .nil
  | @cons v k l m hd _ ih =>
    obtain ⟨t, e⟩ := Value.isStrOf_shape (show Value.isStrOf k v = true from hd)
    rw [e]
    exact .cons k t ih
theorem ints_prd {vs : List Value} {zs : List Int} (h : Paired (fun v k => (PySem.intKind P w).is k v = true) vs zs) : IntsAre vs zs := by
  induction h with
  | nil => exact .nil
  | @cons v k l m hd _ ih =>
    have e : ∃ t, v = Value.int k t := by
      cases v with
      | int j t =>
        have : (j == k) = true := hd
        rw [eq_of_beq this]
        exact ⟨t, rfl⟩
      | _ => cases (show false = true from hd)
    obtain ⟨t, e⟩ := e
    rw [e]
    exact .cons k t ih
theorem prd_map {α β γ : Type} {R : α → γ → Prop} {S : β → γ → Prop} {f : α → β} (hf : ∀ x y, R x y → S (f x) y) : ∀ {l : List α} {m : List γ}, Paired R l m → Paired S (l.map f) m
  | _, _, .nil => .nil
  | _, _, .cons a r => .cons (hf _ _ a) (prd_map hf r)
theorem sort_keysS {ks : List Str} {Q : Value → Shared → Prop} (R : KeySet (PySem.strKind P w) s.heap a ks) (hh : A.handled = none)
    (hQ : ∀ s2 p (out : Array Value) c (ys : List Str), (∀ b o, s.heap.get? b = some o → s2.heap.get? b = some o) → s2.gens = s.gens → s2.os = s.os → s.heap.objs.size ≤ p →
      s2.heap.get? p = some (seqObj "list" out c) → StrsAre out.toList ys → ys.Perm ks → sortedS ys = true → Q (.ref p) s2) :
    wpAny (model P w) A (call (.builtin "sorted") [.ref a]) Q E s := by
  obtain ⟨ob, es, ep, tb, q, ex, qd, pr, nd, ⟨sz, ft⟩, ri, le⟩ := R
  refine Calls.call_function_entry kind_sorted plain_sorted entry_sorted (args_sorted1 _) ?_
  unfold Builtin.«sorted»
  refine wpAny_bind (m := checkCount "sorted" 1 1 _) (wpAny_pure (wpAny_bind (collect_set (A := A.in1) hh ⟨ob, q, ex.1, qd⟩ ft sz ri le fun s1 vs k1 hz g1 o1 pm => ?_)))
  obtain ⟨zs, pz, prz⟩ := prd_perm pm (prd_map (S := fun v k => (PySem.strKind P w).is k v = true) (fun e k (u : RowK _ e k) => u.1) pr)
  have hS := strs_prd prz
  have lv : vs.length ≤ sizeLine := by
    have : vs.length = es.size := by rw [pm.length_eq, List.length_map, Array.length_toList]
    rw [this]
    exact fits_of_scanBound sz
  refine wpAny_bind (wpAny_newList ?_ lv)
  have at1 : (s1.heap.push (seqObj "list" vs.toArray 0)).get? s1.heap.objs.size = some (seqObj "list" vs.toArray 0) := Heap.get?_push_size _ rfl
  refine wpAny_bind (wpAny_holding (wpAny_call_entry slot_list_sort ⟨_, at1, rfl⟩ entry_list_sort (list_sort_treeKAny strKind_oneLt at1 hS.keysOf (fun v1 v2 rest e => keyKind_strs (by rw [← e]; exact hS)) lv fun st' a1 a2 => ⟨_, rfl, ?_⟩) (args_list_sort _)))
  obtain ⟨ys, b1, b2, b3⟩ := sorted_out_str hS a1 a2
  obtain ⟨c, hc⟩ := sortedHeap_at (vs := vs) (out := (arrOf st').map (·.2)) at1
  refine wpAny_pure ⟨_, rfl, hQ _ s1.heap.objs.size _ c ys (fun b u e => ?_) g1 o1 hz hc b1 (b2.trans pz) b3⟩
  have e1 := k1 b u e
  have lt1 := Heap.lt_size e1
  show (sortedHeap (s1.heap.push (seqObj "list" vs.toArray 0)) s1.heap.objs.size vs _).get? b = some u
  rw [sortedHeap_old (Nat.ne_of_lt lt1) (by rw [size_push']; exact Nat.lt_succ_of_lt lt1)]
  exact Heap.get?_push_of_some _ e1
theorem sort_keysI {ks : List Int} {Q : Value → Shared → Prop} (R : KeySet (PySem.intKind P w) s.heap a ks) (hh : A.handled = none) (few : ks.length < 64)
    (hQ : ∀ s2 p (out : Array Value) c (ys : List Int), (∀ b o, s.heap.get? b = some o → s2.heap.get? b = some o) → s2.gens = s.gens → s2.os = s.os → s.heap.objs.size ≤ p →
      s2.heap.get? p = some (seqObj "list" out c) → IntsAre out.toList ys → ys.Perm ks → ys.Pairwise (· < ·) → Q (.ref p) s2) :
    wpAny (model P w) A (call (.builtin "sorted") [.ref a]) Q E s := by
  obtain ⟨ob, es, ep, tb, q, ex, qd, pr, nd, ⟨sz, ft⟩, ri, le⟩ := R
  refine Calls.call_function_entry kind_sorted plain_sorted entry_sorted (args_sorted1 _) ?_
  unfold Builtin.«sorted»
  refine wpAny_bind (m := checkCount "sorted" 1 1 _) (wpAny_pure (wpAny_bind (collect_set (A := A.in1) hh ⟨ob, q, ex.1, qd⟩ ft sz ri le fun s1 vs k1 hz g1 o1 pm => ?_)))
  obtain ⟨zs, pz, prz⟩ := prd_perm pm (prd_map (S := fun v k => (PySem.intKind P w).is k v = true) (fun e k (u : RowK _ e k) => u.1) pr)
  have hI := ints_prd prz
  have lk : vs.length = ks.length := by rw [pm.length_eq, List.length_map, Paired.length pr]
  refine wpAny_bind (wpAny_newList ?_ (by rw [lk, sizeLine_eq]; omega))
  have at1 : (s1.heap.push (seqObj "list" vs.toArray 0)).get? s1.heap.objs.size = some (seqObj "list" vs.toArray 0) := Heap.get?_push_size _ rfl
  refine wpAny_bind (wpAny_holding (wpAny_call_entry slot_list_sort ⟨_, at1, rfl⟩ entry_list_sort (list_sort_tree at1 hI (by rw [lk]; exact few) fun out ys b1 b2 b3 => ⟨_, rfl, ?_⟩) (args_list_sort _)))
  obtain ⟨c, hc⟩ := sortedHeap_at (vs := vs) (out := out) at1
  have pk : ys.Perm ks := b2.trans pz
  refine wpAny_pure ⟨_, rfl, hQ _ s1.heap.objs.size _ c ys (fun b u e => ?_) g1 o1 hz hc b1 pk (lt_of_le_nodup ys b3 (pk.nodup_iff.mpr nd))⟩
  have e1 := k1 b u e
  have lt1 := Heap.lt_size e1
  show (sortedHeap (s1.heap.push (seqObj "list" vs.toArray 0)) s1.heap.objs.size vs _).get? b = some u
  rw [sortedHeap_old (Nat.ne_of_lt lt1) (by rw [size_push']; exact Nat.lt_succ_of_lt lt1)]
  exact Heap.get?_push_of_some _ e1
end
section
variable {X : Cx}
def KeySO (P : Program) (w : World) {κ : Type} [DecidableEq κ] (kd : PySem.KeyKind P w κ) (a : Addr) (ks : List κ) : HO := .ext fun h => KeySet kd h a ks
theorem keySO_new {P : Program} {w : World} {κ : Type} [DecidableEq κ] {kd : PySem.KeyKind P w κ} {H : Hp} {h : Heap} {a : Addr} {ks : List κ} (R : KeySet kd h a ks) : ObjOk P w H h a (KeySO P w kd a ks) := by
  have ⟨o, _, _, _, ho, _⟩ := R
  exact ⟨R, ⟨o, ho⟩, fun h1 h2 p k => p.to k⟩
def rSetS (K : PySem.W.Frag) (P : Program) (w : World) : List V → Hp → VK → Prop := fun xs H Q => ∃ (l : Addr) (zs : List Str), xs = [V.ref l] ∧ SqL K H l (zs.map V.str) ∧ zs.length < 4000 ∧
  ∀ a ks, H a = none → ks.Nodup → (∀ j, j ∈ ks ↔ j ∈ zs) → Q (.ref a) (upd H a (KeySO P w (PySem.strKind P w) a ks))
theorem cr_setS (hc : X.calm = true) : CallR X (.type "set") (rSetS X.K X.prog X.w) := by
  intro pins s σ H xs us Q I r h
  obtain ⟨l, zs, rfl, hl, few, q⟩ := h
  rw [Vals.ref1 r]
  obtain ⟨its, rv, pl, hz⟩ := I.list hl
  have fr : H s.heap.objs.size = none := I.hok.fresh (Nat.le_refl _)
  have key : ∀ {zs : List Str} {us : List Value}, Vals (zs.map V.str) us → Paired (fun v k => (PySem.strKind X.prog X.w).is k v = true ∧ v.scannable = true) us zs := by
    intro zs
    induction zs with
    | nil => intro us r; cases r; exact .nil
    | cons z zs ih =>
      intro us r
      cases r with | cons hd tl =>
      obtain ⟨t, e⟩ := (show ∃ t, _ = Value.str z t from hd)
      rw [e]
      exact .cons ⟨strKind_is _ _ z t, rfl⟩ (ih tl)
  refine keys_of_list (kd := PySem.strKind X.prog X.w) zs (I.ok.hd hc) pl.isList (by show zs.length + 1 < 4096; omega) (key rv) fun hp tk ks R me le kp => ?_
  have nd : ks.Nodup := by
    obtain ⟨_, _, _, _, _, _, _, _, nd, _⟩ := R
    exact nd
  exact ⟨.ref s.heap.objs.size, _, I.laid (t' := tk) kp (Nat.le_refl _) (keySO_new R), rfl, q _ ks fr nd me⟩
def rSetI (K : PySem.W.Frag) (P : Program) (w : World) : List V → Hp → VK → Prop := fun xs H Q => ∃ (l : Addr) (zs : List Int), xs = [V.ref l] ∧ SqL K H l (zs.map V.int) ∧ zs.length < 64 ∧
  ∀ a ks, H a = none → ks.Nodup → ks.length ≤ zs.length → (∀ j, j ∈ ks ↔ j ∈ zs) → Q (.ref a) (upd H a (KeySO P w (PySem.intKind P w) a ks))
theorem cr_setI (hc : X.calm = true) : CallR X (.type "set") (rSetI X.K X.prog X.w) := by
  intro pins s σ H xs us Q I r h
  obtain ⟨l, zs, rfl, hl, few, q⟩ := h
  rw [Vals.ref1 r]
  obtain ⟨its, rv, pl, hz⟩ := I.list hl
  have fr : H s.heap.objs.size = none := I.hok.fresh (Nat.le_refl _)
  have key : ∀ {zs : List Int} {us : List Value}, Vals (zs.map V.int) us → Paired (fun v k => (PySem.intKind X.prog X.w).is k v = true ∧ v.scannable = true) us zs := by
    intro zs
    induction zs with
    | nil => intro us r; cases r; exact .nil
    | cons z zs ih =>
      intro us r
      cases r with | cons hd tl =>
      obtain ⟨t, e⟩ := (show ∃ t, _ = Value.int z t from hd)
      rw [e]
      exact .cons ⟨intKind_is _ _ z t, rfl⟩ (ih tl)
  refine keys_of_list (kd := PySem.intKind X.prog X.w) zs (I.ok.hd hc) pl.isList (by show zs.length + 1 < 4096; omega) (key rv) fun hp tk ks R me le kp => ?_
  have nd : ks.Nodup := by
    obtain ⟨_, _, _, _, _, _, _, _, nd, _⟩ := R
    exact nd
  exact ⟨.ref s.heap.objs.size, _, I.laid (t' := tk) kp (Nat.le_refl _) (keySO_new R), rfl, q _ ks fr nd le me⟩
theorem keySO_get {κ : Type} [DecidableEq κ] {kd : PySem.KeyKind X.prog X.w κ} {pins : List (Addr × Obj)} {σ : L2.St} {H : Hp} {s : Shared} {a : Addr} {ks : List κ} (I : Inv X pins σ H s) (ha : H a = some (KeySO X.prog X.w kd a ks)) : KeySet kd s.heap a ks := (I.hok a _ ha).1
def rSortKS (P : Program) (w : World) : List V → Hp → VK → Prop := fun vs H Q => ∃ (a : Addr) (ks : List Str), vs = [V.ref a] ∧ H a = some (KeySO P w (PySem.strKind P w) a ks) ∧
  ∀ (ys : List Str) (p : Addr), ys.Perm ks → sortedS ys = true → H p = none → Q (.ref p) (upd H p (.lst (ys.map V.str)))
theorem cr_sortKS (hc : X.calm = true) : CallR X (.builtin "sorted") (rSortKS X.prog X.w) := by
  intro pins s σ H vs us Q I r h
  obtain ⟨a, ks, rfl, ha, q⟩ := h
  rw [Vals.ref1 r]
  have R := keySO_get I ha
  have lk : ks.length < 4096 := by
    obtain ⟨_, _, _, _, _, _, _, pr, _, ⟨sz, _⟩, _⟩ := R
    rw [← Paired.length pr, Array.length_toList]
    exact sz
  refine sort_keysS R (I.ok.hd hc) fun s2 p out c ys kp g o hp hg hS pm so => ?_
  have fr : H p = none := I.hok.fresh hp
  have len : (ys.map V.str).length ≤ sizeLine := by rw [List.length_map, pm.length_eq, sizeLine_eq]; omega
  have J : Inv X pins σ (upd H p (.lst (ys.map V.str))) { s with heap := s2.heap, gens := s2.gens, drawn := s2.drawn, toks := s2.toks } :=
    I.call (ch := []) (Un.laid kp hp fr) (I.hok.laid kp hp ⟨len, out.toList, c, vals_of_strs hS, hg⟩) (by rw [g]; exact I.bare) (fun _ z => nomatch z)
  have e : s2 = { s with heap := s2.heap, gens := s2.gens, drawn := s2.drawn, toks := s2.toks } := by
    cases s2; cases s; cases o; rfl
  rw [e]
  exact ⟨.ref p, _, J, rfl, q ys p pm so fr⟩
def rSortKI (P : Program) (w : World) : List V → Hp → VK → Prop := fun vs H Q => ∃ (a : Addr) (ks : List Int), vs = [V.ref a] ∧ H a = some (KeySO P w (PySem.intKind P w) a ks) ∧ ks.length < 64 ∧
  ∀ (ys : List Int) (p : Addr), ys.Perm ks → ys.Pairwise (· < ·) → H p = none → Q (.ref p) (upd H p (.lst (ys.map V.int)))
theorem cr_sortKI (hc : X.calm = true) : CallR X (.builtin "sorted") (rSortKI X.prog X.w) := by
  intro pins s σ H vs us Q I r h
  obtain ⟨a, ks, rfl, ha, few, q⟩ := h
  rw [Vals.ref1 r]
  refine sort_keysI (keySO_get I ha) (I.ok.hd hc) few fun s2 p out c ys kp g o hp hg hS pm so => ?_
  have fr : H p = none := I.hok.fresh hp
  have len : (ys.map V.int).length ≤ sizeLine := by rw [List.length_map, pm.length_eq, sizeLine_eq]; omega
  have J : Inv X pins σ (upd H p (.lst (ys.map V.int))) { s with heap := s2.heap, gens := s2.gens, drawn := s2.drawn, toks := s2.toks } :=
    I.call (ch := []) (Un.laid kp hp fr) (I.hok.laid kp hp ⟨len, out.toList, c, vals_of_ints hS, hg⟩) (by rw [g]; exact I.bare) (fun _ z => nomatch z)
  have e : s2 = { s with heap := s2.heap, gens := s2.gens, drawn := s2.drawn, toks := s2.toks } := by
    cases s2; cases s; cases o; rfl
  rw [e]
  exact ⟨.ref p, _, J, rfl, q ys p pm so fr⟩
end
/-! ### sorted(set(..)), seen as one step -/
section
variable {K : PySem.W.Frag} {P : Program} {w : World} {W : WX} {xa : TA} {qa : AJ}
def jSortSet (a : AJ) : TJ := fun ρ s Q R => a ρ s (fun xs s1 => ∃ d, ∃ ys : List Str, xs = [d] ∧ lstOf s1 d = some (ys.map J.str) ∧ ys.length < 4000 ∧ ∀ zs : List Str, zs.Nodup → (∀ z, z ∈ zs ↔ z ∈ ys) → sortedS zs = true → Q (.lst (zs.map J.str)) s1) R
def jSortSetI (a : AJ) : TJ := fun ρ s Q R => a ρ s (fun xs s1 => ∃ d, ∃ ys : List Int, xs = [d] ∧ lstOf s1 d = some (ys.map J.int) ∧ ys.length < 64 ∧ ∀ zs : List Int, (∀ z, z ∈ zs ↔ z ∈ ys) → zs.Pairwise (· < ·) → Q (.lst (zs.map J.int)) s1) R
theorem jpsS {G : Hp} : ∀ {ys : List Str} {xs : List V}, Jps K G xs (ys.map J.str) → xs = ys.map V.str
  | [], _, h => by cases h; rfl
  | y :: ys, _, h => by
    cases h with | cons a r =>
    cases a
    rw [jpsS r]
    rfl
theorem jpsI {G : Hp} : ∀ {ys : List Int} {xs : List V}, Jps K G xs (ys.map J.int) → xs = ys.map V.int
  | [], _, h => by cases h; rfl
  | y :: ys, _, h => by
    cases h with | cons a r =>
    cases a
    rw [jpsI r]
    rfl
theorem strsJ {G : Hp} : ∀ ys : List Str, Jps K G (ys.map V.str) (ys.map J.str)
  | [] => .nil
  | _ :: ys => .cons (.str _) (strsJ ys)
theorem intsJ {G : Hp} : ∀ ys : List Int, Jps K G (ys.map V.int) (ys.map J.int)
  | [] => .nil
  | _ :: ys => .cons (.int _) (intsJ ys)
theorem se_sortSet (hx : Sa K W xa qa) : Se K W (tCB (rSortKS P w) (tCons (tCB (rSetS K P w) xa) tNil)) (jSortSet qa) := by
  intro F ρ s σ H Q R QV a hQ hR h
  refine hx F ρ s σ H _ R _ a (fun ds s1 h1 vs H1 l1 st1 j1 => ?_) hR h
  obtain ⟨d, ys, rfl, e, few, q⟩ := h1
  obtain ⟨u, rfl, jd⟩ := jps1 j1
  obtain ⟨l, xs, rfl, hl, jx⟩ := jp_list st1 jd e
  rw [jpsS jx] at hl
  refine ⟨l, ys, rfl, hl, few, fun b ks hb nd me => ?_⟩
  show rSortKS P w [V.ref b] _ QV
  refine ⟨b, ks, rfl, upd_same, fun zs p pm so hp => ?_⟩
  have st2 := st1.new (h := KeySO P w (PySem.strKind P w) b ks) hb
  have st3 := st2.new (h := .lst (zs.map V.str)) hp
  refine hQ _ s1 (q zs (pm.nodup_iff.mpr nd) (fun z => by rw [pm.mem_iff]; exact me z) so) _ _ ((l1.trans (.new hb)).trans (.new hp)) st3 (.lst (mask_new st2 hp) (strsJ zs))
theorem se_sortSetI (hx : Sa K W xa qa) : Se K W (tCB (rSortKI P w) (tCons (tCB (rSetI K P w) xa) tNil)) (jSortSetI qa) := by
  intro F ρ s σ H Q R QV a hQ hR h
  refine hx F ρ s σ H _ R _ a (fun ds s1 h1 vs H1 l1 st1 j1 => ?_) hR h
  obtain ⟨d, ys, rfl, e, few, q⟩ := h1
  obtain ⟨u, rfl, jd⟩ := jps1 j1
  obtain ⟨l, xs, rfl, hl, jx⟩ := jp_list st1 jd e
  rw [jpsI jx] at hl
  refine ⟨l, ys, rfl, hl, few, fun b ks hb nd le me => ?_⟩
  show rSortKI P w [V.ref b] _ QV
  refine ⟨b, ks, rfl, upd_same, by omega, fun zs p pm so hp => ?_⟩
  have st2 := st1.new (h := KeySO P w (PySem.intKind P w) b ks) hb
  have st3 := st2.new (h := .lst (zs.map V.int)) hp
  refine hQ _ s1 (q zs (fun z => by rw [pm.mem_iff]; exact me z) so) _ _ ((l1.trans (.new hb)).trans (.new hp)) st3 (.lst (mask_new st2 hp) (intsJ zs))
end
section
variable {s : Sto} {Q : QJ} {R : XJ} {ρ : Rho} {qa : AJ}
def SortSX (s : Sto) (xs : List J) (Q : QJ) : Prop := ∃ d, ∃ ys : List Str, xs = [d] ∧ lstOf s d = some (ys.map J.str) ∧ ys.length < 4000 ∧ ∀ zs : List Str, zs.Nodup → (∀ z, z ∈ zs ↔ z ∈ ys) → sortedS zs = true → Q (.lst (zs.map J.str)) s
def SortIX (s : Sto) (xs : List J) (Q : QJ) : Prop := ∃ d, ∃ ys : List Int, xs = [d] ∧ lstOf s d = some (ys.map J.int) ∧ ys.length < 64 ∧ ∀ zs : List Int, (∀ z, z ∈ zs ↔ z ∈ ys) → zs.Pairwise (· < ·) → Q (.lst (zs.map J.int)) s
theorem y_sortSet (h : qa ρ s (fun xs s1 => SortSX s1 xs Q) R) : jSortSet qa ρ s Q R := h
theorem y_sortSetI (h : qa ρ s (fun xs s1 => SortIX s1 xs Q) R) : jSortSetI qa ρ s Q R := h
theorem y_sortS {l : List J} {ys : List Str} (e : l = ys.map J.str) (few : ys.length < 4000) (h : ∀ zs : List Str, zs.Nodup → (∀ z, z ∈ zs ↔ z ∈ ys) → sortedS zs = true → Q (.lst (zs.map J.str)) s) : SortSX s [.lst l] Q := ⟨_, ys, rfl, by rw [e]; rfl, few, h⟩
theorem y_sortI {l : List J} {ys : List Int} (e : l = ys.map J.int) (few : ys.length < 64) (h : ∀ zs : List Int, (∀ z, z ∈ zs ↔ z ∈ ys) → zs.Pairwise (· < ·) → Q (.lst (zs.map J.int)) s) : SortIX s [.lst l] Q := ⟨_, ys, rfl, by rw [e]; rfl, few, h⟩
end
/-! ## a dict of the written part, its values tuples of texts -/
section
variable {K : PySem.W.Frag} {w : World}
def ktabB (K : PySem.W.Frag) (a : Addr) (tab : List (Str × List Str)) : Bool := tab.all fun p => match PySem.W.nsIn K a p.1 with
  | some (some (.ref t)) => ktupB K t (p.2.map V.str)
  | _ => false
theorem ktab_ok {a : Addr} {tab : List (Str × List Str)} {es : Array DictEntry} {n : Nat} (hd : L2.KDict K w a es n) (h : ktabB K a tab = true) : ∀ p ∈ tab, ∃ v, L2.KDct K w a p.1 v ∧ ∀ G, Jp K G v (.tup (p.2.map J.str)) := by
  intro p hp
  have h1 := List.all_eq_true.mp h p hp
  split at h1
  · rename_i t e
    exact ⟨.ref t, ⟨es, n, _, hd.at_, hd.lit, e, rfl⟩, fun G => .tup (ktupB_ok h1 G) (strsJ _)⟩
  · cases h1
def ixWJ (c : Str) (tab : List (Str × List Str)) (x y : J) (s : Sto) (Q : QJ) : Prop := ∃ z l, x = .cls c ∧ y = .str z ∧ tab.lookup z = some l ∧ Q (.tup (l.map J.str)) s
theorem so_ixW {c : Str} {tab : List (Str × List Str)} (h : ∀ p ∈ tab, ∃ v, L2.KDct K w (He.ga K c) p.1 v ∧ ∀ G, Jp K G v (.tup (p.2.map J.str))) : So K (L2.rIxD K w) (ixWJ c tab) := by
  intro F s H v u x y Q QV t jx jy hQ q
  obtain ⟨z, l, rfl, rfl, e, q⟩ := q
  cases jx
  cases jy
  obtain ⟨d, hd, jd⟩ := h _ (lookup_mem e)
  exact ⟨_, z, d, rfl, rfl, hd, hQ _ s q _ H .refl t (jd _)⟩
theorem y_ixW {c z : Str} {tab : List (Str × List Str)} {l : List Str} {s : Sto} {Q : QJ} (q : Q (.tup (l.map J.str)) s) (e : tab.lookup z = some l := by with_unfolding_all rfl) : ixWJ c tab (.cls c) (.str z) s Q := ⟨z, l, rfl, rfl, e, q⟩
end
theorem everyB {α : Type} {l : List α} {b : α → Bool} {P : α → Prop} (h : l.all b = true) (f : ∀ x, b x = true → P x) : ∀ x ∈ l, P x := fun x hx => f x (List.all_eq_true.mp h x hx)
end M

namespace M
open PySem PySem.Spec PyProof.Rows L2
/-! ## a try whose clauses bear no names -/
def manyJ : List (List (Str × Bool) × SJ) → EJ → Rho → XJ
  | [], D, ρ => D.xr ρ
  | (tab, u) :: r, D, ρ => fun c fs s => ∃ k, tab.lookup c = some k ∧ if k = true then u { D with xr := fun _ => No } ρ s else manyJ r D ρ c fs s
def jTryM (hs : List (List (Str × Bool) × SJ)) (q : SJ) : SJ := fun D ρ s => q { D with xr := fun ρ' => manyJ hs D ρ' } ρ s
inductive Shs (K : PySem.W.Frag) : List (Value × (Addr → Value → Option Addr → TS)) → List (List (Str × Bool) × SJ) → Prop where
  | nil : Shs K [] []
  | cons {x : Str} {tab : List (Str × Bool)} {ts : Addr → Value → Option Addr → TS} {u : SJ} {l : List (Value × (Addr → Value → Option Addr → TS))} {hs : List (List (Str × Bool) × SJ)}
      (hk : ∀ p ∈ tab, PySem.W.exmOne K (.ref (He.ga K p.1)) (.ref (He.ga K x)) = some p.2) (hu : ∀ a cls d, Ss K W0 (ts a cls d) u) (r : Shs K l hs) : Shs K ((.ref (He.ga K x), ts) :: l) ((tab, u) :: hs)
theorem shs_x {K : PySem.W.Frag} {W : WX} {F G : Hp} {D : EJ} {DV : Ends} {l : List (Value × (Addr → Value → Option Addr → TS))} {hs : List (List (Str × Bool) × SJ)} (h : Shs K l hs) (e : Er K F W G D DV) {ρ : Rho} {c : Str} {fs : List (Str × J)} {s : Sto} {σ : L2.St} {d : Option Addr} {H' : Hp} :
    manyJ hs D ρ c fs s → Le G (mask F s H') → At K F ρ s σ H' → XD K (mask F s H') d fs → wMany K W DV l (.ref (He.ga K c)) d σ H' := by
  intro q lg at' xd
  induction h with
  | nil => exact e.xr ρ c fs s σ q d H' lg at' xd
  | cons hk hu r ih =>
    obtain ⟨k, e1, q⟩ := q
    refine ⟨k, hk _ (lookup_mem e1), ?_, ?_⟩
    · rintro rfl b hb
      exact hu b _ d F { D with xr := fun _ => No } _ ρ s σ H' at' (er_no (e.up lg)) q
    · rintro rfl
      exact ih q
theorem ss_tryM {K : PySem.W.Frag} {W : WX} {tb : WX → TS} {q : SJ} {l : List (Value × (Addr → Value → Option Addr → TS))} {hs : List (List (Str × Bool) × SJ)} (h : Shs K l hs) (hb : ∀ W', Ss K W' (tb W') q) :
    Ss K W (fun D σ H => tb (wMany K W D l) D σ H) (jTryM hs q) := by
  intro F D DV ρ s σ H a e z
  refine hb _ F { D with xr := fun ρ' => manyJ hs D ρ' } DV ρ s σ H a ⟨e.nx, e.rt, e.bk, e.ct, ?_⟩ z
  intro ρ' c fs s' σ' hx d H' l' a' xd
  exact shs_x h e hx l' a' xd
theorem y_tryM {hs : List (List (Str × Bool) × SJ)} {b : SJ} {n bk ct : Rho → Sto → Prop} {rt : QJ} {xr : Rho → XJ} {ρ : Rho} {s : Sto} (h : b (EJ.mk n rt bk ct (fun ρ' => manyJ hs (EJ.mk n rt bk ct xr) ρ')) ρ s) : jTryM hs b (EJ.mk n rt bk ct xr) ρ s := h
theorem y_many_t {tab : List (Str × Bool)} {u : SJ} {r : List (List (Str × Bool) × SJ)} {n bk ct : Rho → Sto → Prop} {rt : QJ} {xr : Rho → XJ} {ρ : Rho} {s : Sto} {c : Str} {fs : List (Str × J)} (h : u (EJ.mk n rt bk ct fun _ => No) ρ s) (e : tab.lookup c = some true := by with_unfolding_all rfl) : manyJ ((tab, u) :: r) (EJ.mk n rt bk ct xr) ρ c fs s :=
  ⟨true, e, by rw [if_pos rfl]; exact h⟩
theorem y_many_f {tab : List (Str × Bool)} {u : SJ} {r : List (List (Str × Bool) × SJ)} {D : EJ} {ρ : Rho} {s : Sto} {c : Str} {fs : List (Str × J)} (h : manyJ r D ρ c fs s) (e : tab.lookup c = some false := by with_unfolding_all rfl) : manyJ ((tab, u) :: r) D ρ c fs s :=
  ⟨false, e, by rw [if_neg (by decide)]; exact h⟩
end M
namespace M
open PySem PySem.Spec PyProof.Rows L2
/-! ## int(a text) -/
def jIntS (xs : List J) (s : Sto) (Q : QJ) : Prop := ∃ a n, xs = [.str a] ∧ PySem.intText? a = some n ∧ a.length ≤ 640 ∧ Q (.int n) s
def rIntS : List V → Hp → VK → Prop := fun xs H Q => ∃ a n, xs = [V.str a] ∧ PySem.intText? a = some n ∧ a.length ≤ 640 ∧ Q (.int n) H
theorem call_intS {X : Cx} : CallR X (.type "int") rIntS := L2.call_int_str
theorem sf_intS {K : PySem.W.Frag} : Sf K rIntS jIntS := by
  intro F s H v x Q QV t js hQ h
  obtain ⟨a, n, rfl, e, hz, q⟩ := h
  obtain ⟨u, rfl, j⟩ := jps1 js
  cases j
  exact ⟨a, n, rfl, e, hz, hQ _ s q _ H .refl t (.int _)⟩
theorem y_intS {a : Str} {n : Int} {s : Sto} {Q : QJ} (e : PySem.intText? a = some n) (hz : a.length ≤ 640) (q : Q (.int n) s) : jIntS [.str a] s Q := ⟨a, n, rfl, e, hz, q⟩
end M

namespace M
open PySem PySem.Spec PyProof.Rows L2
/-! ## list(d): a dict's keys -/
def kJ : Key → J
  | .inl i => .int i
  | .inr z => .str z
def jListD (xs : List J) (s : Sto) (Q : QJ) : Prop := ∃ d kvs, xs = [d] ∧ res s d = .dct kvs ∧ Q (.lst (kvs.map fun kv => kJ kv.1)) s
theorem keys_J {K : PySem.W.Frag} {G : Hp} : ∀ {xs : List (Key × V)} {ks : List (Key × J)}, Jpd K G xs ks → Jps K G (xs.map fun kv => kV kv.1) (ks.map fun kv => kJ kv.1)
  | _, _, .nil => .nil
  | _, _, .cons (k := k) _ t => .cons (by cases k <;> constructor) (keys_J t)
def rListK : List V → Hp → VK → Prop := fun xs H Q => ∃ (a : Addr) (kvs : List (Key × V)), xs = [.ref a] ∧ Rd H a (.dK kvs) ∧ ∀ p, H p = none → Q (.ref p) (upd H p (.lst (kvs.map fun kv => kV kv.1)))
theorem call_listK {X : Cx} (hc : X.calm = true) : CallR X (.type "list") rListK := call_listD hc
section
variable {K : PySem.W.Frag}
theorem sf_listD : Sf K rListK jListD := by
  intro F s H v x Q QV t js hQ h
  obtain ⟨d, kvs, rfl, e, q⟩ := h
  obtain ⟨u, rfl, j⟩ := jps1 js
  obtain ⟨a, h, xs, rfl, e1, c1, r1⟩ := jp_dct t j e
  exact ⟨a, xs, rfl, rd_dct e1 c1, fun p hp => hQ _ s q _ _ (.new hp) (t.new hp) (.lst (mask_new t hp) ((keys_J r1).up (.new hp)))⟩
end
theorem y_listD {s : Sto} {Q : QJ} {d : J} {kvs : List (Key × J)} (e : res s d = .dct kvs) (q : Q (.lst (kvs.map fun kv => kJ kv.1)) s) : jListD [d] s Q := ⟨_, _, rfl, e, q⟩
theorem res_od {s : Sto} {a : Addr} {kvs : List (Key × J)} (e : s a = some (.dct kvs)) : res s (.own a) = .dct kvs := by unfold res; dsimp only; rw [e]
theorem res_ol {s : Sto} {a : Addr} {l : List J} (e : s a = some (.lst l)) : res s (.own a) = .lst l := by unfold res; dsimp only; rw [e]
theorem y_ne_dd {s : Sto} {Q : QJ} {y : J} {ks ls : List (Key × J)} (e : res s y = .dct ls) (o1 : okKv ks) (o2 : okKv ls) (q : Q (.bl (!dctEq ks ls)) s) : neRJ (.dct ks) y s Q := by
  unfold neRJ eqR
  cases y <;> exact .inr ⟨_, _, rfl, e, ⟨o1, o2⟩, q⟩
theorem y_eq_dd {s : Sto} {Q : QJ} {y : J} {ks ls : List (Key × J)} (e : res s y = .dct ls) (o1 : okKv ks) (o2 : okKv ls) (q : Q (.bl (dctEq ks ls)) s) : eqRJ (.dct ks) y s Q := by
  unfold eqRJ eqR
  cases y <;> exact .inr ⟨_, _, rfl, e, ⟨o1, o2⟩, q⟩
theorem y_ne_ol {s : Sto} {Q : QJ} {a : Addr} {l m : List J} (e : s a = some (.lst l)) (h1 : (J.lst l).ok = true) (h2 : (J.lst m).ok = true) (q : Q (.bl (!eqJ (.lst l) (.lst m))) s) : neRJ (.own a) (.lst m) s Q := by
  unfold neRJ eqR
  exact .inl (by rw [res_ol e]; exact ⟨⟨h1, h2⟩, q⟩)
theorem y_nin_o {s : Sto} {Q : QJ} {a : Addr} {x : J} {l : List J} (e : s a = some (.lst l)) (h1 : (res s x).ok = true) (h2 : (J.lst l).ok = true) (q : Q (.bl (!l.any fun z => eqJ z (res s x))) s) : notInRJ x (.own a) s Q := by
  unfold notInRJ inR
  rw [res_ol e]
  cases x <;> exact ⟨⟨h1, h2⟩, q⟩
theorem y_in_o {s : Sto} {Q : QJ} {a : Addr} {x : J} {l : List J} (e : s a = some (.lst l)) (h1 : (res s x).ok = true) (h2 : (J.lst l).ok = true) (q : Q (.bl (l.any fun z => eqJ z (res s x))) s) : inRJ x (.own a) s Q := by
  unfold inRJ inR
  rw [res_ol e]
  cases x <;> exact ⟨⟨h1, h2⟩, q⟩
theorem y_ix_od {s : Sto} {Q : QJ} {a : Addr} {y d : J} {l : List (Key × J)} {k : Key} (e1 : s a = some (.dct l)) (h : keyOf y = some k) (e : valJ l k = some d) (q : Q d s) : ixJ (.own a) y s Q := by
  unfold ixJ ixR
  rw [res_od e1]
  cases y <;> exact ⟨k, d, h, e, q⟩
end M

namespace M
open PySem PySem.Spec PyProof.Rows L2
/-! ## texts compared; list.reverse, list.clear -/
def ltSJ (x y : J) (s : Sto) (Q : QJ) : Prop := ∃ a b, x = .str a ∧ y = .str b ∧ Q (.bl (decide (a.cps.toList < b.cps.toList))) s
def rLtS : R2 := fun x y H Q => ∃ i j, x = .str i ∧ y = .str j ∧ Q (.bl (decide (i.cps.toList < j.cps.toList))) H
theorem op_ltS {X : Cx} : OpR X (compareOp .Lt) rLtS := op_lt_str
section
variable {K : PySem.W.Frag}
theorem so_ltS : So K rLtS ltSJ := by
  intro F s H v u x y Q QV t jx jy hQ h
  obtain ⟨a, b, rfl, rfl, q⟩ := h
  cases jx
  cases jy
  exact ⟨a, b, rfl, rfl, hQ _ s q _ H .refl t (.bl _)⟩
def reverseJ (x : J) (xs : List J) (s : Sto) (Q : QJ) : Prop := ∃ a l, x = .own a ∧ xs = [] ∧ s a = some (.lst l) ∧ Q .non (put s a (.lst l.reverse))
theorem sm_reverse : Sm K rReverse reverseJ := by
  intro F s H v vs x xs Q QV t jx js hQ h
  obtain ⟨a, l, rfl, rfl, e, q⟩ := h
  cases jx
  cases js
  obtain ⟨zs, h1, r⟩ := t.lst e
  exact ⟨a, zs, rfl, rfl, h1, hQ _ _ q _ _ (mask_w e) (t.write e r.reverse) .non⟩
def clearJ (x : J) (xs : List J) (s : Sto) (Q : QJ) : Prop := ∃ a l, x = .own a ∧ xs = [] ∧ s a = some (.lst l) ∧ Q .non (put s a (.lst []))
theorem sm_clear : Sm K rClear clearJ := by
  intro F s H v vs x xs Q QV t jx js hQ h
  obtain ⟨a, l, rfl, rfl, e, q⟩ := h
  cases jx
  cases js
  obtain ⟨zs, h1, r⟩ := t.lst e
  exact ⟨a, zs, rfl, rfl, h1, hQ _ _ q _ _ (mask_w e) (t.write e .nil) .non⟩
end
theorem y_ltS {s : Sto} {Q : QJ} {a b : Str} (q : Q (.bl (decide (a.cps.toList < b.cps.toList))) s) : ltSJ (.str a) (.str b) s Q := ⟨a, b, rfl, rfl, q⟩
theorem y_reverse {s : Sto} {Q : QJ} {a : Addr} {l : List J} (e : s a = some (.lst l)) (q : Q .non (put s a (.lst l.reverse))) : reverseJ (.own a) [] s Q := ⟨a, l, rfl, rfl, e, q⟩
theorem y_clear {s : Sto} {Q : QJ} {a : Addr} {l : List J} (e : s a = some (.lst l)) (q : Q .non (put s a (.lst []))) : clearJ (.own a) [] s Q := ⟨a, l, rfl, rfl, e, q⟩
theorem y_list_o {s : Sto} {Q : QJ} {a : Addr} {l : List J} (e : s a = some (.lst l)) (q : Q (.lst l) s) : jList [.own a] s Q := ⟨_, l, rfl, by unfold seqOf lstOf; dsimp only; rw [e], q⟩
theorem y_listO_l {s : Sto} {Q : QJ} {l : List J} (q : ∀ p, s p = none → Q (.own p) (put s p (.lst l))) : jListO [.lst l] s Q := ⟨_, l, rfl, rfl, q⟩
theorem y_ix_res {s : Sto} {Q : QJ} {x y d : J} {l : List (Key × J)} {k : Key} (e1 : res s x = .dct l) (h : keyOf y = some k) (e : valJ l k = some d) (q : Q d s) : ixJ x y s Q := by
  unfold ixJ ixR
  rw [e1]
  cases y <;> exact ⟨k, d, h, e, q⟩
theorem eqJ_nil {l : List J} : eqJ (.lst l) (.lst []) = l.isEmpty := by cases l <;> rfl
theorem y_ne_onil {s : Sto} {Q : QJ} {a : Addr} {l : List J} (e : s a = some (.lst l)) (h : (J.lst l).ok = true) (q : Q (.bl (!l.isEmpty)) s) : neRJ (.own a) (.lst []) s Q := y_ne_ol e h rfl (by rw [eqJ_nil]; exact q)
end M

namespace M
open PySem PySem.Spec PyProof.Rows L2
/-! ## str(x), {x}, x & y, ~x of own things -/
section
variable {X : Cx} {k j : Nat} {f C : Addr} {ps : List Str} {sp : Sp} {e : Expr} {te : TE} {pos : Pos}
def uStrO (C : Addr) (sp : Sp) : List V → Hp → VK → Prop := fun xs H Q => ∃ a dx fs, xs = [.ref a] ∧ H a = some (.ins C dx fs) ∧ sp [.ref a] H (fun v H' => ∃ z, v = .str z ∧ Q (.str z) H') E0
theorem call_strO (m : Meth X.K C "__str__" f) (h : Ok X.prog X.w X.K X.mg X.base k f ps [] sp) (hr : Room j X.A) (hj : k + 2 ≤ j) : CallR X (.type "str") (uStrO C sp) := by
  obtain ⟨fd, ds, F, kp, v, b⟩ := h
  cases v
  intro pins s σ H xs us Q I r h
  obtain ⟨a, dx, fs, rfl, ha, q⟩ := h
  obtain ⟨u, rfl, ru⟩ := r.one
  cases (show u = Value.ref a from ru)
  obtain ⟨mA, J, _⟩ := ins_get I.hok ha
  obtain ⟨od, J, _⟩ := J.look
  have hr2 : Room k X.A.in1.in1 := (hr.mono hj).in1.in1
  refine PySem.W.kso_call (by have := hr2.un; omega) I.kIn J m.at_ m.fn ?_
  refine wpAny_mono (own_run (us := [.ref a]) (vs := [.ref a]) F b hr2 I.env0.in1.in1 I (.cons rfl .nil) q) (fun w s' z => ?_) fun _ _ x => x
  obtain ⟨z', H', I', rz, n, rfl, qz⟩ := z
  obtain ⟨t, rfl⟩ := (show ∃ t, w = Value.str n t from rz)
  exact ⟨V.str n, H', I', ⟨t, rfl⟩, qz⟩
def tFmtO (C : Addr) (sp : Sp) (te : TE) : TE := fun σ H Q => te σ H fun x H1 => ∃ a dx fs, x = .ref a ∧ H1 a = some (.ins C dx fs) ∧ sp [.ref a] H1 (fun v H' => ∃ z, v = .str z ∧ Q (.str z) H') E0
theorem pe_fmtO (m : Meth X.K C "__str__" f) (fm : PySem.W.findIn X.K (.ref C) "__format__" = some (some (.builtin "object.__format__"))) (hm : PySem.W.mroIn X.K C (.type "object") = some true) (h : Ok X.prog X.w X.K X.mg X.base k f ps [] sp) (hr : Room j X.A) (hj : k + 1 ≤ j) (he : PE X e te) :
    PE X (.FormattedValue e (-1) none pos) (tFmtO C sp te) := by
  obtain ⟨fd, ds, F, kp, v, b⟩ := h
  cases v
  refine ⟨fun pins s σ H Q I h => ?_⟩
  refine wpAny_FormattedValue_plain (thn (he.run pins s σ H _ I h) fun v s1 hv => ?_)
  obtain ⟨x, H1, I1, r1, a, dx, fs, rfl, ha, q⟩ := hv
  cases (show v = Value.ref a from r1)
  obtain ⟨mA, J, _⟩ := ins_get I1.hok ha
  obtain ⟨od, J, _⟩ := J.look
  have hr1 : Room k X.A.in1 := (hr.mono hj).in1
  refine PySem.W.kfo_fieldS (by have := hr1.un; omega) I1.kIn J fm hm m.at_ m.fn ?_
  refine wpAny_mono (own_run (us := [.ref a]) (vs := [.ref a]) F b hr1 (I1.tok _).env0.in1 (I1.tok _) (.cons rfl .nil) q) (fun w s' z => ?_) fun _ _ x => x
  obtain ⟨z', H', I', rz, n, rfl, qz⟩ := z
  obtain ⟨t, rfl⟩ := (show ∃ t, w = Value.str n t from rz)
  exact ⟨V.str n, H', I', ⟨t, rfl⟩, qz⟩
end
section
variable {prog : Program} {w : World} {A : Around} {E : Value → Shared → Prop} {s : Shared} {K : PySem.W.Frag} {x y C f : Addr} {ox oy : Obj} {od oe : Option Obj}
theorem fills_own {nm : String} {mro : List Value} {Q : Bool → Shared → Prop} (X : K.In s.heap) (hmro : PySem.W.Looks (model prog w) s.heap (mroOf (.ref C)) (.ref C :: mro)) (hs : PySem.W.findIn K (.ref C) (dunder nm) = some (some (.ref f)))
    (h : Q true s) : wpAny (model prog w) A (fillsNumberSlot (.ref C) nm) Q E s := by
  unfold fillsNumberSlot
  dsimp only
  refine wpAny_bind (hmro.here ?_)
  simp only [List.anyM]
  refine wpAny_bind (wpAny_bind (wpAny_bind ((PySem.W.looks_findIn X hs).here ?_)))
  dsimp only
  rw [if_pos (by rfl)]
  exact wpAny_pure (wpAny_pure (wpAny_pure h))
theorem bin1_own {nm : String} {mro : List Value} {Q : Option Value → Shared → Prop} (X : K.In s.heap) (I : PySem.W.InstAt s.heap x ox C od) (J : PySem.W.InstAt s.heap y oy C oe)
    (hmro : PySem.W.Looks (model prog w) s.heap (mroOf (.ref C)) (.ref C :: mro)) (hs : PySem.W.findIn K (.ref C) (dunder nm) = some (some (.ref f))) (hf : PySem.W.isFn K (.ref f) = true)
    (h : wpAny (model prog w) A (call (.ref f) [.ref x, .ref y]) (fun v s' => ∃ a, v = .ref a ∧ Q (some (.ref a)) s') E s) : wpAny (model prog w) A (binaryOp1 nm (.ref x) (.ref y)) Q E s := by
  unfold binaryOp1
  dsimp only
  refine wpAny_bind (I.type.here (wpAny_bind (J.type.here (wpAny_bind (fills_own X hmro hs ?_)))))
  rw [if_pos (by simp)]
  refine wpAny_bind (wpAny_pure ?_)
  rw [if_neg (by simp), if_neg (by simp), if_neg (by simp)]
  refine wpAny_bind (wpAny_pure ?_)
  rw [if_neg (by simp), if_pos rfl]
  have key : wpAny (model prog w) A (tryMethod (.ref x) (dunder nm) (.ref y)) (fun r s' => ∃ a, r = some (.ref a) ∧ Q (some (.ref a)) s') E s := by
    unfold tryMethod
    refine wpAny_bind (PySem.W.special_fn X I hs (beq_iff_eq.mp hf) (wpAny_mono h (fun v s' hv => ?_) fun _ _ e => e))
    obtain ⟨a, rfl, hq⟩ := hv
    exact wpAny_pure ⟨a, rfl, hq⟩
  refine wpAny_bind (wpAny_mono key (fun r s' hr => ?_) fun _ _ e => e)
  obtain ⟨a, rfl, hq⟩ := hr
  exact wpAny_pure hq
theorem bin_own {op : Operator} {sym nm : String} {mro : List Value} {Q : Value → Shared → Prop} (ho : op.info = (sym, nm)) (X : K.In s.heap) (I : PySem.W.InstAt s.heap x ox C od) (J : PySem.W.InstAt s.heap y oy C oe)
    (hmro : PySem.W.Looks (model prog w) s.heap (mroOf (.ref C)) (.ref C :: mro)) (hs : PySem.W.findIn K (.ref C) (dunder nm) = some (some (.ref f))) (hf : PySem.W.isFn K (.ref f) = true)
    (h : wpAny (model prog w) A (call (.ref f) [.ref x, .ref y]) (fun v s' => ∃ a, v = .ref a ∧ Q (.ref a) s') E s) : wpAny (model prog w) A (binaryOp op (.ref x) (.ref y)) Q E s := by
  unfold binaryOp
  refine wpAny_holding ?_
  rw [ho]
  dsimp only
  refine wpAny_bind (wpAny_mono (bin1_own (Q := fun r s' => ∃ a, r = some (.ref a) ∧ Q (.ref a) s') X I J hmro hs hf (wpAny_mono h (fun v s' hv => ?_) fun _ _ e => e)) (fun r s' hr => ?_) fun _ _ e => e)
  · obtain ⟨a, rfl, hq⟩ := hv
    exact ⟨a, rfl, a, rfl, hq⟩
  · obtain ⟨a, rfl, hq⟩ := hr
    exact wpAny_pure hq
theorem inv_own {Q : Value → Shared → Prop} (X : K.In s.heap) (I : PySem.W.InstAt s.heap x ox C od) (hs : PySem.W.findIn K (.ref C) "__invert__" = some (some (.ref f))) (hf : PySem.W.isFn K (.ref f) = true)
    (h : wpAny (model prog w) A (call (.ref f) [.ref x]) Q E s) : wpAny (model prog w) A (unaryOp .Invert (.ref x)) Q E s := by
  unfold unaryOp
  refine wpAny_holding ?_
  dsimp only
  rw [if_neg (by decide)]
  refine wpAny_bind (PySem.W.special_fn X I hs (beq_iff_eq.mp hf) (wpAny_mono h (fun v s' hv => ?_) fun _ _ e => e))
  exact wpAny_pure hv
end
/-- a class stands first in its own order -/
def mroB (K : PySem.W.Frag) (C : Addr) : Bool := match PySem.W.clsIn K C with
  | some cd => (match cd.mro with
    | c :: _ => c == .ref C
    | [] => false)
  | none => false
theorem mroB_ok {K : PySem.W.Frag} {C : Addr} (h : mroB K C = true) : ∃ mro, ∀ {M : Model} {hp : Heap}, K.In hp → PySem.W.Looks M hp (mroOf (.ref C)) (.ref C :: mro) := by
  unfold mroB at h
  split at h
  · rename_i cd e
    split at h
    · rename_i c l e2
      have ec : c = .ref C := beq_iff_eq.mp h
      refine ⟨l, fun {M hp} X => ?_⟩
      rw [← ec, ← e2]
      rw [ec]
      exact (PySem.W.looks_clsIn X e).andThen .now
    · cases h
  · cases h
section
variable {X : Cx} {k j : Nat} {f C : Addr} {ps : List Str} {sp : Sp} {a b : Expr} {ta tb : TE} {W : WX} {pos : Pos} {op : Operator} {sym nm : String} {name : Str}
theorem own_runW {fd : FuncData} {pins : List (Addr × Obj)} {σ : L2.St} {H : Hp} {s : Shared} {Q : VK} {us : List Value} {vs : List V} (F : FnOk X.prog X.w X.K X.mg X.base (L2N.CX X.prog X.w) k f fd ps sp) (hb : Binds X.K fd ps []) (hr : Room k X.A) (tk : L2N.Takes X W) (I : Inv X pins σ H s) (r : Vals vs us) (h : sp vs H Q (WE W σ)) :
    wpAny (model X.prog X.w) X.A (call (.ref f) us) (EP X pins σ Q) X.xe s := by
  have hl : us.length = ps.length := by rw [← Paired.length r]; exact F.len _ _ _ _ h
  refine wpAny_call (codeAny_mono (F.run X.A X.stack s H ⟨us, []⟩ us vs Q (WE W σ) hr I.env0 (by have := hb s us I.kIn (by simpa using hl); simpa using this) r h) fun rr s' hq => ?_)
  cases rr with
  | error e => exact L2N.passAt tk σ pins _ _ e s' I hq
  | ok fl =>
    cases fl with
    | ret u => exact I.after hq
    | next => exact False.elim hq
    | brk => exact False.elim hq
    | cont => exact False.elim hq
def tBinO (C : Addr) (sp : Sp) (E : L2.St → XK) (ta tb : TE) : TE := fun σ H Q => ta σ H fun x H1 => tb σ H1 fun y H2 => ∃ a b dx fs dy gs, x = .ref a ∧ y = .ref b ∧ H2 a = some (.ins C dx fs) ∧ H2 b = some (.ins C dy gs) ∧ sp [x, y] H2 (fun v H' => (∃ c, v = .ref c) ∧ Q v H') (E σ)
theorem pe_binO (ho : op.info = (sym, nm)) (hn : dunder nm = name) (hm : mroB X.K C = true) (m : Meth X.K C name f) (h : Ok X.prog X.w X.K X.mg X.base k f ps [] sp) (hr : Room j X.A) (hj : k ≤ j) (tk : L2N.Takes X W) (ha : PE X a ta) (hb : PE X b tb) :
    PE X (.BinOp a op b pos) (tBinO C sp (WE W) ta tb) := by
  obtain ⟨fd, ds, F, kp, v, bd⟩ := h
  cases v
  subst hn
  refine ⟨fun pins s σ H Q I h => ?_⟩
  refine wpAny_BinOp (binT ha hb I h fun v u s2 x y H2 I2 rx ry q => ?_)
  obtain ⟨p, r, dx, fs, dy, gs, rfl, rfl, e1, e2, q⟩ := q
  cases (show v = Value.ref p from rx)
  cases (show u = Value.ref r from ry)
  obtain ⟨mA, J1, _⟩ := ins_get I2.hok e1
  obtain ⟨od1, J1, _⟩ := J1.look
  obtain ⟨mB, J2, _⟩ := ins_get I2.hok e2
  obtain ⟨od2, J2, _⟩ := J2.look
  obtain ⟨mro, hl⟩ := mroB_ok hm
  refine bin_own ho I2.kIn J1 J2 (hl I2.kIn) m.at_ m.fn ?_
  refine wpAny_mono (own_runW (us := [.ref p, .ref r]) (vs := [.ref p, .ref r]) F bd (hr.mono hj) tk I2 (.cons rfl (.cons rfl .nil)) q) (fun w s' z => ?_) fun _ _ x => x
  obtain ⟨z', H', I', rz, ⟨c, rfl⟩, qz⟩ := z
  obtain rfl : w = Value.ref c := rz
  exact ⟨c, rfl, V.ref c, H', I', rfl, qz⟩
def tInvO (C : Addr) (sp : Sp) (E : L2.St → XK) (ta : TE) : TE := fun σ H Q => ta σ H fun x H1 => ∃ a dx fs, x = .ref a ∧ H1 a = some (.ins C dx fs) ∧ sp [x] H1 Q (E σ)
theorem pe_invO (m : Meth X.K C "__invert__" f) (h : Ok X.prog X.w X.K X.mg X.base k f ps [] sp) (hr : Room j X.A) (hj : k ≤ j) (tk : L2N.Takes X W) (ha : PE X a ta) : PE X (.UnaryOp .Invert a pos) (tInvO C sp (WE W) ta) := by
  obtain ⟨fd, ds, F, kp, v, bd⟩ := h
  cases v
  refine ⟨fun pins s σ H Q I h => ?_⟩
  refine UnaryOp_ (thn (ha.run pins s σ H _ I h) fun v s1 ⟨x, H1, I1, r1, q1⟩ => ?_)
  obtain ⟨p, dx, fs, rfl, e1, q⟩ := q1
  cases (show v = Value.ref p from r1)
  obtain ⟨mA, J1, _⟩ := ins_get I1.hok e1
  obtain ⟨od1, J1, _⟩ := J1.look
  refine inv_own I1.kIn J1 m.at_ m.fn ?_
  exact own_runW (us := [.ref p]) (vs := [.ref p]) F bd (hr.mono hj) tk I1 (.cons rfl .nil) q
end
/-! ### over data -/
section
variable {K : PySem.W.Frag} {w : WJ} {c : Str} {W : WX} {ta tb te : TE} {pa pb pe : TJ}
def strOJ (c : Str) (w : WJ) (xs : List J) (s : Sto) (Q : QJ) : Prop := ∃ x, xs = [x] ∧ (∃ fs, objOf s x = some (c, fs)) ∧ w [x] s (fun d s' => ∃ z : Str, d = .str z ∧ Q (.str z) s') No
theorem sf_strO : Sf K (uStrO (He.ga K c) (spJ K w)) (strOJ c w) := by
  intro F s H v x Q QV t js hQ h
  obtain ⟨y, rfl, ⟨fs, e⟩, q⟩ := h
  obtain ⟨u, rfl, j⟩ := jps1 js
  obtain ⟨a, dx, xs, rfl, h1, r⟩ := jp_obj t j e
  refine ⟨a, dx, xs, rfl, h1, F, s, [y], _, No, .cons j .nil, t, fun d s' h => ?_, fun _ _ _ z => z.elim, q⟩
  obtain ⟨n, rfl, q⟩ := h
  intro v' H' l st j
  cases j
  exact ⟨n, rfl, hQ _ s' q _ H' l st (.str _)⟩
def FmtOX (c : Str) (w : WJ) (s : Sto) (x : J) (Q : QJ) : Prop := (∃ fs, objOf s x = some (c, fs)) ∧ w [x] s (fun d s' => ∃ z : Str, d = .str z ∧ Q (.str z) s') No
def jFmtO (c : Str) (w : WJ) (p : TJ) : TJ := fun ρ s Q R => p ρ s (fun x s1 => FmtOX c w s1 x Q) R
theorem se_fmtO (he : Se K W te pe) : Se K W (tFmtO (He.ga K c) (spJ K w) te) (jFmtO c w pe) := by
  intro F ρ s σ H Q R QV a hQ hR h
  refine he F ρ s σ H _ R _ a (fun x s1 h1 v1 H1 l1 st1 j1 => ?_) hR h
  obtain ⟨⟨fs, e⟩, q⟩ := h1
  obtain ⟨b, dx, xs, rfl, eb, r⟩ := jp_obj st1 j1 e
  refine ⟨b, dx, xs, rfl, eb, F, s1, [x], _, No, .cons j1 .nil, st1, fun d s' h => ?_, fun _ _ _ z => z.elim, q⟩
  obtain ⟨n, rfl, q⟩ := h
  intro v' H' l st j
  cases j
  exact ⟨n, rfl, hQ _ s' q _ H' (l1.trans l) st (.str _)⟩
def BinX (c : Str) (w : WJ) (s : Sto) (x y : J) (Q : QJ) (R : XJ) : Prop := (∃ fs, objOf s x = some (c, fs)) ∧ (∃ fs, objOf s y = some (c, fs)) ∧ w [x, y] s (fun d s' => (∃ c' fs', objOf s' d = some (c', fs')) ∧ Q d s') R
def jBinO (c : Str) (w : WJ) (pa pb : TJ) : TJ := fun ρ s Q R => pa ρ s (fun x s1 => pb ρ s1 (fun y s2 => BinX c w s2 x y Q R) R) R
theorem se_binO (ha : Se K W ta pa) (hb : Se K W tb pb) : Se K W (tBinO (He.ga K c) (spJ K w) (WE W) ta tb) (jBinO c w pa pb) := by
  intro F ρ s σ H Q R QV a hQ hR h
  refine ha F ρ s σ H _ R _ a (fun x s1 h1 v1 H1 l1 st1 j1 => ?_) hR h
  refine hb F ρ s1 σ H1 _ R _ (a.to l1 st1) (fun y s2 h2 v2 H2 l2 st2 j2 => ?_) (fun c fs s' hr => (hR c fs s' hr).up l1) h1
  obtain ⟨⟨fs, e1⟩, ⟨gs, e2⟩, q⟩ := h2
  obtain ⟨p, dx, xs, rfl, eb1, _⟩ := jp_obj st2 (j1.up l2) e1
  obtain ⟨r, dy, ys, rfl, eb2, _⟩ := jp_obj st2 j2 e2
  refine ⟨p, r, dx, xs, dy, ys, rfl, rfl, eb1, eb2, F, s2, [x, y], _, R, .cons (j1.up l2) (.cons j2 .nil), st2, fun d s' h => ?_, fun c fs s' hr => (hR c fs s' hr).up (l1.trans l2), q⟩
  obtain ⟨⟨c', fs', e3⟩, q⟩ := h
  intro v' H' l st j
  obtain ⟨u, du, us, rfl, _, _⟩ := jp_obj st j e3
  exact ⟨⟨u, rfl⟩, hQ _ s' q _ H' ((l1.trans l2).trans l) st j⟩
def InvX (c : Str) (w : WJ) (s : Sto) (x : J) (Q : QJ) (R : XJ) : Prop := (∃ fs, objOf s x = some (c, fs)) ∧ w [x] s Q R
def jInvO (c : Str) (w : WJ) (pa : TJ) : TJ := fun ρ s Q R => pa ρ s (fun x s1 => InvX c w s1 x Q R) R
theorem se_invO (ha : Se K W ta pa) : Se K W (tInvO (He.ga K c) (spJ K w) (WE W) ta) (jInvO c w pa) := by
  intro F ρ s σ H Q R QV a hQ hR h
  refine ha F ρ s σ H _ R _ a (fun x s1 h1 v1 H1 l1 st1 j1 => ?_) hR h
  obtain ⟨⟨fs, e⟩, q⟩ := h1
  obtain ⟨b, dx, xs, rfl, eb, r⟩ := jp_obj st1 j1 e
  exact ⟨b, dx, xs, rfl, eb, F, s1, [x], Q, R, .cons j1 .nil, st1, fun d s' q => (hQ d s' q).up l1, fun c fs s' hr => (hR c fs s' hr).up l1, q⟩
end
section
variable {s : Sto} {Q : QJ} {R : XJ} {x y : J} {c : Str} {w : WJ} {ρ : Rho} {pa pb : TJ}
theorem y_strO {fs : List (Str × J)} (q : w [.obj c fs] s (fun d s' => ∃ z : Str, d = .str z ∧ Q (.str z) s') No) : strOJ c w [.obj c fs] s Q := ⟨_, rfl, ⟨fs, rfl⟩, q⟩
theorem y_fmtO (h : pa ρ s (fun x s1 => FmtOX c w s1 x Q) R) : jFmtO c w pa ρ s Q R := h
theorem y_fmtX {fs : List (Str × J)} (q : w [.obj c fs] s (fun d s' => ∃ z : Str, d = .str z ∧ Q (.str z) s') No) : FmtOX c w s (.obj c fs) Q := ⟨⟨fs, rfl⟩, q⟩
theorem y_binO (h : pa ρ s (fun x s1 => pb ρ s1 (fun y s2 => BinX c w s2 x y Q R) R) R) : jBinO c w pa pb ρ s Q R := h
theorem y_binX {fs gs : List (Str × J)} (q : w [.obj c fs, .obj c gs] s (fun d s' => (∃ c' fs', objOf s' d = some (c', fs')) ∧ Q d s') R) : BinX c w s (.obj c fs) (.obj c gs) Q R := ⟨⟨fs, rfl⟩, ⟨gs, rfl⟩, q⟩
theorem y_invO (h : pa ρ s (fun x s1 => InvX c w s1 x Q R) R) : jInvO c w pa ρ s Q R := h
theorem y_invX {fs : List (Str × J)} (q : w [.obj c fs] s Q R) : InvX c w s (.obj c fs) Q R := ⟨⟨fs, rfl⟩, q⟩
end
end M

namespace M
open PySem PySem.Spec PyProof.Rows L2
/-! ## errors without fields: raise C(), except C as e, isinstance(e, D) -/
structure Err0 (K : PySem.W.Frag) (C : Addr) : Prop where
  q : PySem.W.excIn K C He.veBase "ValueError.__new__" = true
  k : PySem.W.keepIn K (.ref C) = true
  b : PySem.W.subIn K (.ref C) (.type "BaseException") = some true
  t : PySem.W.typeIn K (.ref C) = some (.type "type")
theorem err0_ok {K : PySem.W.Frag} {C : Addr} (h : PySem.W.excIn K C He.veBase "ValueError.__new__" = true ∧ PySem.W.keepIn K (.ref C) = true ∧ PySem.W.subIn K (.ref C) (.type "BaseException") = some true ∧ PySem.W.typeIn K (.ref C) = some (.type "type")) : Err0 K C := ⟨h.1, h.2.1, h.2.2.1, h.2.2.2⟩
def tMk0 (C : Addr) : L2.St → Hp → XK → Prop := fun _ H Q => Q (.ref C) none H
theorem pmk_own0 {X : Cx} {x : Str} {p pos : Pos} {C : Addr} (E : Err0 X.K C) (gC : X.mg x = some (.ref C)) (hg : Gl X x := by rfl) (hdb : (x == ("__debug__" : Str)) = false := by decide) : L2N.PMk X (.Call (.Name x p) [] [] pos) (tMk0 C) := by
  intro pins s σ H Q I h
  refine wpAny_Call_Name_kw (ld_glob I hg gC ?_ hdb)
  refine PySem.W.callWith_K0 I.kIn E.k ?_
  show wpAny _ _ (call (.ref C) []) _ _ _
  obtain ⟨bm, N, nm, qn, bs, hdct, sn, sub, ab, col, dd, k0, k1, k2, k3, k5, mN, hC, hN, hni, T⟩ := exc_obj I.kIn E.q
  refine wpAny_call_exc_subT PySem.F.excBase_ValueError T hC hN hni (fun h' e hm => ?_) (by show 0 ≤ sizeLine; omega)
  exact L2N.mk_of I hm (raises_own E.b E.t) h (I.hok.gone hm.new)
def jRaise0 (c : Str) : SJ := fun D ρ s => D.xr ρ c [] s
theorem ss_raise0 {K : PySem.W.Frag} {W : WX} {c : Str} : Ss K W (tRaise W (tMk0 (He.ga K c))) (jRaise0 c) := by
  intro F D DV ρ s σ H a e h
  exact e.xr ρ c [] s σ h none H .refl a rfl
def excV (a : Addr) : Option Addr → J
  | none => .own a
  | some dd => .exc a dd []
def jTryE (tab : List (Str × Bool)) (i : Nat) (b : SJ) (u : Str → Addr → Option Addr → SJ) : SJ := fun D ρ s =>
  b { D with xr := fun ρ' c fs s' => ∃ k, tab.lookup c = some k ∧ if k = true then fs = [] ∧ ∀ a d, s' a = none → u c a d { D with nx := fun ρ2 s2 => D.nx (ρ2.set i none) s2, bk := fun ρ2 s2 => D.bk (ρ2.set i none) s2, ct := fun ρ2 s2 => D.ct (ρ2.set i none) s2, xr := fun _ => No } (ρ'.set i (some (excV a d))) s' else D.xr ρ' c fs s' } ρ s
def isXE (tab : List (Str × Bool)) (x c : Str) (a : Addr) (d : Option Addr) (xs : List J) (s : Sto) (Q : QJ) : Prop := ∃ b, xs = [excV a d, .cls x] ∧ tab.lookup c = some b ∧ Q (.bl b) s
section
variable {K : PySem.W.Frag} {W : WX}
theorem excV_ok {G : Hp} {a : Addr} {d : Option Addr} (x : XD K G d []) : Jp K G (.ref a) (excV a d) := by
  cases d with
  | none => exact .own a
  | some dd =>
    obtain ⟨vs, e, r⟩ := x
    exact .exc e r
theorem ss_tryE {x : Str} {tab : List (Str × Bool)} {i : Nat} {tb : WX → TS} {ts : Addr → Value → Option Addr → TS} {q : SJ} {u : Str → Addr → Option Addr → SJ} (hk : ∀ p ∈ tab, PySem.W.exmOne K (.ref (He.ga K p.1)) (.ref (He.ga K x)) = some p.2)
    (hb : ∀ W', Ss K W' (tb W') q) (hu : ∀ c a d, Ss K W0 (ts a (.ref (He.ga K c)) d) (u c a d)) : Ss K W (fun D σ H => tb (wAs K (.ref (He.ga K x)) i ts W D) D σ H) (jTryE tab i q u) := by
  intro F D DV ρ s σ H a e h
  refine hb _ F { D with xr := fun ρ' c fs s' => ∃ k, tab.lookup c = some k ∧ if k = true then fs = [] ∧ ∀ a d, s' a = none → u c a d { D with nx := fun ρ2 s2 => D.nx (ρ2.set i none) s2, bk := fun ρ2 s2 => D.bk (ρ2.set i none) s2, ct := fun ρ2 s2 => D.ct (ρ2.set i none) s2, xr := fun _ => No } (ρ'.set i (some (excV a d))) s' else D.xr ρ' c fs s' } DV ρ s σ H a ⟨e.nx, e.rt, e.bk, e.ct, ?_⟩ h
  intro ρ' c fs s' σ' hx d H' l' a' xd
  obtain ⟨k, e1, hx⟩ := hx
  refine ⟨k, hk _ (look_mem e1), ?_, ?_⟩
  · rintro rfl b hb'
    obtain ⟨rfl, hx⟩ := hx
    have st := a'.st
    refine hu c b d F { D with nx := fun ρ2 s2 => D.nx (ρ2.set i none) s2, bk := fun ρ2 s2 => D.bk (ρ2.set i none) s2, ct := fun ρ2 s2 => D.ct (ρ2.set i none) s2, xr := fun _ => No } _ _ s' _ H' ⟨a'.rs.set i (excV_ok xd), st⟩ ⟨?_, ?_, ?_, ?_, ?_⟩ (hx b d (st.fresh hb').1)
    · intro ρ2 s2 σ2 H2 h2 l2 a2
      exact e.nx _ s2 _ H2 h2 (l'.trans l2) ⟨a2.rs.set0 i, a2.st⟩
    · intro d2 s2 h2
      exact (e.rt d2 s2 h2).up l'
    · intro ρ2 s2 σ2 H2 h2 l2 a2
      exact e.bk _ s2 _ H2 h2 (l'.trans l2) ⟨a2.rs.set0 i, a2.st⟩
    · intro ρ2 s2 σ2 H2 h2 l2 a2
      exact e.ct _ s2 _ H2 h2 (l'.trans l2) ⟨a2.rs.set0 i, a2.st⟩
    · intro _ _ _ _ _ z
      exact z.elim
  · rintro rfl
    exact e.xr ρ' c fs s' σ' hx d H' l' a' xd
theorem sf_isXE {tab : List (Str × Bool)} {x c : Str} {a : Addr} {d : Option Addr} (hk : ∀ p ∈ tab, kxB K (He.ga K p.1) = true ∧ XfC K (He.ga K p.1) ∧ PySem.W.kitOne K (.ref (He.ga K p.1)) (.ref (He.ga K x)) = some p.2) :
    Sf K (rIsX K a (.ref (He.ga K c)) d) (isXE tab x c a d) := by
  intro F s H v xs Q QV t js hQ h
  obtain ⟨b, rfl, e, q⟩ := h
  obtain ⟨u, w, rfl, j1, j2⟩ := jps2 js
  cases j2
  obtain ⟨k1, k2, k3⟩ := hk _ (look_mem e)
  cases d with
  | none =>
    cases j1
    exact ⟨_, _, _, b, rfl, rfl, .inl rfl, k1, k2, .own _, k3, hQ _ s q _ H .refl t (.bl _)⟩
  | some dd =>
    cases j1 with | exc e2 r =>
    exact ⟨_, _, _, b, rfl, rfl, .inr ⟨dd, _, rfl, (of_mask e2).2.2⟩, k1, k2, .own _, k3, hQ _ s q _ H .refl t (.bl _)⟩
end
section
variable {s : Sto} {Q : QJ} {R : XJ} {i : Nat} {b : SJ} {ρ : Rho} {n bk ct : Rho → Sto → Prop} {rt : QJ} {xr : Rho → XJ}
theorem y_raise0 {c : Str} (h : xr ρ c [] s) : jRaise0 c (EJ.mk n rt bk ct xr) ρ s := h
def XrE (tab : List (Str × Bool)) (u : Str → Addr → Option Addr → SJ) (i : Nat) (n : Rho → Sto → Prop) (rt : QJ) (bk ct : Rho → Sto → Prop) (xr : Rho → XJ) : Rho → XJ := fun ρ' c fs s' => ∃ k, tab.lookup c = some k ∧ if k = true then fs = [] ∧ ∀ a d, s' a = none → u c a d (EJ.mk (fun ρ2 s2 => n (ρ2.set i none) s2) rt (fun ρ2 s2 => bk (ρ2.set i none) s2) (fun ρ2 s2 => ct (ρ2.set i none) s2) (fun _ => No)) (ρ'.set i (some (excV a d))) s' else xr ρ' c fs s'
theorem y_tryE {tab : List (Str × Bool)} {v : Str → Addr → Option Addr → SJ} (h : b (EJ.mk n rt bk ct (XrE tab v i n rt bk ct xr)) ρ s) : jTryE tab i b v (EJ.mk n rt bk ct xr) ρ s := h
theorem y_xrE {tab : List (Str × Bool)} {v : Str → Addr → Option Addr → SJ} {c : Str} (h : ∀ a d, s a = none → v c a d (EJ.mk (fun ρ2 s2 => n (ρ2.set i none) s2) rt (fun ρ2 s2 => bk (ρ2.set i none) s2) (fun ρ2 s2 => ct (ρ2.set i none) s2) (fun _ => No)) (ρ.set i (some (excV a d))) s)
    (e : tab.lookup c = some true := by with_unfolding_all rfl) : XrE tab v i n rt bk ct xr ρ c [] s := ⟨true, e, by rw [if_pos rfl]; exact ⟨rfl, h⟩⟩
theorem y_isXE {tab : List (Str × Bool)} {x c : Str} {a : Addr} {d : Option Addr} {k : Bool} (q : Q (.bl k) s) (e : tab.lookup c = some k := by with_unfolding_all rfl) : isXE tab x c a d [excV a d, .cls x] s Q := ⟨k, rfl, e, q⟩
end
end M

namespace M
open PySem PySem.Spec PyProof.Rows L2
/-! ## defs that are run while no repr is under way -/
structure FnG (P : Program) (w : World) (K : PySem.W.Frag) (mg : Str → Option Value) (base : Heap) (CX : CXT) (k : Nat) (f : Addr) (fd : FuncData) (ps : List Str) (sp : Sp) : Prop where
  lg : ∀ vs H Q E, sp vs H Q E → vs.length = ps.length
  go : ∀ (A : Around) (fr : List Env) (s : Shared) (H : Hp) (ar : Args) (us : List Value) (vs : List V) (Q : VK) (E : XK), A.guards = some [] → Room k A → Env0 P w K mg base A fr s H →
    BindsTo s fd ar (ps.zip us) → Vals vs us → sp vs H Q E → codeAny (model P w) A (.call (.ref f) ar) (CR CX fr P w H s Q E) s
section
variable {P : Program} {w : World} {K : PySem.W.Frag} {mg : Str → Option Value} {base : Heap} {CX : CXT} {k j : Nat} {f : Addr} {fd : FuncData} {ps N : List Str} {sp : Sp} {x qual : Str} {params : Arguments} {body : List Stmt} {scope : Scope} {dvs : List V} {kws : List (Str × V)}
theorem FnG.of (F : FnOk P w K mg base CX k f fd ps sp) : FnG P w K mg base CX k f fd ps sp := ⟨F.len, fun A fr s H ar us vs Q E _ r e b v h => F.run A fr s H ar us vs Q E r e b v h⟩
theorem FnG.up (F : FnG P w K mg base CX j f fd ps sp) (h : j ≤ k) : FnG P w K mg base CX k f fd ps sp := ⟨F.lg, fun A fr s H ar us vs Q E g r => F.go A fr s H ar us vs Q E g (r.mono h)⟩
theorem fnG_of (F : FunD K x qual params body scope dvs kws f fd) (S : FnScope N ps scope) (lg : ∀ vs H Q E, sp vs H Q E → vs.length = ps.length)
    (b : ∀ (cdv : Value) (A : Around) (outer : List Env) (s : Shared) (H : Hp) (vs : List V) (Q : VK) (E : XK), A.guards = some [] → Room k (A.deeper (envOfC qual scope s.heap.objs.size f cdv)) → sp vs H Q E →
      ∃ t, PSs (cxOf CX P w K mg base N qual scope f cdv A outer s H E) body t ∧ t (Ends.mk (fun _ H' => Q .non H') Q (fun _ _ => False) (fun _ _ => False)) (start N vs) H) : FnG P w K mg base CX (k + 1) f fd ps sp := by
  obtain ⟨c1, c2, v1, v2, v3, v4, an, cv, c3, sl, rfl, look, code, -, -⟩ := F.ex
  refine ⟨lg, fun A fr s H ar us vs Q E gd room en bd rv hs => ?_⟩
  have inS : K.In s.heap := en.mod.kin.keeps fun z u q => (en.bs z u q).1
  have noL : s.heap.NoLimit := en.mod.nolimit.keeps fun z u q => (en.bs z u q).1
  have kinds : ∀ z ∈ ps.zip us, scope.names.lookup z.1 = some .local ∨ (scope.names.lookup z.1 = some .cell ∧ ((cellsFrom (s.heap.objs.size + 1) scope.names []).lookup z.1).isSome = true) := by
    intro z hz
    cases S.par z.1 (List.of_mem_zip (a := z.1) (b := z.2) hz).1 with
    | inl q => exact .inl q
    | inr q => exact .inr ⟨q, PySem.W.cellsFrom_some _ _ _ (.inl q)⟩
  refine codeAny_call_function room.depth (inS _ _ look) rfl S.co S.gen rfl (PySem.W.codeRec_of inS code) (bd _ _ _ _ ?_)
  refine wpAny_newFunctionEnv_cells S.kind kinds fun ev he s1 x1 => ?_
  subst he
  refine ⟨noL.keeps x1.toInCall.keep, codeAny_func ?_⟩
  obtain ⟨t, ht, tq⟩ := b cv A fr s H vs Q E gd (room.deeper _) hs
  have J : Inv (cxOf CX P w K mg base N qual scope f cv A fr s H E) [] (start N vs) H s1 := inv_start S room.hd en (lg _ _ _ _ hs) rv x1
  have fin : ∀ {σ' : L2.St} {H' : Hp} {v : V} {u : Value} {s' : Shared}, Inv (cxOf CX P w K mg base N qual scope f cv A fr s H E) [] σ' H' s' → RelV v u → Q v H' → CE fr P w H s Q u s' :=
    fun {_ H' v _ _} i r q => ⟨v, H', i.os, i.bare, i.base, i.hok, r, q⟩
  refine wpAny_mono (ht.run [] s1 (start N vs) H _ J tq) (fun fl s' z => ?_) fun _ _ z => z
  cases fl with
  | ret u => obtain ⟨v, σ', H', i, r, q⟩ := z; exact fin i r q
  | next => obtain ⟨σ', H', i, q⟩ := z; exact fin (v := .non) (u := Value.none) i rfl q
  | brk => obtain ⟨_, _, _, q⟩ := z; exact q.elim
  | cont => obtain ⟨_, _, _, q⟩ := z; exact q.elim
end
def OkG (P : Program) (w : World) (K : PySem.W.Frag) (mg : Str → Option Value) (base : Heap) (k : Nat) (f : Addr) (ps : List Str) (dvs : List V) (sp : Sp) : Prop :=
  ∃ fd ds, FnG P w K mg base (L2N.CX P w) k f fd ps sp ∧ PySem.W.keepIn K (.ref f) = true ∧ Vals dvs ds ∧ Binds K fd ps ds
theorem pe_cG {X : Cx} {k j : Nat} {f : Addr} {ps : List Str} {sp : Sp} {dvs : List V} {x : Str} {p pos : Pos} {e : Expr} {es : List Expr} {t : TA} {W : WX} (h : OkG X.prog X.w X.K X.mg X.base k f ps dvs sp) (gd : X.A.guards = some []) (hr : Room j X.A) (hj : k ≤ j) (hm : X.mg x = some (.ref f)) (tk : L2N.Takes X W) (ha : PA X (e :: es) t)
    (hg : Gl X x := by rfl) (hdb : (x == ("__debug__" : Str)) = false := by decide) (he : starEach (e :: es) X.env = (false, eval e X.env) :: starEach es X.env := by rfl) (hpl : (backTo pos (starEach es X.env)).any (·.1) = false := by rfl) :
    PE X (.Call (.Name x p) (e :: es) [] pos) (tCallSD sp dvs (WE W) t) := by
  obtain ⟨fd, ds, F0, kp, v, b⟩ := h
  have F := F0.up hj
  refine ⟨fun pins s σ H Q I hh => wpAny_Call_Name_kw (ld_glob I hg hm ?_ hdb)⟩
  refine PySem.W.callWith_K (h₀ := X.base) I.ok.mod.kin kp (thn (ha.run pos pins s σ H _ I hh) fun us s1 ⟨vs, H1, I1, r, q⟩ => ⟨I1.kIn, ?_⟩) he hpl
  have r2 : Vals (vs ++ dvs) (us ++ ds) := r.append v
  have l2 : (us ++ ds).length = ps.length := r2.length.symm.trans (F.lg _ _ _ _ q)
  refine wpAny_call (codeAny_mono (F.go X.A X.stack s1 H1 ⟨us, []⟩ (us ++ ds) (vs ++ dvs) Q _ gd hr I1.env0 (b s1 us I1.kIn l2) r2 q) fun z s' hq => ?_)
  cases z with
  | error z => exact L2N.passAt tk σ pins H1 s1 z s' I1 hq
  | ok fl => cases fl with
    | ret u => exact I1.after hq
    | next => exact (show False from hq).elim
    | brk => exact (show False from hq).elim
    | cont => exact (show False from hq).elim
/-! ### the law, called where nothing is under way -/
theorem end_core {P : Program} {w : World} {K : PySem.W.Frag} {mg mb : Str → Option Value} {k : Nat} {fa a : Addr} {fd : FuncData} {x : Str} {sp : Sp} {s₁ : Shared} {vs : List Value} {H : Hp}
    (KX : K.In s₁.heap) (hns : s₁.heap.Ns mainGlobals mg) (hb : s₁.heap.Ns builtinsNs mb) (hbb : ∀ x : Str, x ≠ "__name__" → mb x = bootBuiltins x) (hlim : s₁.heap.NoLimit) (hg : s₁.gens = #[])
    (ha : s₁.heap.get? a = some { cls := .type "list", data := .seq vs.toArray }) (hr : Room k callerA)
    (F : ∀ base : Heap, K.In base → base.Ns mainGlobals mg → FnG P w K mg base (L2N.CX P w) k fa fd [x] sp) (hbind : ∀ (s : Shared) (u : Value), BindsTo s fd ⟨[u], []⟩ [(x, u)])
    (hs : sp [.ref a] H (fun v _ => v = .bl true) fun _ _ _ => False) (hok : HOk P w H s₁.heap) (one : ∀ b o, H b = some o → b = a ∧ K.lookup a = none ∧ ∃ u l, o = .frz u l) :
    codeAny (model P w) callerA (.call (.ref fa) ⟨[.ref a], []⟩) (fun r s' => r = .ok (.ret (.bool true)) ∧ OldK s₁.heap s'.heap ∧ s'.os = s₁.os ∧ AllBare s'.gens) s₁ := by
  have see : ∀ {b : Addr} {o : Obj}, s₁.heap.get? b = some o → (b = a → False) → (hidT s₁.heap H).get? b = some o := fun {b o} e n => hidT_get e (by
    cases q : H b with
    | none => rfl
    | some u => exact (n (one b u q).1).elim)
  have ns : ∀ {b : Addr} {m : Str → Option Value}, s₁.heap.Ns b m → (hidT s₁.heap H).Ns b m := by
    rintro b m ⟨o, es, ep, e, d, r⟩
    refine ⟨o, es, ep, see e ?_, d, r⟩
    rintro rfl
    rw [ha] at e
    cases e
    cases d
  have kin : K.In (hidT s₁.heap H) := fun b o e => hidT_get (KX b o e) (by
    cases q : H b with
    | none => rfl
    | some u =>
      obtain ⟨rfl, z, _⟩ := one b u q
      rw [e] at z
      cases z)
  obtain ⟨mc, c1, c2⟩ := hlim
  have md : Mod K mg (hidT s₁.heap H) := ⟨kin, ns hns, ⟨mb, ns hb, hbb⟩, mc, ns c1, c2⟩
  have en : Env0 P w K mg (hidT s₁.heap H) callerA [] s₁ H := ⟨rfl, md, fun _ _ => of_hidT, Nat.le_of_eq (hidT_size _ _), trivial, fun _ z => (nomatch z), hok, .of_eq hg⟩
  have run := (F _ kin (ns hns)).go callerA [] s₁ H ⟨[.ref a], []⟩ [.ref a] [.ref a] _ _ rfl hr en (hbind s₁ (.ref a)) (.cons rfl .nil) hs
  refine codeAny_mono run fun r s' h => ?_
  cases r with
  | error e =>
    obtain ⟨_, _, _, _, _, _, _, _, _, _, _, _, z⟩ := h
    exact z.elim
  | ok fl => cases fl with
    | next => exact (show False from h).elim
    | brk => exact (show False from h).elim
    | cont => exact (show False from h).elim
    | ret u =>
      obtain ⟨v, H', os, bare, un, ok2, rel, q⟩ := h
      obtain rfl : v = .bl true := q
      obtain rfl : u = Value.bool true := rel
      refine ⟨rfl, OldK.of_keep fun b o e => ?_, os, bare⟩
      cases q : H b with
      | none => exact un.keep b o e q (fun z => nomatch z) fun z => nomatch z
      | some u =>
        obtain ⟨_, _, ob, l, rfl⟩ := one b u q
        have z1 := (hok b _ q).1
        have z2 := (ok2 b _ (un.frzs b ob l q)).1
        exact z2.trans (z1.symm.trans e)
theorem walkG {l : PySem.W.OpenLaw} {n k : Nat} {q : Program} {loose : List Str} {XP : (Str → Option Value) → Heap → Prop} {YP : World → Heap → Prop} {d : DefRec} {x : Str} (hn : l.most = some n) (hn2 : n ≤ sizeLine) (hdf : d.params.defaults = []) (hr : Room k callerA)
    (F : ∀ (w : World) (mg : Str → Option Value) (fa : Addr) (h : Heap), YP w h → h.Ns mainGlobals mg → mg d.name = some (.ref fa) → ∃ (K : PySem.W.Frag) (fd : FuncData) (sp : Sp), K.In h ∧ (∀ (s : Shared) (u : Value), BindsTo s fd ⟨[u], []⟩ [(x, u)]) ∧
      (∀ (H : Hp) (a : Addr) (ns : List Int), ns.length ≤ n → (∀ z ∈ ns, Builtin.Int.intBits z ≤ 1048576) → SqL K H a (ns.map V.int) → sp [.ref a] H (fun v _ => v = .bl true) fun _ _ _ => False) ∧
      ∀ base : Heap, K.In base → base.Ns mainGlobals mg → FnG l.prog w K mg base (L2N.CX l.prog w) k fa fd [x] sp) :
    PySem.W.WalkO q loose XP YP l.row.toRowW d [] (fun f vs => PySem.call f vs) := by
  refine Att.attach_callB hn hdf fun w s₀ s₁ mg mb fa o pm cd doc a vs ns G Y ho hd hcd hmg hobj hints hlen hbits hg => ?_
  obtain ⟨K, fd, sp, KX, hb, hsp, hF⟩ := F w mg fa _ Y G.T.g hmg
  have rv := vals_ints hints
  cases look : K.lookup a with
  | some u =>
    have e := (KX a u look).symm.trans hobj
    cases e
    have sq : SqL K (fun _ => none) a (ns.map V.int) := .inr ⟨_, vs.toArray, _, look, rfl, rfl, rfl, by rw [List.size_toArray, hints.length]; exact Nat.le_trans hlen hn2, by simpa using rv⟩
    exact end_core KX G.T.g G.T.b G.T.builtins G.T.nolimit hg hobj hr hF hb (hsp _ a ns hlen hbits sq) (fun _ _ z => nomatch z) fun _ _ z => nomatch z
  | none =>
    let ob : Obj := { cls := .type "list", data := .seq vs.toArray }
    let H0 : Hp := fun b => if b = a then some (.frz ob (.lst (ns.map V.int))) else none
    have at0 : H0 a = some (.frz ob (.lst (ns.map V.int))) := if_pos rfl
    have only : ∀ b o, H0 b = some o → b = a ∧ o = .frz ob (.lst (ns.map V.int)) := fun b o z => by
      by_cases c : b = a
      · subst c
        exact ⟨rfl, Option.some.inj (z.symm.trans at0)⟩
      · cases (if_neg c : H0 b = none).symm.trans z
    refine end_core KX G.T.g G.T.b G.T.builtins G.T.nolimit hg hobj hr hF hb (hsp H0 a ns hlen hbits (.inl (.inr ⟨ob, at0⟩))) (fun b o z => ?_) fun b o z => ?_
    · obtain ⟨rfl, rfl⟩ := only b o z
      exact ⟨hobj, by rw [List.length_map]; exact Nat.le_trans hlen hn2, vs, _, rv, hobj⟩
    · obtain ⟨rfl, rfl⟩ := only b o z
      exact ⟨rfl, look, _, _, rfl⟩
end M
namespace M
open PySem PySem.Spec PyProof.Rows L2
/-! ## repr -/
mutual
inductive ReadsV (K : PySem.W.Frag) (H : Hp) : V → PyData → Prop
  | non : ReadsV K H .non .none
  | bl (b : Bool) : ReadsV K H (.bl b) (.bool b)
  | int (i : Int) : ReadsV K H (.int i) (.int i)
  | str (z : Str) : ReadsV K H (.str z) (.str z)
  | lst {a : Addr} {xs : List V} {ds : List PyData} : H a = some (.lst xs) → ReadsVs K H xs ds → ReadsV K H (.ref a) (.list ds)
  | tup {a : Addr} {xs : List V} {ds : List PyData} : SqT K H a xs → ReadsVs K H xs ds → ReadsV K H (.ref a) (.tuple ds)
inductive ReadsVs (K : PySem.W.Frag) (H : Hp) : List V → List PyData → Prop
  | nil : ReadsVs K H [] []
  | cons {v : V} {vs : List V} {d : PyData} {ds : List PyData} : ReadsV K H v d → ReadsVs K H vs ds → ReadsVs K H (v :: vs) (d :: ds)
end
section
variable {X : Cx} {pins : List (Addr × Obj)} {σ : L2.St} {H : Hp} {s : Shared}
mutual
theorem ReadsV.reads (I : Inv X pins σ H s) : ∀ {v : V} {u : Value} {d : PyData}, ReadsV X.K H v d → RelV v u → ∃ as, Reads s.heap u d as
  | _, _, _, .non, r => by
    cases r
    exact ⟨_, .none⟩
  | _, _, _, .bl b, r => by
    cases r
    exact ⟨_, .bool b⟩
  | _, _, _, .int i, r => by
    obtain ⟨t, rfl⟩ := r
    exact ⟨_, .int i t⟩
  | _, _, _, .str z, r => by
    obtain ⟨t, rfl⟩ := r
    exact ⟨_, .str z t⟩
  | _, _, _, .lst h rs, r => by
    cases r
    obtain ⟨its, rv, ⟨o, n, e, hc, _, hd⟩, _⟩ := I.list (.inl (.inl h))
    obtain ⟨as, q⟩ := ReadsVs.reads I rs rv
    exact ⟨_, .list e hc hd q⟩
  | _, _, _, .tup h rs, r => by
    cases r
    obtain ⟨its, rv, ⟨o, e, hc, n, hd⟩, _⟩ := I.tuple h
    obtain ⟨as, q⟩ := ReadsVs.reads I rs rv
    exact ⟨_, .tuple e hc hd q⟩
theorem ReadsVs.reads (I : Inv X pins σ H s) : ∀ {v : List V} {u : List Value} {d : List PyData}, ReadsVs X.K H v d → Vals v u → ∃ as, ReadsAll s.heap u d as
  | _, _, _, .nil, r => by
    cases r
    exact ⟨_, .nil⟩
  | _, _, _, .cons h rs, r => by
    cases r with
    | cons r1 r2 =>
      obtain ⟨as, q⟩ := ReadsV.reads I h r1
      obtain ⟨bs, p⟩ := ReadsVs.reads I rs r2
      exact ⟨_, .cons q p⟩
end
end
def rRepr (K : PySem.W.Frag) : List V → Hp → VK → Prop := fun xs H Q => ∃ x d, xs = [x] ∧ ReadsV K H x d ∧ d.showable = true ∧ d.hasDict = false ∧ d.depth ≤ 60 ∧ d.shown.length ≤ sizeLine ∧ Q (.str d.shown) H
theorem call_reprU {X : Cx} (gd : X.A.guards = some []) (hu : X.A.units + 65 < cLine) : CallR X (.builtin "repr") (rRepr X.K) := by
  intro pins s σ H xs us Q I r h
  obtain ⟨x, d, rfl, rd, sh, nd, dp, sz, q⟩ := h
  obtain ⟨u, rfl, rv⟩ := vals1 r
  have fin : ∀ (h' : Heap) (t tk : Tok), (∀ b o, s.heap.get? b = some o → h'.get? b = some o) → EP X pins σ Q (.str d.shown t) { s with heap := h', toks := tk } := fun h' t tk k => ⟨.str d.shown, H, I.kept k, ⟨t, rfl⟩, q⟩
  have tok := fin s.heap s.toks (s.toks + 1) fun _ _ e => e
  cases rd with
  | non =>
    cases rv
    refine PySem.P.repr_of_none ?_
    simp only [PyData.shown] at tok
    exact tok
  | bl b =>
    cases rv
    refine PySem.P.repr_of_bool ?_
    simp only [PyData.shown] at tok
    exact tok
  | int i =>
    obtain ⟨t, rfl⟩ := rv
    simp only [PyData.shown] at tok
    exact PySem.P.repr_of_int (by simpa [PyData.showable] using sh) tok
  | str z =>
    obtain ⟨t, rfl⟩ := rv
    simp only [PyData.shown] at tok sz
    exact PySem.P.repr_of_str tok sz
  | lst h rs =>
    obtain ⟨as, rr⟩ := ReadsV.reads I (.lst h rs) rv
    cases rv
    exact repr_of_reads' rr sh (fun z => by rw [nd] at z; cases z) gd (by omega) (fun _ _ e => e) fin sz
  | tup h rs =>
    obtain ⟨as, rr⟩ := ReadsV.reads I (.tup h rs) rv
    cases rv
    exact repr_of_reads' rr sh (fun z => by rw [nd] at z; cases z) gd (by omega) (fun _ _ e => e) fin sz
/-! the data of a tree -/
mutual
inductive PyJ : J → PyData → Prop
  | non : PyJ .non .none
  | bl (b : Bool) : PyJ (.bl b) (.bool b)
  | int (i : Int) : PyJ (.int i) (.int i)
  | str (z : Str) : PyJ (.str z) (.str z)
  | lst {xs : List J} {ds : List PyData} : PyJs xs ds → PyJ (.lst xs) (.list ds)
  | tup {xs : List J} {ds : List PyData} : PyJs xs ds → PyJ (.tup xs) (.tuple ds)
inductive PyJs : List J → List PyData → Prop
  | nil : PyJs [] []
  | cons {x : J} {xs : List J} {d : PyData} {ds : List PyData} : PyJ x d → PyJs xs ds → PyJs (x :: xs) (d :: ds)
end
section
variable {K : PySem.W.Frag} {G H : Hp}
mutual
theorem PyJ.v (l : ∀ a o, G a = some o → H a = some o) : ∀ {x : J} {v : V} {d : PyData}, PyJ x d → Jp K G v x → ReadsV K H v d
  | _, _, _, .non, j => by cases j; exact .non
  | _, _, _, .bl b, j => by cases j; exact .bl b
  | _, _, _, .int i, j => by cases j; exact .int i
  | _, _, _, .str z, j => by cases j; exact .str z
  | _, _, _, .lst p, j => by
    cases j with | lst h js =>
    exact .lst (l _ _ h) (PyJs.v l p js)
  | _, _, _, .tup p, j => by
    cases j with | tup h js =>
    refine .tup ?_ (PyJs.v l p js)
    exact Le.sqt (fun a o e => ⟨o, l a o e, rfl⟩) h
theorem PyJs.v (l : ∀ a o, G a = some o → H a = some o) : ∀ {x : List J} {v : List V} {d : List PyData}, PyJs x d → Jps K G v x → ReadsVs K H v d
  | _, _, _, .nil, j => by cases j; exact .nil
  | _, _, _, .cons p ps, j => by
    cases j with | cons j js =>
    exact .cons (PyJ.v l p j) (PyJs.v l ps js)
end
end
/-- what repr gives: a text of the data alone -/
structure ShwJ (x : J) (d : PyData) : Prop where
  py : PyJ x d
  sh : d.showable = true
  nd : d.hasDict = false
  dp : d.depth ≤ 60
  sz : d.shown.length ≤ sizeLine
def reprJ (xs : List J) (s : Sto) (Q : QJ) : Prop := ∃ x d, xs = [x] ∧ ShwJ x d ∧ Q (.str d.shown) s
theorem sf_repr {K : PySem.W.Frag} : Sf K (rRepr K) reprJ := by
  intro F s H v x Q QV t js hQ h
  obtain ⟨x, d, rfl, w, q⟩ := h
  obtain ⟨u, rfl, j⟩ := jps1 js
  exact ⟨u, d, rfl, w.py.v (fun a o e => (of_mask e).2.2) j, w.sh, w.nd, w.dp, w.sz, hQ _ s q _ H .refl t (.str _)⟩
theorem y_repr {x : J} {d : PyData} {s : Sto} {Q : QJ} (w : ShwJ x d) (q : Q (.str d.shown) s) : reprJ [x] s Q := ⟨x, d, rfl, w, q⟩
theorem shw_non : ShwJ .non .none := ⟨.non, by decide +kernel, by decide +kernel, by decide +kernel, by decide +kernel⟩
theorem shw_bl (b : Bool) : ShwJ (.bl b) (.bool b) := ⟨.bl b, by cases b <;> decide +kernel, by cases b <;> decide +kernel, by cases b <;> decide +kernel, by cases b <;> decide +kernel⟩
theorem shw_str {z : Str} (h : (reprText z).length ≤ sizeLine) : ShwJ (.str z) (.str z) := ⟨.str z, by simp [PyData.showable], by simp [PyData.hasDict], by simp [PyData.depth], by simpa only [PyData.shown] using h⟩
end M
namespace M
open PySem PySem.Spec PyProof.Rows L2
/-! ## constants read off a class -/
def cvalB (K : PySem.W.Frag) (C : Addr) (f : Str) (v : V) : Bool := (PySem.W.readsIn K C (.type "type") && He.eqO (PySem.W.specialIn K (.ref C) "__getattribute__") (some (some (.builtin "type.__getattribute__")))) && match PySem.W.findCls K (.ref C) (.type "type") f with
  | some (.val u) => He.relB v u
  | _ => false
structure ClsC (K : PySem.W.Frag) (C : Addr) (f : Str) (v : V) : Prop where
  ex : ∃ mc u, ClX.CRead K C mc ∧ ClX.CVal K C mc f v u
theorem cvalB_ok {K : PySem.W.Frag} {C : Addr} {f : Str} {v : V} (h : cvalB K C f v = true) : ClsC K C f v := by
  unfold cvalB at h
  rw [Bool.and_eq_true, Bool.and_eq_true] at h
  obtain ⟨⟨h1, h2⟩, h3⟩ := h
  split at h3
  · rename_i u e
    exact ⟨.type "type", u, ⟨h1, He.eqO_ok h2⟩, e, He.relB_ok h3⟩
  · cases h3
def jCVal (c : Str) (p : TJ) (d : J) : TJ := fun ρ s Q R => p ρ s (fun x s1 => x = .cls c ∧ Q d s1) R
theorem se_cval {K : PySem.W.Frag} {W : WX} {ta : TE} {pa : TJ} {c f : Str} {v : V} {d : J} (h : ClsC K (He.ga K c) f v) (jv : ∀ G, Jp K G v d) (ha : Se K W ta pa) : Se K W (ClX.tCVal K ta f) (jCVal c pa d) := by
  intro F ρ s σ H Q R QV a hQ hR hh
  refine ha F ρ s σ H _ R _ a (fun x s1 h1 v1 H1 l1 st1 j1 => ?_) hR hh
  obtain ⟨rfl, q⟩ := h1
  cases j1
  obtain ⟨mc, u, r, k⟩ := h.ex
  exact ⟨_, mc, v, u, rfl, r, k, hQ _ s1 q _ H1 l1 st1 (jv _)⟩
theorem y_cval {c : Str} {p : TJ} {d : J} {ρ : Rho} {s : Sto} {Q : QJ} {R : XJ} (h : p ρ s (fun x s1 => x = .cls c ∧ Q d s1) R) : jCVal c p d ρ s Q R := h
theorem y_clsv {c : Str} {P : Prop} (q : P) : J.cls c = .cls c ∧ P := ⟨rfl, q⟩
theorem is_cval {c : Str} {p : TJ} {d : J} {ρ : Rho} {s : Sto} {Q : QJ} {R : XJ} (h : jCVal c p d ρ s Q R) : jCVal c p d ρ s Q R := h
end M
namespace M
open PySem PySem.Spec PyProof.Rows L2
/-! ## repr of any plain tree: what size its text may have -/
mutual
def wtJ : J → Nat
  | .int i => if i.natAbs.log2 < 1920 then 1921 else 100000000
  | .str z => 10 * z.length + 2
  | .lst l => wtJs l + 2
  | .tup l => wtJs l + 3
  | _ => 5
def wtJs : List J → Nat
  | [] => 0
  | x :: l => wtJ x + 2 + wtJs l
end
theorem textFrom_wt : ∀ (ts : List Str) (k : Nat) (acc : Str), (textFrom k acc ts).length ≤ acc.length + piled ts
  | [], k, acc => Nat.le_add_right _ _
  | t :: r, k, acc => by
    have ih := textFrom_wt r (k + 1) (acc ++ (if k > 0 then ", " else "" : String) ++ t)
    have e : (acc ++ (if k > 0 then ", " else "" : String) ++ t).length ≤ acc.length + 2 + t.length := by
      rw [strLen_append, strLen_append]
      have : ((if k > 0 then ", " else "" : String) : Str).length ≤ 2 := by split <;> decide +kernel
      omega
    rw [piled_cons]
    show (textFrom (k + 1) _ r).length ≤ _
    omega
theorem listText_wt (ts : List Str) : (listText ts).length ≤ piled ts + 2 := by
  unfold listText
  rw [strLen_append]
  have := textFrom_wt ts 0 "["
  have e1 : (("[" : String) : Str).length = 1 := rfl
  have e2 : (("]" : String) : Str).length = 1 := rfl
  omega
theorem tupleText_wt (ts : List Str) : (tupleText ts).length ≤ piled ts + 3 := by
  have e3 : (((if ts.length == 1 then ",)" else ")" : String) : Str)).length ≤ 2 := by split <;> decide +kernel
  have e1 : (("(" : String) : Str).length = 1 := rfl
  unfold tupleText
  rw [strLen_append, strLen_append]
  by_cases h : ts = []
  · subst h
    have : (Str.join ", " ([] : List Str)).length = 0 := by decide +kernel
    omega
  · have := join_length_add ts h
    omega
mutual
theorem shw_tree : ∀ {n : Nat} {x : J}, J.okd n x = true → wtJ x < 100000000 → ∃ d : PyData, PyJ x d ∧ d.showable = true ∧ d.hasDict = false ∧ d.depth ≤ n ∧ d.shown.length ≤ wtJ x
  | n, .non, _, _ => ⟨.none, .non, by simp [PyData.showable], by simp [PyData.hasDict], by simp [PyData.depth], by unfold wtJ; simp only [PyData.shown]; decide +kernel⟩
  | n, .bl b, _, _ => ⟨.bool b, .bl b, by simp [PyData.showable], by simp [PyData.hasDict], by simp [PyData.depth], by unfold wtJ; simp only [PyData.shown]; cases b <;> decide +kernel⟩
  | n, .int i, _, w => by
    unfold wtJ at w
    have h : i.natAbs.log2 < 1920 := by
      by_cases h : i.natAbs.log2 < 1920
      · exact h
      · rw [if_neg h] at w
        omega
    refine ⟨.int i, .int i, by simp [PyData.showable, h], by simp [PyData.hasDict], by simp [PyData.depth], ?_⟩
    unfold wtJ
    rw [if_pos h]
    simp only [PyData.shown]
    exact int_text_len_1921 h
  | n, .str z, o, _ => by
    have o' : (decide (z.length ≤ 100000) && z.cps.all (· < 0x110000)) = true := by
      unfold J.okd at o
      exact o
    rw [Bool.and_eq_true] at o'
    refine ⟨.str z, .str z, by simp [PyData.showable], by simp [PyData.hasDict], by simp [PyData.depth], ?_⟩
    unfold wtJ
    simp only [PyData.shown]
    refine PySem.StrLaws.reprText_len z fun c hc => ?_
    have h2 := o'.2
    rw [Array.all_eq_true'] at h2
    have := h2 c (by simpa using hc)
    have := of_decide_eq_true this
    omega
  | 0, .lst l, o, _ => by unfold J.okd at o; cases o
  | n + 1, .lst l, o, w => by
    have o' : J.oks n l = true := by unfold J.okd at o; exact o
    unfold wtJ at w
    obtain ⟨ds, h1, h2, h3, h4, h5⟩ := shw_trees o' (by omega)
    refine ⟨.list ds, .lst h1, by simpa [PyData.showable] using h2, by simpa [PyData.hasDict] using h3, by simp only [PyData.depth]; omega, ?_⟩
    simp only [PyData.shown]
    unfold wtJ
    have := listText_wt (PyData.shownAll ds)
    omega
  | 0, .tup l, o, _ => by unfold J.okd at o; cases o
  | n + 1, .tup l, o, w => by
    have o' : J.oks n l = true := by unfold J.okd at o; exact o
    unfold wtJ at w
    obtain ⟨ds, h1, h2, h3, h4, h5⟩ := shw_trees o' (by omega)
    refine ⟨.tuple ds, .tup h1, by simpa [PyData.showable] using h2, by simpa [PyData.hasDict] using h3, by simp only [PyData.depth]; omega, ?_⟩
    simp only [PyData.shown]
    unfold wtJ
    have := tupleText_wt (PyData.shownAll ds)
    omega
  | n, .dct l, o, _ => by unfold J.okd at o; cases o
  | n, .obj c l, o, _ => by unfold J.okd at o; cases o
  | n, .scr l, o, _ => by unfold J.okd at o; cases o
  | n, .own a, o, _ => by unfold J.okd at o; cases o
  | n, .ty a, o, _ => by unfold J.okd at o; cases o
  | n, .cls a, o, _ => by unfold J.okd at o; cases o
  | n, .exc a b l, o, _ => by unfold J.okd at o; cases o
theorem shw_trees : ∀ {n : Nat} {l : List J}, J.oks n l = true → wtJs l < 100000000 → ∃ ds : List PyData, PyJs l ds ∧ PyData.showableAll ds = true ∧ PyData.hasDictAll ds = false ∧ PyData.depthAll ds ≤ n ∧ piled (PyData.shownAll ds) ≤ wtJs l
  | n, [], _, _ => ⟨[], .nil, by simp [PyData.showableAll], by simp [PyData.hasDictAll], by simp [PyData.depthAll], by simp only [PyData.shownAll]; exact Nat.zero_le _⟩
  | n, x :: l, o, w => by
    have o' : (J.okd n x && J.oks n l) = true := by unfold J.oks at o; exact o
    rw [Bool.and_eq_true] at o'
    unfold wtJs at w
    obtain ⟨d, a1, a2, a3, a4, a5⟩ := shw_tree o'.1 (by omega)
    obtain ⟨ds, b1, b2, b3, b4, b5⟩ := shw_trees o'.2 (by omega)
    refine ⟨d :: ds, .cons a1 b1, by simp [PyData.showableAll, a2, b2], by simp [PyData.hasDictAll, a3, b3], by simp only [PyData.depthAll]; omega, ?_⟩
    simp only [PyData.shownAll]
    rw [piled_cons]
    unfold wtJs
    omega
end
theorem shw_of {x : J} (o : x.ok = true) (w : wtJ x ≤ 10000000) : ∃ d, ShwJ x d := by
  obtain ⟨d, h1, h2, h3, h4, h5⟩ := shw_tree o (by omega)
  exact ⟨d, h1, h2, h3, h4, by rw [sizeLine_eq]; omega⟩
/-- own lists, compared -/
theorem y_ne_oo {s : Sto} {Q : QJ} {a b : Addr} {l m : List J} (e : s a = some (.lst l)) (f : s b = some (.lst m)) (h1 : (J.lst l).ok = true) (h2 : (J.lst m).ok = true) (q : Q (.bl (!eqJ (.lst l) (.lst m))) s) : neRJ (.own a) (.own b) s Q := by
  unfold neRJ eqR
  exact .inl (by rw [res_ol e, res_ol f]; exact ⟨⟨h1, h2⟩, q⟩)
end M
namespace M
open PySem PySem.Spec PyProof.Rows L2
/-! ## what is told at the end of the top, the interpreter's statics with it (class constants need them) -/
def frS (n : Nat) (g : Addr → Option Obj) : PySem.W.Frag := He.frT g (He.asD g n ++ [cStatics])
def obsS (n : Nat) (fa : List He.Fa) (fn : List He.DefD) (ts : List He.Tab) (ex : PySem.W.Frag → Bool) (g : Addr → Option Obj) : He.AlX := (He.obsT fa fn ts (frS n g), ex (frS n g))
structure SaysS (fa : List He.Fa) (fn : List He.DefD) (ts : List He.Tab) (ex : PySem.W.Frag → Bool) (w : World) (K : PySem.W.Frag) : Prop where
  t : He.SaysT fa fn ts w K
  more : ex K = true
def hookS (n : Nat) (fa : List He.Fa) (fn : List He.DefD) (ts : List He.Tab) (ex : PySem.W.Frag → Bool) : PySem.W.Hook where
  α := He.AlX
  obs := fun s => obsS n fa fn ts ex s.heap.get?
  val := fun w => (He.valT fn ts w, true)
  says := fun w h => ∃ K : PySem.W.Frag, K.In h ∧ SaysS fa fn ts ex w K
  of := fun _ _ e => ⟨_, He.frT_in, ⟨congrArg (fun z : He.AlX => z.1) e, congrArg (fun z : He.AlX => z.2) e⟩⟩
  keeps := fun _ _ _ ⟨K, i, c⟩ k => ⟨K, PySem.W.Frag.In.keeps i k, c⟩
theorem obsS_eq {n : Nat} {fa : List He.Fa} {fn : List He.DefD} {ts : List He.Tab} {ex : PySem.W.Frag → Bool} {g : Addr → Option Obj} {s : Shared} (h : ∀ a, g a = s.heap.get? a) : obsS n fa fn ts ex g = (hookS n fa fn ts ex).obs s := by
  obtain rfl : g = s.heap.get? := funext h
  rfl
end M
namespace M
open PySem PySem.Spec PyProof.Rows L2
/-! ## a text so many times -/
def rMulS : R2 := fun x y H Q => ∃ (z : Str) (n : Int), x = .str z ∧ y = .int n ∧ MulOk z n ∧ Q (.str (Txt.mul z n)) H
theorem op_mulS {X : Cx} : OpR X (binaryOp .Mult) rMulS := by
  intro pins s σ H x y v u Q I rx ry h
  obtain ⟨z, n, rfl, rfl, ok, q⟩ := h
  obtain ⟨t, rfl⟩ := rx
  obtain ⟨t', rfl⟩ := ry
  exact SB.mul ok fun t' tk => ⟨.str (Txt.mul z n), H, I.tok _, ⟨_, rfl⟩, q⟩
def mulSJ (x y : J) (s : Sto) (Q : QJ) : Prop := ∃ (z : Str) (n : Int), x = .str z ∧ y = .int n ∧ MulOk z n ∧ Q (.str (Txt.mul z n)) s
theorem so_mulS {K : PySem.W.Frag} : So K rMulS mulSJ := by
  intro F s H v u x y Q QV t jx jy hQ h
  obtain ⟨z, n, rfl, rfl, ok, q⟩ := h
  cases jx
  cases jy
  exact ⟨z, n, rfl, rfl, ok, hQ _ s q _ H .refl t (.str _)⟩
theorem y_mulS {z : Str} {n : Int} {s : Sto} {Q : QJ} (ok : MulOk z n) (q : Q (.str (Txt.mul z n)) s) : mulSJ (.str z) (.int n) s Q := ⟨z, n, rfl, rfl, ok, q⟩
end M

namespace T
open PySem PySem.Spec PyProof.Rows L2 M
/-! ## words: y (steps), sd (side conditions), st (what stands in the store) -/
local macro_rules | `(tactic| walk_at "sd") => `(tactic| first | assumption | omega)
local macro_rules | `(tactic| walk_at "st") => `(tactic| first
  | assumption
  | (with_reducible exact put_same)
  | (rw [put_ne (by first | assumption | (intro z; subst z; simp_all))]; walk_at "st"))
local macro_rules | `(tactic| walk_at "yS") => `(tactic| first
  | with_reducible refine y_seq ?_ | with_reducible refine y_asg ?_ | with_reducible refine y_ifS ?_ | with_reducible refine y_ret ?_ | with_reducible refine y_next ?_ | with_reducible refine y_drop ?_
  | with_reducible refine y_for ?_ | with_reducible refine y_par ?_ | with_reducible refine y_setF ?_ | with_reducible refine y_raise1 ?_ | with_reducible refine y_try ?_
  | with_reducible refine y_par3 ?_ | with_reducible refine y_retN ?_ | with_reducible refine y_break ?_ | with_reducible refine y_cont ?_
  | (with_reducible refine is_jAug ?_; with_reducible refine y_aug ?_))
local macro_rules | `(tactic| walk_at "yT") => `(tactic| first
  | (with_reducible refine is_jVar ?_; with_reducible refine y_var ?_) | with_reducible refine y_c ?_ | with_reducible refine y_op ?_ | with_reducible refine y_call0 ?_ | with_reducible refine y_cb ?_ | with_reducible refine y_fld ?_ | with_reducible refine y_tup ?_
  | with_reducible refine y_lst ?_ | with_reducible refine y_lstO ?_ | with_reducible refine y_meth0 ?_ | with_reducible refine y_make ?_ | with_reducible refine y_bm ?_ | with_reducible refine y_bm0 ?_ | with_reducible refine y_sl ?_
  | with_reducible refine y_if ?_ | with_reducible refine y_isN ?_ | with_reducible refine y_notN ?_ | with_reducible refine y_andV ?_ | with_reducible refine y_orV ?_ | with_reducible refine y_notV ?_ | with_reducible refine y_chain ?_
  | with_reducible refine y_lc ?_ | with_reducible refine y_un ?_ | with_reducible refine y_con ?_ | with_reducible refine y_dct0 ?_ | with_reducible refine y_dct0O ?_ | with_reducible refine y_disp ?_ | with_reducible refine y_rev ?_ | with_reducible refine y_xf ?_ | with_reducible refine y_cval ?_)
local macro_rules | `(tactic| walk_at "yB") => `(tactic| first
  | with_reducible refine y_test ?_ | with_reducible refine y_not ?_ | with_reducible refine y_truth ?_ | with_reducible refine y_and ?_ | with_reducible refine y_or ?_ | with_reducible refine y_yes ?_)
local macro_rules | `(tactic| walk_at "yI") => `(tactic| first
  | with_reducible refine y_iU ?_ | with_reducible refine y_rng1 ?_ | with_reducible refine y_enum ?_)
local macro_rules | `(tactic| walk_at "yO") => `(tactic| first
  | with_reducible refine y_eq_i ?_ | with_reducible refine y_ne_i ?_ | with_reducible refine y_cmp ?_ | with_reducible refine y_add_i ?_ | with_reducible refine y_sub ?_
  | with_reducible refine y_eq_s ?_ | with_reducible refine y_ne_s ?_ | with_reducible refine y_eq_b ?_ | with_reducible refine y_ne_b ?_ | with_reducible refine y_is ?_
  | (with_reducible refine is_ix ?_; first
    | (with_reducible refine is_ixl ?_; with_reducible refine y_ix_l (by with_unfolding_all rfl) ?_)
    | (with_reducible refine is_ixt ?_; with_reducible refine y_ix_t (by with_unfolding_all rfl) ?_)
    | (with_reducible refine is_ixo ?_; with_reducible refine y_ix_o (by walk_at "st") (by with_unfolding_all rfl) ?_))
  | (with_reducible refine is_mul ?_; with_reducible refine y_mul ?_ (by walk_at "sd") (by walk_at "sd"))
  | (with_reducible refine is_div ?_; with_reducible refine y_div ?_ (by walk_at "sd") (by walk_at "sd"))
  | (with_reducible refine is_mod ?_; with_reducible refine y_mod ?_ (by walk_at "sd"))
  | (with_reducible refine is_pow ?_; with_reducible refine y_pow (by walk_at "sd") ?_)
  | with_reducible refine y_in_c ?_)
local macro_rules | `(tactic| walk_at "yL") => `(tactic| first
  | with_reducible refine y_len_l ?_ | with_reducible refine y_len_t ?_ | with_reducible refine y_int1 ?_ | with_reducible refine y_int1b ?_ | with_reducible refine y_abs ?_
  | with_reducible refine y_tuple_l ?_ | with_reducible refine y_tuple_t ?_ | with_reducible refine y_list_l ?_ | with_reducible refine y_list_t ?_ | with_reducible refine y_max2 ?_ | with_reducible refine y_min2 ?_ | with_reducible refine y_str_s ?_
  | with_reducible refine y_dict_d ?_ | with_reducible refine y_len_d ?_ | with_reducible refine y_len_c ?_
  | (with_reducible refine is_isi ?_; with_reducible refine y_isi (by with_unfolding_all rfl) ?_)
  | (with_reducible refine is_lenO ?_; with_reducible refine y_len_o (by walk_at "st") ?_)
  | (with_reducible refine is_isXJ ?_; with_reducible refine y_isX ?_))
local macro_rules | `(tactic| walk_at "yX") => `(tactic| first
  | (with_reducible refine is_New ?_; with_reducible refine y_newJ ?_)
  | (with_reducible refine is_Fld ?_; first
    | (with_reducible refine is_FldO ?_; with_reducible refine y_fldO (by walk_at "st") ?_)
    | with_reducible refine y_fldX ?_)
  | (with_reducible refine is_It ?_; first | with_reducible refine y_it_l ?_ | with_reducible refine y_it_t ?_ | with_reducible refine y_it_s ?_)
  | (with_reducible refine is_Obj ?_; first
    | (with_reducible refine is_ObjO ?_; with_reducible refine y_objO (by walk_at "st") ?_)
    | with_reducible refine y_objX ?_)
  | (with_reducible refine is_Tru ?_; first | with_reducible refine y_tru_b ?_ | with_reducible refine y_tru_i ?_ | with_reducible refine y_tru_n ?_)
  | with_reducible refine y_tyS ?_
  | (with_reducible refine is_tyO ?_; with_reducible refine y_tyL (by walk_at "st") ?_)
  | (with_reducible refine is_Con ?_; first
    | (with_reducible refine is_ConO ?_; with_reducible refine y_conO (by walk_at "st") ?_)
    | with_reducible refine y_conX ?_)
  | (with_reducible refine is_En ?_; with_reducible refine y_en_l ?_)
  | (with_reducible refine is_SetO ?_; with_reducible refine y_set_l (by walk_at "st") ?_)
  | with_reducible refine y_pn ?_ | with_reducible refine y_pc ?_
  | (with_reducible refine is_Kv ?_; with_reducible refine y_kv ?_)
  | with_reducible refine y_rev_l ?_ | with_reducible refine y_xf1 ?_ | with_reducible refine y_clsv ?_)
local macro_rules | `(tactic| walk_at "y") => `(tactic| (repeat (first
  | (with_reducible refine is_S ?_; walk_at "yS")
  | (with_reducible refine is_T ?_; walk_at "yT")
  | (with_reducible refine is_A ?_; first | with_reducible refine y_cons ?_ | with_reducible refine y_nil ?_)
  | (with_reducible refine is_B ?_; walk_at "yB")
  | (with_reducible refine is_Ex ?_; first | with_reducible refine y_bl ?_ | with_reducible refine y_two ?_ | with_reducible refine y_one ?_ | with_reducible refine y_int ?_ | with_reducible refine y_three ?_)
  | (with_reducible refine is_If ?_; first | with_reducible refine ite_t ?_ | with_reducible refine ite_f ?_ | with_reducible refine ite_T (by with_unfolding_all rfl) ?_ | with_reducible refine ite_F (by with_unfolding_all rfl) ?_)
  | (with_reducible refine is_G ?_; first | with_reducible refine y_name ?_ | (with_reducible refine is_jgTup ?_; with_reducible refine y_gtup ?_) | with_reducible refine y_gsub ?_)
  | (with_reducible refine is_O ?_; walk_at "yO")
  | (with_reducible refine is_L ?_; walk_at "yL")
  | (with_reducible refine is_Gs ?_; first | with_reducible refine y_gcons ?_ | with_reducible refine y_gnil ?_)
  | (with_reducible refine is_P ?_; first | with_reducible refine y_noPart ?_ | with_reducible refine y_part ?_)
  | (with_reducible refine is_I ?_; walk_at "yI")
  | (with_reducible refine is_M ?_; with_reducible refine y_startswith ?_)
  | (with_reducible refine is_O1 ?_; with_reducible refine y_neg ?_)
  | walk_at "yX"
  | with_reducible refine y_sl_t ?_
  | with_reducible refine y_sl_l ?_)))

def top (i : Nat) : Stmt := PySem.Challenge.pw_mendrounds_k03_numbers_written_and_read.main.body.getD i (.Pass ⟨0, 0, 0, 0⟩)
abbrev s_BadNumber__init : Stmt := inClass (top 2) 0
abbrev N_BadNumber__init : List Str := ["self", "thing"]
theorem sc_BadNumber__init : FnScope N_BadNumber__init ["self", "thing"] (defScope s_BadNumber__init) := ⟨rfl, rfl, rfl, by decide +kernel, rfl, by decide +kernel, by decide +kernel⟩
abbrev s_common_divisor : Stmt := top 5
abbrev N_common_divisor : List Str := ["one", "other", "low", "high"]
theorem sc_common_divisor : FnScope N_common_divisor ["one", "other"] (defScope s_common_divisor) := ⟨rfl, rfl, rfl, by decide +kernel, rfl, by decide +kernel, by decide +kernel⟩
abbrev s_number : Stmt := top 6
abbrev N_number : List Str := ["top", "bottom", "common"]
theorem sc_number : FnScope N_number ["top", "bottom"] (defScope s_number) := ⟨rfl, rfl, rfl, by decide +kernel, rfl, by decide +kernel, by decide +kernel⟩
abbrev s_written : Stmt := top 7
abbrev N_written : List Str := ["value"]
theorem sc_written : FnScope N_written ["value"] (defScope s_written) := ⟨rfl, rfl, rfl, by decide +kernel, rfl, by decide +kernel, by decide +kernel⟩
abbrev s_read_number : Stmt := top 8
abbrev N_read_number : List Str := ["text", "sign", "digits", "parts", "part", "bottom", "value", ".0", "sign_of_part"]
theorem sc_read_number : FnScope N_read_number ["text"] (defScope s_read_number) := ⟨rfl, rfl, rfl, by decide +kernel, rfl, by decide +kernel, by decide +kernel⟩
abbrev s_lbag : Stmt := top 10
abbrev N_lbag : List Str := ["_law_script", "_law_at", "_law_cell", "_law_large"]
theorem sc_lbag : FnScope N_lbag ["_law_script", "_law_at"] (defScope s_lbag) := ⟨rfl, rfl, rfl, by decide +kernel, rfl, by decide +kernel, by decide +kernel⟩
abbrev s_ltake : Stmt := top 11
abbrev N_ltake : List Str := ["_law_bag_here", "_law_many", "_law_digit", "_law_mixed"]
theorem sc_ltake : FnScope N_ltake ["_law_bag_here", "_law_many"] (defScope s_ltake) := ⟨rfl, rfl, rfl, by decide +kernel, rfl, by decide +kernel, by decide +kernel⟩
abbrev s_lvalue : Stmt := top 12
abbrev N_lvalue : List Str := ["_law_p", "_law_q", "_law_low", "_law_high"]
theorem sc_lvalue : FnScope N_lvalue ["_law_p", "_law_q"] (defScope s_lvalue) := ⟨rfl, rfl, rfl, by decide +kernel, rfl, by decide +kernel, by decide +kernel⟩
abbrev s_lnumber : Stmt := top 13
abbrev N_lnumber : List Str := ["_law_bag_here"]
theorem sc_lnumber : FnScope N_lnumber ["_law_bag_here"] (defScope s_lnumber) := ⟨rfl, rfl, rfl, by decide +kernel, rfl, by decide +kernel, by decide +kernel⟩
abbrev s_lis_int : Stmt := top 14
abbrev N_lis_int : List Str := ["_law_thing"]
theorem sc_lis_int : FnScope N_lis_int ["_law_thing"] (defScope s_lis_int) := ⟨rfl, rfl, rfl, by decide +kernel, rfl, by decide +kernel, by decide +kernel⟩
abbrev s_lsame : Stmt := top 15
abbrev N_lsame : List Str := ["_law_actual", "_law_due"]
theorem sc_lsame : FnScope N_lsame ["_law_actual", "_law_due"] (defScope s_lsame) := ⟨rfl, rfl, rfl, by decide +kernel, rfl, by decide +kernel, by decide +kernel⟩
abbrev s_ltext_of : Stmt := top 16
abbrev N_ltext_of : List Str := ["_law_value_here"]
theorem sc_ltext_of : FnScope N_ltext_of ["_law_value_here"] (defScope s_ltext_of) := ⟨rfl, rfl, rfl, by decide +kernel, rfl, by decide +kernel, by decide +kernel⟩
abbrev s_lis_refused : Stmt := top 17
abbrev N_lis_refused : List Str := ["_law_thing", "e"]
theorem sc_lis_refused : FnScope N_lis_refused ["_law_thing"] (defScope s_lis_refused) := ⟨rfl, rfl, rfl, by decide +kernel, rfl, by decide +kernel, by decide +kernel⟩
abbrev s_lwrong : Stmt := top 18
abbrev N_lwrong : List Str := ["_law_text", "_law_value_here", "_law_found"]
theorem sc_lwrong : FnScope N_lwrong ["_law_text", "_law_value_here"] (defScope s_lwrong) := ⟨rfl, rfl, rfl, by decide +kernel, rfl, by decide +kernel, by decide +kernel⟩
abbrev s_law : Stmt := top 19
abbrev N_law : List Str := ["_law_script", "_law_at", "_law_bag_here", "_law_value_here", "_law_great", "_law_text", "_law_told", "_law_thing"]
theorem sc_law : FnScope N_law ["_law_script"] (defScope s_law) := ⟨rfl, rfl, rfl, by decide +kernel, rfl, by decide +kernel, by decide +kernel⟩
def dd_BadNumber__init : He.DefD := ⟨("BadNumber", some "__init__"), "__init__", "BadNumber.__init__", defArgs s_BadNumber__init, defBody s_BadNumber__init, defScope s_BadNumber__init, [], []⟩
def dd_common_divisor : He.DefD := ⟨("common_divisor", none), "common_divisor", "common_divisor", defArgs s_common_divisor, defBody s_common_divisor, defScope s_common_divisor, [], []⟩
def dd_number : He.DefD := ⟨("number", none), "number", "number", defArgs s_number, defBody s_number, defScope s_number, [.int 1], []⟩
def dd_written : He.DefD := ⟨("written", none), "written", "written", defArgs s_written, defBody s_written, defScope s_written, [], []⟩
def dd_read_number : He.DefD := ⟨("read_number", none), "read_number", "read_number", defArgs s_read_number, defBody s_read_number, defScope s_read_number, [], []⟩
def dd_lbag : He.DefD := ⟨("_law_bag", none), "_law_bag", "_law_bag", defArgs s_lbag, defBody s_lbag, defScope s_lbag, [], []⟩
def dd_ltake : He.DefD := ⟨("_law_take", none), "_law_take", "_law_take", defArgs s_ltake, defBody s_ltake, defScope s_ltake, [], []⟩
def dd_lvalue : He.DefD := ⟨("_law_value", none), "_law_value", "_law_value", defArgs s_lvalue, defBody s_lvalue, defScope s_lvalue, [], []⟩
def dd_lnumber : He.DefD := ⟨("_law_number", none), "_law_number", "_law_number", defArgs s_lnumber, defBody s_lnumber, defScope s_lnumber, [], []⟩
def dd_lis_int : He.DefD := ⟨("_law_is_int", none), "_law_is_int", "_law_is_int", defArgs s_lis_int, defBody s_lis_int, defScope s_lis_int, [], []⟩
def dd_lsame : He.DefD := ⟨("_law_same", none), "_law_same", "_law_same", defArgs s_lsame, defBody s_lsame, defScope s_lsame, [], []⟩
def dd_ltext_of : He.DefD := ⟨("_law_text_of", none), "_law_text_of", "_law_text_of", defArgs s_ltext_of, defBody s_ltext_of, defScope s_ltext_of, [], []⟩
def dd_lis_refused : He.DefD := ⟨("_law_is_refused", none), "_law_is_refused", "_law_is_refused", defArgs s_lis_refused, defBody s_lis_refused, defScope s_lis_refused, [], []⟩
def dd_lwrong : He.DefD := ⟨("_law_wrong", none), "_law_wrong", "_law_wrong", defArgs s_lwrong, defBody s_lwrong, defScope s_lwrong, [], []⟩
def dd_law : He.DefD := ⟨("law", none), "law", "law", defArgs s_law, defBody s_law, defScope s_law, [], []⟩
def fn : List He.DefD := [dd_BadNumber__init, dd_common_divisor, dd_number, dd_written, dd_read_number, dd_lbag, dd_ltake, dd_lvalue, dd_lnumber, dd_lis_int, dd_lsame, dd_ltext_of, dd_lis_refused, dd_lwrong, dd_law]
def fa : List He.Fa := [.glo "BadNumber", .str "DIGITS" "0123456789", .glo "MendroundsError", .glo "_law_bag", .glo "_law_is_int", .glo "_law_is_refused", .glo "_law_number", .glo "_law_same", .glo "_law_take", .glo "_law_text_of", .glo "_law_value", .glo "_law_wrong", .glo "common_divisor", .glo "law", .glo "number", .glo "read_number", .glo "written", .free "abs", .free "all", .free "bool", .free "int", .free "isinstance", .free "len", .free "max", .free "min", .free "range", .free "repr", .free "str", .free "tuple"]
def tabs : List He.Tab := []
def tab_BadNumber : List (Str × Bool) := [("BadNumber", true)]
def exs : List (PySem.W.Frag → Bool) := [fun K => errB K (He.ga K "BadNumber") "thing", fun K => tab_BadNumber.all fun p => decide (PySem.W.exmOne K (.ref (He.ga K p.1)) (.ref (He.ga K "BadNumber")) = some p.2)]
def ex (K : PySem.W.Frag) : Bool := exs.all fun b => b K
theorem exs_ok {K : PySem.W.Frag} (h : ex K = true) (i : Nat) {b : PySem.W.Frag → Bool} (e : exs[i]? = some b) : b K = true := List.all_eq_true.mp h b (List.mem_of_getElem? e)
structure Txt (w : World) (K : PySem.W.Frag) (mg : Str → Option Value) : Prop where
  g_BadNumber : mg "BadNumber" = some (.ref (He.ga K "BadNumber"))
  s_DIGITS : ∃ t, mg "DIGITS" = some (.str "0123456789" t)
  g_MendroundsError : mg "MendroundsError" = some (.ref (He.ga K "MendroundsError"))
  g__law_bag : mg "_law_bag" = some (.ref (He.ga K "_law_bag"))
  g__law_is_int : mg "_law_is_int" = some (.ref (He.ga K "_law_is_int"))
  g__law_is_refused : mg "_law_is_refused" = some (.ref (He.ga K "_law_is_refused"))
  g__law_number : mg "_law_number" = some (.ref (He.ga K "_law_number"))
  g__law_same : mg "_law_same" = some (.ref (He.ga K "_law_same"))
  g__law_take : mg "_law_take" = some (.ref (He.ga K "_law_take"))
  g__law_text_of : mg "_law_text_of" = some (.ref (He.ga K "_law_text_of"))
  g__law_value : mg "_law_value" = some (.ref (He.ga K "_law_value"))
  g__law_wrong : mg "_law_wrong" = some (.ref (He.ga K "_law_wrong"))
  g_common_divisor : mg "common_divisor" = some (.ref (He.ga K "common_divisor"))
  g_law : mg "law" = some (.ref (He.ga K "law"))
  g_number : mg "number" = some (.ref (He.ga K "number"))
  g_read_number : mg "read_number" = some (.ref (He.ga K "read_number"))
  g_written : mg "written" = some (.ref (He.ga K "written"))
  n_abs : mg "abs" = none
  n_all : mg "all" = none
  n_bool : mg "bool" = none
  n_int : mg "int" = none
  n_isinstance : mg "isinstance" = none
  n_len : mg "len" = none
  n_max : mg "max" = none
  n_min : mg "min" = none
  n_range : mg "range" = none
  n_repr : mg "repr" = none
  n_str : mg "str" = none
  n_tuple : mg "tuple" = none
  e_BadNumber : Err K (He.ga K "BadNumber") "thing"
  h_BadNumber : ∀ p ∈ tab_BadNumber, PySem.W.exmOne K (.ref (He.ga K p.1)) (.ref (He.ga K "BadNumber")) = some p.2
  f_BadNumber__init : ∃ fd, FunD K "__init__" "BadNumber.__init__" (defArgs s_BadNumber__init) (defBody s_BadNumber__init) (defScope s_BadNumber__init) [] [] (He.ma K (He.ga K "BadNumber") "__init__") fd
  f_common_divisor : ∃ fd, FunD K "common_divisor" "common_divisor" (defArgs s_common_divisor) (defBody s_common_divisor) (defScope s_common_divisor) [] [] (He.ga K "common_divisor") fd
  f_number : ∃ fd, FunD K "number" "number" (defArgs s_number) (defBody s_number) (defScope s_number) [V.int 1] [] (He.ga K "number") fd
  f_written : ∃ fd, FunD K "written" "written" (defArgs s_written) (defBody s_written) (defScope s_written) [] [] (He.ga K "written") fd
  f_read_number : ∃ fd, FunD K "read_number" "read_number" (defArgs s_read_number) (defBody s_read_number) (defScope s_read_number) [] [] (He.ga K "read_number") fd
  f_lbag : ∃ fd, FunD K "_law_bag" "_law_bag" (defArgs s_lbag) (defBody s_lbag) (defScope s_lbag) [] [] (He.ga K "_law_bag") fd
  f_ltake : ∃ fd, FunD K "_law_take" "_law_take" (defArgs s_ltake) (defBody s_ltake) (defScope s_ltake) [] [] (He.ga K "_law_take") fd
  f_lvalue : ∃ fd, FunD K "_law_value" "_law_value" (defArgs s_lvalue) (defBody s_lvalue) (defScope s_lvalue) [] [] (He.ga K "_law_value") fd
  f_lnumber : ∃ fd, FunD K "_law_number" "_law_number" (defArgs s_lnumber) (defBody s_lnumber) (defScope s_lnumber) [] [] (He.ga K "_law_number") fd
  f_lis_int : ∃ fd, FunD K "_law_is_int" "_law_is_int" (defArgs s_lis_int) (defBody s_lis_int) (defScope s_lis_int) [] [] (He.ga K "_law_is_int") fd
  f_lsame : ∃ fd, FunD K "_law_same" "_law_same" (defArgs s_lsame) (defBody s_lsame) (defScope s_lsame) [] [] (He.ga K "_law_same") fd
  f_ltext_of : ∃ fd, FunD K "_law_text_of" "_law_text_of" (defArgs s_ltext_of) (defBody s_ltext_of) (defScope s_ltext_of) [] [] (He.ga K "_law_text_of") fd
  f_lis_refused : ∃ fd, FunD K "_law_is_refused" "_law_is_refused" (defArgs s_lis_refused) (defBody s_lis_refused) (defScope s_lis_refused) [] [] (He.ga K "_law_is_refused") fd
  f_lwrong : ∃ fd, FunD K "_law_wrong" "_law_wrong" (defArgs s_lwrong) (defBody s_lwrong) (defScope s_lwrong) [] [] (He.ga K "_law_wrong") fd
  f_law : ∃ fd, FunD K "law" "law" (defArgs s_law) (defBody s_law) (defScope s_law) [] [] (He.ga K "law") fd
theorem txt_of {w : World} {K : PySem.W.Frag} {h : Heap} {mg : Str → Option Value} (X : K.In h) (G : h.Ns mainGlobals mg) (c : He.SaysD fa fn K) (c2 : ex K = true) : Txt w K mg :=
  { g_BadNumber := He.glo_ok X G (c.fact 0 (f := .glo "BadNumber") rfl),
    s_DIGITS := He.str_ok X G (c.fact 1 (f := .str "DIGITS" "0123456789") rfl),
    g_MendroundsError := He.glo_ok X G (c.fact 2 (f := .glo "MendroundsError") rfl),
    g__law_bag := He.glo_ok X G (c.fact 3 (f := .glo "_law_bag") rfl),
    g__law_is_int := He.glo_ok X G (c.fact 4 (f := .glo "_law_is_int") rfl),
    g__law_is_refused := He.glo_ok X G (c.fact 5 (f := .glo "_law_is_refused") rfl),
    g__law_number := He.glo_ok X G (c.fact 6 (f := .glo "_law_number") rfl),
    g__law_same := He.glo_ok X G (c.fact 7 (f := .glo "_law_same") rfl),
    g__law_take := He.glo_ok X G (c.fact 8 (f := .glo "_law_take") rfl),
    g__law_text_of := He.glo_ok X G (c.fact 9 (f := .glo "_law_text_of") rfl),
    g__law_value := He.glo_ok X G (c.fact 10 (f := .glo "_law_value") rfl),
    g__law_wrong := He.glo_ok X G (c.fact 11 (f := .glo "_law_wrong") rfl),
    g_common_divisor := He.glo_ok X G (c.fact 12 (f := .glo "common_divisor") rfl),
    g_law := He.glo_ok X G (c.fact 13 (f := .glo "law") rfl),
    g_number := He.glo_ok X G (c.fact 14 (f := .glo "number") rfl),
    g_read_number := He.glo_ok X G (c.fact 15 (f := .glo "read_number") rfl),
    g_written := He.glo_ok X G (c.fact 16 (f := .glo "written") rfl),
    n_abs := He.free_ok X G (c.fact 17 (f := .free "abs") rfl),
    n_all := He.free_ok X G (c.fact 18 (f := .free "all") rfl),
    n_bool := He.free_ok X G (c.fact 19 (f := .free "bool") rfl),
    n_int := He.free_ok X G (c.fact 20 (f := .free "int") rfl),
    n_isinstance := He.free_ok X G (c.fact 21 (f := .free "isinstance") rfl),
    n_len := He.free_ok X G (c.fact 22 (f := .free "len") rfl),
    n_max := He.free_ok X G (c.fact 23 (f := .free "max") rfl),
    n_min := He.free_ok X G (c.fact 24 (f := .free "min") rfl),
    n_range := He.free_ok X G (c.fact 25 (f := .free "range") rfl),
    n_repr := He.free_ok X G (c.fact 26 (f := .free "repr") rfl),
    n_str := He.free_ok X G (c.fact 27 (f := .free "str") rfl),
    n_tuple := He.free_ok X G (c.fact 28 (f := .free "tuple") rfl),
    e_BadNumber := errB_ok (exs_ok c2 0 rfl),
    h_BadNumber := tabB (exs_ok c2 1 rfl) fun _ h => of_decide_eq_true h,
    f_BadNumber__init := c.def_ 0 (d := dd_BadNumber__init) rfl,
    f_common_divisor := c.def_ 1 (d := dd_common_divisor) rfl,
    f_number := c.def_ 2 (d := dd_number) rfl,
    f_written := c.def_ 3 (d := dd_written) rfl,
    f_read_number := c.def_ 4 (d := dd_read_number) rfl,
    f_lbag := c.def_ 5 (d := dd_lbag) rfl,
    f_ltake := c.def_ 6 (d := dd_ltake) rfl,
    f_lvalue := c.def_ 7 (d := dd_lvalue) rfl,
    f_lnumber := c.def_ 8 (d := dd_lnumber) rfl,
    f_lis_int := c.def_ 9 (d := dd_lis_int) rfl,
    f_lsame := c.def_ 10 (d := dd_lsame) rfl,
    f_ltext_of := c.def_ 11 (d := dd_ltext_of) rfl,
    f_lis_refused := c.def_ 12 (d := dd_lis_refused) rfl,
    f_lwrong := c.def_ 13 (d := dd_lwrong) rfl,
    f_law := c.def_ 14 (d := dd_law) rfl }
def loose0 : List Str := ["MendroundsError", "BadNumber", "DIGITS", "common_divisor", "number", "written", "read_number", "_law_bag", "_law_take", "_law_value", "_law_number", "_law_is_int", "_law_same", "_law_text_of", "_law_is_refused", "_law_wrong"]
abbrev loose : List Str := loose0
abbrev Ro : PySem.W.OpenRow := PySem.W.OpenLaw.row PySem.Challenge.rw_mendrounds_k03_numbers_written_and_read
abbrev hk : PySem.W.Hook := He.hookX 4 fa fn [] [] ex
def ob (s : PySem.W.SharedT) : He.AlX := He.obsX 4 fa fn [] [] ex (HandSHeadRun.getT s)
theorem ob_eq (s : PySem.W.SharedT) : ob s = hk.obs s.abs := He.obsX_eq (HandSHeadRun.getT_eq s)
abbrev RunW (w : World) : Prop := HandSHeadRun.RunEq Ro (PySem.W.view Ro.prog [19]) hk ob 12000 loose w
theorem map3 {σ α β γ : Type} {o : Option σ} {f : σ → α} {g : σ → β} {h : σ → γ} {a : α} {b : β} {c : γ} (h1 : o.map f = some a) (h2 : o.map g = some b) (h3 : o.map h = some c) : o.map (fun s => (f s, g s, h s)) = some (a, b, c) := by
  cases o with
  | none => cases h1
  | some s =>
    cases h1
    cases h2
    cases h3
    rfl
open HandSHeadRun PySem.W in
theorem run1 (w : World) : ∀ os : OsState, (endF (stepQ (denQ tabQ) Ro.prog w) 12000 Ro.prog w os).map (fun s => looksF Ro.prog (boot_heap w.params) s.abs) = some (true) := by
  intro os
  kernel_rfl
open HandSHeadRun PySem.W in
theorem run2 (w : World) : ∀ os : OsState, (endF (stepQ (denQ tabQ) Ro.prog w) 12000 Ro.prog w os).map (fun s => seenQ (PySem.W.view Ro.prog [19]) loose (importedModules Ro.prog.main.body) (fun s => xlAt (PySem.W.view Ro.prog [19]) [] s && recOk Ro.toRowW.records s) s.abs) = some (openGood (PySem.W.view Ro.prog [19]) loose) := by
  intro os
  kernel_rfl
open HandSHeadRun PySem.W in
theorem run3 (w : World) : ∀ os : OsState, (endF (stepQ (denQ tabQ) Ro.prog w) 12000 Ro.prog w os).map (fun s => ob s) = some (hk.val w) := by
  intro os
  kernel_rfl
theorem run_ (w : World) : RunW w := fun os => map3 (run1 w os) (run2 w os) (run3 w os)
theorem run (w : World) : RunW w := run_ w

abbrev b0_lbag : SJ :=
  (jRet (jLstO (jCons (jVar 3) (jCons (jOp addJ (jOp addJ (jOp mulJ (jOp modJ (jCB jInt (jCons (jVar 2) jNil)) (jC (.int 2305843009213693951))) (jC (.int 7))) (jOp mulJ (jC (.int 9176)) (jVar 1))) (jC (.int 7001))) (jCons (jC (.int 0)) jNil)))))
abbrev b1_lbag : SJ :=
  (jSeq (jAsg (jIf (jTest (jOp geJ (jCB jAbs (jCons (jVar 2) jNil)) (jOp powJ (jC (.int 10)) (jC (.int 18))))) (jCB jAbs (jCons (jVar 2) jNil)) (jC (.int 0))) (jgName 3))
  b0_lbag)
def q_lbag : SJ :=
  (jSeq (jAsg (jIf (jTest (jOp ltJ (jVar 1) (jCB lenJ (jCons (jVar 0) jNil)))) (jOp ixJ (jVar 0) (jVar 1)) (jC (.int 0))) (jgName 2))
  b1_lbag)
def qf_lbag : SJ :=
  (jSeq (jAsg (jIf (jTest (jOp ltJ (jVar 1) (jCB lenJ (jCons (jVar 0) jNil)))) (jOp ixJ (jVar 0) (jVar 1)) (jC (.int 0))) (jgName 2))
  (jSeq (jAsg (jIf (jTest (jOp geJ (jCB jAbs (jCons (jVar 2) jNil)) (jOp powJ (jC (.int 10)) (jC (.int 18))))) (jCB jAbs (jCons (jVar 2) jNil)) (jC (.int 0))) (jgName 3))
  (jRet (jLstO (jCons (jVar 3) (jCons (jOp addJ (jOp addJ (jOp mulJ (jOp modJ (jCB jInt (jCons (jVar 2) jNil)) (jC (.int 2305843009213693951))) (jC (.int 7))) (jOp mulJ (jC (.int 9176)) (jVar 1))) (jC (.int 7001))) (jCons (jC (.int 0)) jNil)))))))
theorem qe_lbag : qf_lbag = q_lbag := rfl
def w_lbag : WJ := wOf 2 4 q_lbag
theorem len_lbag {K : PySem.W.Frag} : ∀ vs H Q E, spJ K w_lbag vs H Q E → vs.length = 2 := len_J fun _ _ _ _ h => h.1
theorem fn_lbag {P : Program} {w : World} {K : PySem.W.Frag} {mg : Str → Option Value} {base : Heap} (T : Txt w K mg) {fd : FuncData} (F : FunD K "_law_bag" "_law_bag" (defArgs s_lbag) (defBody s_lbag) (defScope s_lbag) [] [] (He.ga K "_law_bag") fd) : FnOk P w K mg base (L2N.CX P w) 1 (He.ga K "_law_bag") fd ["_law_script", "_law_at"] (spJ K w_lbag) := by
  refine F.ok (k := 0) sc_lbag len_lbag fun cdv A outer s H vs Q E hr h => ?_
  have key : ∃ t, PSs (cxOf (L2N.CX P w) P w K mg base N_lbag "_law_bag" (defScope s_lbag) (He.ga K "_law_bag") cdv A outer s H E) (defBody s_lbag) t ∧ Ss K (WE' E) t qf_lbag := by
    exact ex_of ((pss_cons (ps_set (i := 2) sc_lbag.nd rfl (Or.inl rfl) (pe_ifExp (pt_cmpR op_lt (pv 1) (pe_callB call_lenU (by rfl) T.n_len (by decide +kernel) (pa_cons (pv 0) pa_nil)) (nomark _)) (pe_ix (ix_U (hu_of hr)) (pv 0) (pv 1) (fun _ _ => rfl)) pe_int))
  (pss_cons (ps_set (i := 3) sc_lbag.nd rfl (Or.inl rfl) (pe_ifExp (pt_cmpR op_ge (pe_callB call_abs (by rfl) T.n_abs (by decide +kernel) (pa_cons (pv 2) pa_nil)) (pe_op op_pow pe_int pe_int) (nomark _)) (pe_callB call_abs (by rfl) T.n_abs (by decide +kernel) (pa_cons (pv 2) pa_nil)) pe_int))
  (pss_one (ps_ret (pe_lst (pa_cons (pv 3) (pa_cons (pe_op op_addU (pe_op op_addU (pe_op op_mulU (pe_op op_mod (pe_callTy call_int1 (by rfl) T.n_int (by decide +kernel) (pa_cons (pv 2) pa_nil)) pe_int) pe_int) (pe_op op_mulU pe_int (pv 1))) pe_int) (pa_cons pe_int pa_nil)))))))))
      ((ss_seq (ss_asg (se_if (sb_test (se_op so_cmp se_var (se_cb sf_len (sa_cons se_var sa_nil)))) (se_op so_ix se_var se_var) (se_c fun _ => .int _)) sg_name)
  (ss_seq (ss_asg (se_if (sb_test (se_op so_cmp (se_cb sf_abs (sa_cons se_var sa_nil)) (se_op so_pow (se_c fun _ => .int _) (se_c fun _ => .int _)))) (se_cb sf_abs (sa_cons se_var sa_nil)) (se_c fun _ => .int _)) sg_name)
  (ss_ret (se_lstO (sa_cons se_var (sa_cons (se_op so_add (se_op so_add (se_op so_mul (se_op so_mod (se_cb sf_int (sa_cons se_var sa_nil)) (se_c fun _ => .int _)) (se_c fun _ => .int _)) (se_op so_mul (se_c fun _ => .int _) se_var)) (se_c fun _ => .int _)) (sa_cons (se_c fun _ => .int _) sa_nil))))))))
  obtain ⟨t, h1, h2⟩ := key
  rw [qe_lbag] at h2
  exact ⟨t, h1, rd_J (n := 2) (N := N_lbag) h2 h⟩
theorem ok_lbag {P : Program} {w : World} {K : PySem.W.Frag} {mg : Str → Option Value} {base : Heap} (T : Txt w K mg) : Ok P w K mg base 1 (He.ga K "_law_bag") ["_law_script", "_law_at"] [] (spJ K w_lbag) := by
  obtain ⟨fd, F⟩ := T.f_lbag
  exact ⟨fd, [], fn_lbag T F, F.kp, .nil, F.bindsN fun _ _ _ _ _ _ us hl => match us, hl with | [_, _], _ => rfl⟩
abbrev b0_lvalue : SJ :=
  (jRet (jIf (jTest (jOp eqRJ (jVar 1) (jVar 3))) (jOp divJ (jVar 0) (jVar 3)) (jTup (jCons (jOp divJ (jVar 0) (jVar 3)) (jCons (jOp divJ (jVar 1) (jVar 3)) jNil)))))
abbrev b1_lvalue : SJ :=
  (jSeq (jWhile (jTest (jOp gtJ (jVar 2) (jC (.int 0))))
  (jPar 2 3 (jCons (jOp modJ (jCB jInt (jCons (jVar 3) jNil)) (jVar 2)) (jCons (jVar 2) jNil))))
  b0_lvalue)
def q_lvalue : SJ :=
  (jSeq (jPar 2 3 (jCons (jCB jAbs (jCons (jVar 0) jNil)) (jCons (jVar 1) jNil)))
  b1_lvalue)
def qf_lvalue : SJ :=
  (jSeq (jPar 2 3 (jCons (jCB jAbs (jCons (jVar 0) jNil)) (jCons (jVar 1) jNil)))
  (jSeq (jWhile (jTest (jOp gtJ (jVar 2) (jC (.int 0))))
  (jPar 2 3 (jCons (jOp modJ (jCB jInt (jCons (jVar 3) jNil)) (jVar 2)) (jCons (jVar 2) jNil))))
  (jRet (jIf (jTest (jOp eqRJ (jVar 1) (jVar 3))) (jOp divJ (jVar 0) (jVar 3)) (jTup (jCons (jOp divJ (jVar 0) (jVar 3)) (jCons (jOp divJ (jVar 1) (jVar 3)) jNil)))))))
theorem qe_lvalue : qf_lvalue = q_lvalue := rfl
def w_lvalue : WJ := wOf 2 4 q_lvalue
theorem len_lvalue {K : PySem.W.Frag} : ∀ vs H Q E, spJ K w_lvalue vs H Q E → vs.length = 2 := len_J fun _ _ _ _ h => h.1
theorem fn_lvalue {P : Program} {w : World} {K : PySem.W.Frag} {mg : Str → Option Value} {base : Heap} (T : Txt w K mg) {fd : FuncData} (F : FunD K "_law_value" "_law_value" (defArgs s_lvalue) (defBody s_lvalue) (defScope s_lvalue) [] [] (He.ga K "_law_value") fd) : FnOk P w K mg base (L2N.CX P w) 1 (He.ga K "_law_value") fd ["_law_p", "_law_q"] (spJ K w_lvalue) := by
  refine F.ok (k := 0) sc_lvalue len_lvalue fun cdv A outer s H vs Q E hr h => ?_
  have key : ∃ t, PSs (cxOf (L2N.CX P w) P w K mg base N_lvalue "_law_value" (defScope s_lvalue) (He.ga K "_law_value") cdv A outer s H E) (defBody s_lvalue) t ∧ Ss K (WE' E) t qf_lvalue := by
    exact ex_of ((pss_cons (ps_par (i := 2) (j := 3) rfl sc_lvalue.nd rfl rfl (by decide) rfl rfl (pa_cons (pe_callB call_abs (by rfl) T.n_abs (by decide +kernel) (pa_cons (pv 0) pa_nil)) (pa_cons (pv 1) pa_nil)) (by rfl))
  (pss_cons (ps_while (passes_of rfl) (pt_cmpR op_gt (pv 2) pe_int (nomark _))
  (pss_one (ps_par (i := 2) (j := 3) rfl sc_lvalue.nd rfl rfl (by decide) rfl rfl (pa_cons (pe_op op_mod (pe_callTy call_int1 (by rfl) T.n_int (by decide +kernel) (pa_cons (pv 3) pa_nil)) (pv 2)) (pa_cons (pv 2) pa_nil)) (by rfl))))
  (pss_one (ps_ret (pe_ifExp (pt_cmpR (op_eqU (hu65 hr)) (pv 1) (pv 3) (nomark _)) (pe_op op_fdivW (pv 0) (pv 3)) (pe_tup (pa_cons (pe_op op_fdivW (pv 0) (pv 3)) (pa_cons (pe_op op_fdivW (pv 1) (pv 3)) pa_nil)))))))))
      ((ss_seq (ss_par (sa_cons (se_cb sf_abs (sa_cons se_var sa_nil)) (sa_cons se_var sa_nil)))
  (ss_seq (ss_while (sb_test (se_op so_cmp se_var (se_c fun _ => .int _)))
  (ss_par (sa_cons (se_op so_mod (se_cb sf_int (sa_cons se_var sa_nil)) se_var) (sa_cons se_var sa_nil))))
  (ss_ret (se_if (sb_test (se_op so_eq se_var se_var)) (se_op so_div se_var se_var) (se_tup (sa_cons (se_op so_div se_var se_var) (sa_cons (se_op so_div se_var se_var) sa_nil))))))))
  obtain ⟨t, h1, h2⟩ := key
  rw [qe_lvalue] at h2
  exact ⟨t, h1, rd_J (n := 2) (N := N_lvalue) h2 h⟩
theorem ok_lvalue {P : Program} {w : World} {K : PySem.W.Frag} {mg : Str → Option Value} {base : Heap} (T : Txt w K mg) : Ok P w K mg base 1 (He.ga K "_law_value") ["_law_p", "_law_q"] [] (spJ K w_lvalue) := by
  obtain ⟨fd, F⟩ := T.f_lvalue
  exact ⟨fd, [], fn_lvalue T F, F.kp, .nil, F.bindsN fun _ _ _ _ _ _ us hl => match us, hl with | [_, _], _ => rfl⟩
abbrev b0_ltake : SJ :=
  (jSeq (jAsg (jOp modJ (jCB jInt (jCons (jOp ixJ (jVar 0) (jC (.int 0))) jNil)) (jVar 1)) (jgName 2))
  (jSeq (jAsg (jOp divJ (jOp ixJ (jVar 0) (jC (.int 0))) (jVar 1)) (jgSub (jVar 0) (jC (.int 0))))
  (jRet (jVar 2))))
abbrev b1_ltake : SJ :=
  (jSeq (jAsg (jOp modJ (jCB jInt (jCons (jOp powJ (jOp addJ (jVar 3) (jOp mulJ (jC (.int 15485863)) (jOp ixJ (jVar 0) (jC (.int 2))))) (jC (.int 2))) jNil)) (jC (.int 2305843009213693951))) (jgName 3))
  (jRet (jOp modJ (jCB jInt (jCons (jOp divJ (jVar 3) (jC (.int 8192))) jNil)) (jVar 1))))
abbrev b2_ltake : SJ :=
  (jSeq (jAsg (jOp modJ (jCB jInt (jCons (jOp powJ (jOp addJ (jOp ixJ (jVar 0) (jC (.int 1))) (jOp mulJ (jC (.int 1000003)) (jOp ixJ (jVar 0) (jC (.int 2))))) (jC (.int 3))) jNil)) (jC (.int 2305843009213693921))) (jgName 3))
  b1_ltake)
abbrev b3_ltake : SJ :=
  (jSeq (jIfS (jTest (jOp gtJ (jOp ixJ (jVar 0) (jC (.int 0))) (jC (.int 0))))
  b0_ltake
  jNext)
  (jSeq (jAsg (jOp addJ (jOp ixJ (jVar 0) (jC (.int 2))) (jC (.int 1))) (jgSub (jVar 0) (jC (.int 2))))
  b2_ltake))
def q_ltake : SJ :=
  b3_ltake
def qf_ltake : SJ :=
  (jSeq (jIfS (jTest (jOp gtJ (jOp ixJ (jVar 0) (jC (.int 0))) (jC (.int 0))))
  (jSeq (jAsg (jOp modJ (jCB jInt (jCons (jOp ixJ (jVar 0) (jC (.int 0))) jNil)) (jVar 1)) (jgName 2))
  (jSeq (jAsg (jOp divJ (jOp ixJ (jVar 0) (jC (.int 0))) (jVar 1)) (jgSub (jVar 0) (jC (.int 0))))
  (jRet (jVar 2))))
  jNext)
  (jSeq (jAsg (jOp addJ (jOp ixJ (jVar 0) (jC (.int 2))) (jC (.int 1))) (jgSub (jVar 0) (jC (.int 2))))
  (jSeq (jAsg (jOp modJ (jCB jInt (jCons (jOp powJ (jOp addJ (jOp ixJ (jVar 0) (jC (.int 1))) (jOp mulJ (jC (.int 1000003)) (jOp ixJ (jVar 0) (jC (.int 2))))) (jC (.int 3))) jNil)) (jC (.int 2305843009213693921))) (jgName 3))
  (jSeq (jAsg (jOp modJ (jCB jInt (jCons (jOp powJ (jOp addJ (jVar 3) (jOp mulJ (jC (.int 15485863)) (jOp ixJ (jVar 0) (jC (.int 2))))) (jC (.int 2))) jNil)) (jC (.int 2305843009213693951))) (jgName 3))
  (jRet (jOp modJ (jCB jInt (jCons (jOp divJ (jVar 3) (jC (.int 8192))) jNil)) (jVar 1)))))))
theorem qe_ltake : qf_ltake = q_ltake := rfl
def w_ltake : WJ := wOf 2 4 q_ltake
theorem len_ltake {K : PySem.W.Frag} : ∀ vs H Q E, spJ K w_ltake vs H Q E → vs.length = 2 := len_J fun _ _ _ _ h => h.1
theorem fn_ltake {P : Program} {w : World} {K : PySem.W.Frag} {mg : Str → Option Value} {base : Heap} (T : Txt w K mg) {fd : FuncData} (F : FunD K "_law_take" "_law_take" (defArgs s_ltake) (defBody s_ltake) (defScope s_ltake) [] [] (He.ga K "_law_take") fd) : FnOk P w K mg base (L2N.CX P w) 1 (He.ga K "_law_take") fd ["_law_bag_here", "_law_many"] (spJ K w_ltake) := by
  refine F.ok (k := 0) sc_ltake len_ltake fun cdv A outer s H vs Q E hr h => ?_
  have key : ∃ t, PSs (cxOf (L2N.CX P w) P w K mg base N_ltake "_law_take" (defScope s_ltake) (He.ga K "_law_take") cdv A outer s H E) (defBody s_ltake) t ∧ Ss K (WE' E) t qf_ltake := by
    exact ex_of ((pss_cons (ps_if (pt_cmpR op_gt (pe_ix (ix_U (hu_of hr)) (pv 0) pe_int (fun _ _ => rfl)) pe_int (nomark _))
  (pss_cons (ps_set (i := 2) sc_ltake.nd rfl (Or.inl rfl) (pe_op op_mod (pe_callTy call_int1 (by rfl) T.n_int (by decide +kernel) (pa_cons (pe_ix (ix_U (hu_of hr)) (pv 0) pe_int (fun _ _ => rfl)) pa_nil)) (pv 1)))
  (pss_cons (ps_asg (pe_op op_fdivW (pe_ix (ix_U (hu_of hr)) (pv 0) pe_int (fun _ _ => rfl)) (pv 1)) (pg_sub (pv 0) pe_int (set_U (hu_of hr))))
  (pss_one (ps_ret (pv 2)))))
  pss_nil)
  (pss_cons (ps_asg (pe_op op_addU (pe_ix (ix_U (hu_of hr)) (pv 0) pe_int (fun _ _ => rfl)) pe_int) (pg_sub (pv 0) pe_int (set_U (hu_of hr))))
  (pss_cons (ps_set (i := 3) sc_ltake.nd rfl (Or.inl rfl) (pe_op op_mod (pe_callTy call_int1 (by rfl) T.n_int (by decide +kernel) (pa_cons (pe_op op_pow (pe_op op_addU (pe_ix (ix_U (hu_of hr)) (pv 0) pe_int (fun _ _ => rfl)) (pe_op op_mulU pe_int (pe_ix (ix_U (hu_of hr)) (pv 0) pe_int (fun _ _ => rfl)))) pe_int) pa_nil)) pe_int))
  (pss_cons (ps_set (i := 3) sc_ltake.nd rfl (Or.inl rfl) (pe_op op_mod (pe_callTy call_int1 (by rfl) T.n_int (by decide +kernel) (pa_cons (pe_op op_pow (pe_op op_addU (pv 3) (pe_op op_mulU pe_int (pe_ix (ix_U (hu_of hr)) (pv 0) pe_int (fun _ _ => rfl)))) pe_int) pa_nil)) pe_int))
  (pss_one (ps_ret (pe_op op_mod (pe_callTy call_int1 (by rfl) T.n_int (by decide +kernel) (pa_cons (pe_op op_fdivW (pv 3) pe_int) pa_nil)) (pv 1)))))))))
      ((ss_seq (ss_if (sb_test (se_op so_cmp (se_op so_ix se_var (se_c fun _ => .int _)) (se_c fun _ => .int _)))
  (ss_seq (ss_asg (se_op so_mod (se_cb sf_int (sa_cons (se_op so_ix se_var (se_c fun _ => .int _)) sa_nil)) se_var) sg_name)
  (ss_seq (ss_asg (se_op so_div (se_op so_ix se_var (se_c fun _ => .int _)) se_var) (sg_sub se_var (se_c fun _ => .int _)))
  (ss_ret se_var)))
  ss_next)
  (ss_seq (ss_asg (se_op so_add (se_op so_ix se_var (se_c fun _ => .int _)) (se_c fun _ => .int _)) (sg_sub se_var (se_c fun _ => .int _)))
  (ss_seq (ss_asg (se_op so_mod (se_cb sf_int (sa_cons (se_op so_pow (se_op so_add (se_op so_ix se_var (se_c fun _ => .int _)) (se_op so_mul (se_c fun _ => .int _) (se_op so_ix se_var (se_c fun _ => .int _)))) (se_c fun _ => .int _)) sa_nil)) (se_c fun _ => .int _)) sg_name)
  (ss_seq (ss_asg (se_op so_mod (se_cb sf_int (sa_cons (se_op so_pow (se_op so_add se_var (se_op so_mul (se_c fun _ => .int _) (se_op so_ix se_var (se_c fun _ => .int _)))) (se_c fun _ => .int _)) sa_nil)) (se_c fun _ => .int _)) sg_name)
  (ss_ret (se_op so_mod (se_cb sf_int (sa_cons (se_op so_div se_var (se_c fun _ => .int _)) sa_nil)) se_var)))))))
  obtain ⟨t, h1, h2⟩ := key
  rw [qe_ltake] at h2
  exact ⟨t, h1, rd_J (n := 2) (N := N_ltake) h2 h⟩
theorem ok_ltake {P : Program} {w : World} {K : PySem.W.Frag} {mg : Str → Option Value} {base : Heap} (T : Txt w K mg) : Ok P w K mg base 1 (He.ga K "_law_take") ["_law_bag_here", "_law_many"] [] (spJ K w_ltake) := by
  obtain ⟨fd, F⟩ := T.f_ltake
  exact ⟨fd, [], fn_ltake T F, F.kp, .nil, F.bindsN fun _ _ _ _ _ _ us hl => match us, hl with | [_, _], _ => rfl⟩
abbrev b0_lnumber : SJ :=
  (jRet (jCall w_lvalue [] (jCons (jOp subJ (jCall w_ltake [] (jCons (jVar 0) (jCons (jC (.int 11)) jNil))) (jC (.int 5))) (jCons (jOp addJ (jC (.int 1)) (jCall w_ltake [] (jCons (jVar 0) (jCons (jC (.int 3)) jNil)))) jNil))))
abbrev b1_lnumber : SJ :=
  (jRet (jCall w_lvalue [] (jCons (jOp subJ (jCall w_ltake [] (jCons (jVar 0) (jCons (jOp addJ (jOp mulJ (jC (.int 2)) (jOp powJ (jC (.int 10)) (jC (.int 20)))) (jC (.int 1))) jNil))) (jOp powJ (jC (.int 10)) (jC (.int 20)))) (jCons (jOp addJ (jC (.int 1)) (jCall w_ltake [] (jCons (jVar 0) (jCons (jOp powJ (jC (.int 10)) (jC (.int 9))) jNil)))) jNil))))
def q_lnumber : SJ :=
  (jSeq (jIfS (jTest (jOp gtJ (jCall w_ltake [] (jCons (jVar 0) (jCons (jC (.int 3)) jNil))) (jC (.int 0))))
  b0_lnumber
  jNext)
  b1_lnumber)
def qf_lnumber : SJ :=
  (jSeq (jIfS (jTest (jOp gtJ (jCall w_ltake [] (jCons (jVar 0) (jCons (jC (.int 3)) jNil))) (jC (.int 0))))
  (jRet (jCall w_lvalue [] (jCons (jOp subJ (jCall w_ltake [] (jCons (jVar 0) (jCons (jC (.int 11)) jNil))) (jC (.int 5))) (jCons (jOp addJ (jC (.int 1)) (jCall w_ltake [] (jCons (jVar 0) (jCons (jC (.int 3)) jNil)))) jNil))))
  jNext)
  (jRet (jCall w_lvalue [] (jCons (jOp subJ (jCall w_ltake [] (jCons (jVar 0) (jCons (jOp addJ (jOp mulJ (jC (.int 2)) (jOp powJ (jC (.int 10)) (jC (.int 20)))) (jC (.int 1))) jNil))) (jOp powJ (jC (.int 10)) (jC (.int 20)))) (jCons (jOp addJ (jC (.int 1)) (jCall w_ltake [] (jCons (jVar 0) (jCons (jOp powJ (jC (.int 10)) (jC (.int 9))) jNil)))) jNil)))))
theorem qe_lnumber : qf_lnumber = q_lnumber := rfl
def w_lnumber : WJ := wOf 1 1 q_lnumber
theorem len_lnumber {K : PySem.W.Frag} : ∀ vs H Q E, spJ K w_lnumber vs H Q E → vs.length = 1 := len_J fun _ _ _ _ h => h.1
theorem fn_lnumber {P : Program} {w : World} {K : PySem.W.Frag} {mg : Str → Option Value} {base : Heap} (T : Txt w K mg) {fd : FuncData} (F : FunD K "_law_number" "_law_number" (defArgs s_lnumber) (defBody s_lnumber) (defScope s_lnumber) [] [] (He.ga K "_law_number") fd) : FnOk P w K mg base (L2N.CX P w) 2 (He.ga K "_law_number") fd ["_law_bag_here"] (spJ K w_lnumber) := by
  refine F.ok (k := 1) sc_lnumber len_lnumber fun cdv A outer s H vs Q E hr h => ?_
  have key : ∃ t, PSs (cxOf (L2N.CX P w) P w K mg base N_lnumber "_law_number" (defScope s_lnumber) (He.ga K "_law_number") cdv A outer s H E) (defBody s_lnumber) t ∧ Ss K (WE' E) t qf_lnumber := by
    exact ex_of ((pss_cons (ps_if (pt_cmpR op_gt (pe_cU (ok_ltake T) hr (by decide) T.g__law_take (L2N.takes_of rfl rfl rfl rfl) (pa_cons (pv 0) (pa_cons pe_int pa_nil))) pe_int (nomark _))
  (pss_one (ps_ret (pe_cU (ok_lvalue T) hr (by decide) T.g__law_value (L2N.takes_of rfl rfl rfl rfl) (pa_cons (pe_op op_sub (pe_cU (ok_ltake T) hr (by decide) T.g__law_take (L2N.takes_of rfl rfl rfl rfl) (pa_cons (pv 0) (pa_cons pe_int pa_nil))) pe_int) (pa_cons (pe_op op_addU pe_int (pe_cU (ok_ltake T) hr (by decide) T.g__law_take (L2N.takes_of rfl rfl rfl rfl) (pa_cons (pv 0) (pa_cons pe_int pa_nil)))) pa_nil)))))
  pss_nil)
  (pss_one (ps_ret (pe_cU (ok_lvalue T) hr (by decide) T.g__law_value (L2N.takes_of rfl rfl rfl rfl) (pa_cons (pe_op op_sub (pe_cU (ok_ltake T) hr (by decide) T.g__law_take (L2N.takes_of rfl rfl rfl rfl) (pa_cons (pv 0) (pa_cons (pe_op op_addU (pe_op op_mulU pe_int (pe_op op_pow pe_int pe_int)) pe_int) pa_nil))) (pe_op op_pow pe_int pe_int)) (pa_cons (pe_op op_addU pe_int (pe_cU (ok_ltake T) hr (by decide) T.g__law_take (L2N.takes_of rfl rfl rfl rfl) (pa_cons (pv 0) (pa_cons (pe_op op_pow pe_int pe_int) pa_nil)))) pa_nil)))))))
      ((ss_seq (ss_if (sb_test (se_op so_cmp (se_callU (fun _ => .nil) (sa_cons se_var (sa_cons (se_c fun _ => .int _) sa_nil))) (se_c fun _ => .int _)))
  (ss_ret (se_callU (fun _ => .nil) (sa_cons (se_op so_sub (se_callU (fun _ => .nil) (sa_cons se_var (sa_cons (se_c fun _ => .int _) sa_nil))) (se_c fun _ => .int _)) (sa_cons (se_op so_add (se_c fun _ => .int _) (se_callU (fun _ => .nil) (sa_cons se_var (sa_cons (se_c fun _ => .int _) sa_nil)))) sa_nil))))
  ss_next)
  (ss_ret (se_callU (fun _ => .nil) (sa_cons (se_op so_sub (se_callU (fun _ => .nil) (sa_cons se_var (sa_cons (se_op so_add (se_op so_mul (se_c fun _ => .int _) (se_op so_pow (se_c fun _ => .int _) (se_c fun _ => .int _))) (se_c fun _ => .int _)) sa_nil))) (se_op so_pow (se_c fun _ => .int _) (se_c fun _ => .int _))) (sa_cons (se_op so_add (se_c fun _ => .int _) (se_callU (fun _ => .nil) (sa_cons se_var (sa_cons (se_op so_pow (se_c fun _ => .int _) (se_c fun _ => .int _)) sa_nil)))) sa_nil))))))
  obtain ⟨t, h1, h2⟩ := key
  rw [qe_lnumber] at h2
  exact ⟨t, h1, rd_J (n := 1) (N := N_lnumber) h2 h⟩
theorem ok_lnumber {P : Program} {w : World} {K : PySem.W.Frag} {mg : Str → Option Value} {base : Heap} (T : Txt w K mg) : Ok P w K mg base 2 (He.ga K "_law_number") ["_law_bag_here"] [] (spJ K w_lnumber) := by
  obtain ⟨fd, F⟩ := T.f_lnumber
  exact ⟨fd, [], fn_lnumber T F, F.kp, .nil, F.bindsN fun _ _ _ _ _ _ us hl => match us, hl with | [_], _ => rfl⟩
abbrev b0_ltext_of : SJ :=
  (jSeq (jIfS (jTruth (jCB isiJ (jCons (jVar 0) (jCons (jC (.ty "tuple")) jNil))))
  (jRet (jOp addJ (jOp addJ (jCB jStr (jCons (jOp ixJ (jVar 0) (jC (.int 0))) jNil)) (jC (.str "/"))) (jCB jStr (jCons (jOp ixJ (jVar 0) (jC (.int 1))) jNil))))
  jNext)
  (jRet (jCB jStr (jCons (jVar 0) jNil))))
def q_ltext_of : SJ :=
  b0_ltext_of
def qf_ltext_of : SJ :=
  (jSeq (jIfS (jTruth (jCB isiJ (jCons (jVar 0) (jCons (jC (.ty "tuple")) jNil))))
  (jRet (jOp addJ (jOp addJ (jCB jStr (jCons (jOp ixJ (jVar 0) (jC (.int 0))) jNil)) (jC (.str "/"))) (jCB jStr (jCons (jOp ixJ (jVar 0) (jC (.int 1))) jNil))))
  jNext)
  (jRet (jCB jStr (jCons (jVar 0) jNil))))
theorem qe_ltext_of : qf_ltext_of = q_ltext_of := rfl
def w_ltext_of : WJ := wOf 1 1 q_ltext_of
theorem len_ltext_of {K : PySem.W.Frag} : ∀ vs H Q E, spJ K w_ltext_of vs H Q E → vs.length = 1 := len_J fun _ _ _ _ h => h.1
theorem fn_ltext_of {P : Program} {w : World} {K : PySem.W.Frag} {mg : Str → Option Value} {base : Heap} (T : Txt w K mg) {fd : FuncData} (F : FunD K "_law_text_of" "_law_text_of" (defArgs s_ltext_of) (defBody s_ltext_of) (defScope s_ltext_of) [] [] (He.ga K "_law_text_of") fd) : FnOk P w K mg base (L2N.CX P w) 1 (He.ga K "_law_text_of") fd ["_law_value_here"] (spJ K w_ltext_of) := by
  refine F.ok (k := 0) sc_ltext_of len_ltext_of fun cdv A outer s H vs Q E hr h => ?_
  have key : ∃ t, PSs (cxOf (L2N.CX P w) P w K mg base N_ltext_of "_law_text_of" (defScope s_ltext_of) (He.ga K "_law_text_of") cdv A outer s H E) (defBody s_ltext_of) t ∧ Ss K (WE' E) t qf_ltext_of := by
    exact ex_of ((pss_cons (ps_if (pt_tru (pe_callB call_isi (by rfl) T.n_isinstance (by decide +kernel) (pa_cons (pv 0) (pa_cons (pe_ty T.n_tuple (by decide +kernel)) pa_nil))))
  (pss_one (ps_ret (pe_op op_addU (pe_op op_addU (pe_callTy call_strU (by rfl) T.n_str (by decide +kernel) (pa_cons (pe_ix (ix_U (hu_of hr)) (pv 0) pe_int (fun _ _ => rfl)) pa_nil)) pe_str) (pe_callTy call_strU (by rfl) T.n_str (by decide +kernel) (pa_cons (pe_ix (ix_U (hu_of hr)) (pv 0) pe_int (fun _ _ => rfl)) pa_nil)))))
  pss_nil)
  (pss_one (ps_ret (pe_callTy call_strU (by rfl) T.n_str (by decide +kernel) (pa_cons (pv 0) pa_nil))))))
      ((ss_seq (ss_if (sb_truth (se_cb sf_isi (sa_cons se_var (sa_cons (se_c fun _ => .ty _) sa_nil))))
  (ss_ret (se_op so_add (se_op so_add (se_cb sf_str (sa_cons (se_op so_ix se_var (se_c fun _ => .int _)) sa_nil)) (se_c fun _ => .str _)) (se_cb sf_str (sa_cons (se_op so_ix se_var (se_c fun _ => .int _)) sa_nil))))
  ss_next)
  (ss_ret (se_cb sf_str (sa_cons se_var sa_nil)))))
  obtain ⟨t, h1, h2⟩ := key
  rw [qe_ltext_of] at h2
  exact ⟨t, h1, rd_J (n := 1) (N := N_ltext_of) h2 h⟩
theorem ok_ltext_of {P : Program} {w : World} {K : PySem.W.Frag} {mg : Str → Option Value} {base : Heap} (T : Txt w K mg) : Ok P w K mg base 1 (He.ga K "_law_text_of") ["_law_value_here"] [] (spJ K w_ltext_of) := by
  obtain ⟨fd, F⟩ := T.f_ltext_of
  exact ⟨fd, [], fn_ltext_of T F, F.kp, .nil, F.bindsN fun _ _ _ _ _ _ us hl => match us, hl with | [_], _ => rfl⟩
abbrev b0_written : SJ :=
  (jSeq (jIfS (jTruth (jCB isiJ (jCons (jVar 0) (jCons (jC (.ty "tuple")) jNil))))
  (jRet (jJoined [(jFmt (jOp ixJ (jVar 0) (jC (.int 0)))), (jC (.str "/")), (jFmt (jOp ixJ (jVar 0) (jC (.int 1))))]))
  jNext)
  (jRet (jCB jStr (jCons (jVar 0) jNil))))
def q_written : SJ :=
  b0_written
def qf_written : SJ :=
  (jSeq (jIfS (jTruth (jCB isiJ (jCons (jVar 0) (jCons (jC (.ty "tuple")) jNil))))
  (jRet (jJoined [(jFmt (jOp ixJ (jVar 0) (jC (.int 0)))), (jC (.str "/")), (jFmt (jOp ixJ (jVar 0) (jC (.int 1))))]))
  jNext)
  (jRet (jCB jStr (jCons (jVar 0) jNil))))
theorem qe_written : qf_written = q_written := rfl
def w_written : WJ := wOf 1 1 q_written
theorem len_written {K : PySem.W.Frag} : ∀ vs H Q E, spJ K w_written vs H Q E → vs.length = 1 := len_J fun _ _ _ _ h => h.1
theorem fn_written {P : Program} {w : World} {K : PySem.W.Frag} {mg : Str → Option Value} {base : Heap} (T : Txt w K mg) {fd : FuncData} (F : FunD K "written" "written" (defArgs s_written) (defBody s_written) (defScope s_written) [] [] (He.ga K "written") fd) : FnOk P w K mg base (L2N.CX P w) 1 (He.ga K "written") fd ["value"] (spJ K w_written) := by
  refine F.ok (k := 0) sc_written len_written fun cdv A outer s H vs Q E hr h => ?_
  have key : ∃ t, PSs (cxOf (L2N.CX P w) P w K mg base N_written "written" (defScope s_written) (He.ga K "written") cdv A outer s H E) (defBody s_written) t ∧ Ss K (WE' E) t qf_written := by
    exact ex_of ((pss_cons (ps_if (pt_tru (pe_callB call_isi (by rfl) T.n_isinstance (by decide +kernel) (pa_cons (pv 0) (pa_cons (pe_ty T.n_tuple (by decide +kernel)) pa_nil))))
  (pss_one (ps_ret (pe_joined (.cons (pe_fmt (pe_ix (ix_U (hu_of hr)) (pv 0) pe_int (fun _ _ => rfl))) (.cons pe_str (.cons (pe_fmt (pe_ix (ix_U (hu_of hr)) (pv 0) pe_int (fun _ _ => rfl))) .nil))))))
  pss_nil)
  (pss_one (ps_ret (pe_callTy call_strU (by rfl) T.n_str (by decide +kernel) (pa_cons (pv 0) pa_nil))))))
      ((ss_seq (ss_if (sb_truth (se_cb sf_isi (sa_cons se_var (sa_cons (se_c fun _ => .ty _) sa_nil))))
  (ss_ret (se_joined (.cons (se_fmt (se_op so_ix se_var (se_c fun _ => .int _))) (.cons (se_c fun _ => .str _) (.cons (se_fmt (se_op so_ix se_var (se_c fun _ => .int _))) .nil)))))
  ss_next)
  (ss_ret (se_cb sf_str (sa_cons se_var sa_nil)))))
  obtain ⟨t, h1, h2⟩ := key
  rw [qe_written] at h2
  exact ⟨t, h1, rd_J (n := 1) (N := N_written) h2 h⟩
theorem ok_written {P : Program} {w : World} {K : PySem.W.Frag} {mg : Str → Option Value} {base : Heap} (T : Txt w K mg) : Ok P w K mg base 1 (He.ga K "written") ["value"] [] (spJ K w_written) := by
  obtain ⟨fd, F⟩ := T.f_written
  exact ⟨fd, [], fn_written T F, F.kp, .nil, F.bindsN fun _ _ _ _ _ _ us hl => match us, hl with | [_], _ => rfl⟩
abbrev b0_lwrong : SJ :=
  (jRet (jOp addJ (jVar 2) (jLst (jCons (jOp addJ (jC (.str "-0")) (jSl slJ (jVar 0) (jPart (jC (.int 1))) jNoPart)) (jCons (jOp addJ (jC (.str "+")) (jSl slJ (jVar 0) (jPart (jC (.int 1))) jNoPart)) (jCons (jOp addJ (jC (.str "- ")) (jSl slJ (jVar 0) (jPart (jC (.int 1))) jNoPart)) jNil))))))
abbrev b1_lwrong : SJ :=
  (jSeq (jIfS (jTest (jOp eqRJ (jOp ixJ (jVar 0) (jC (.int 0))) (jC (.str "-"))))
  b0_lwrong
  jNext)
  (jRet (jOp addJ (jVar 2) (jLst (jCons (jOp addJ (jC (.str "-0")) (jVar 0)) jNil)))))
abbrev b2_lwrong : SJ :=
  (jSeq (jAsg (jOp addJ (jVar 2) (jLst (jCons (jOp addJ (jVar 0) (jC (.str "x"))) (jCons (jOp addJ (jC (.str "x")) (jVar 0)) (jCons (jOp addJ (jOp addJ (jC (.str "'")) (jVar 0)) (jC (.str "'"))) (jCons (jC (.str "1 /2")) (jCons (jC (.str "- 1")) (jCons (jC (.str "1/2/3")) (jCons (jVar 1) (jCons (jC (.bl true)) (jCons (jC (.non)) (jCons (jLst (jCons (jVar 0) jNil)) (jCons (jTup (jCons (jVar 0) jNil)) jNil))))))))))))) (jgName 2))
  b1_lwrong)
abbrev b3_lwrong : SJ :=
  (jSeq (jAsg (jOp addJ (jVar 2) (jLst (jCons (jOp addJ (jC (.str "0")) (jVar 0)) (jCons (jC (.str "-0")) (jCons (jC (.str "")) (jCons (jC (.str "-")) (jCons (jC (.str "/")) (jCons (jC (.str "1/0")) (jCons (jC (.str "2/4")) (jCons (jC (.str "-6/3")) (jCons (jC (.str "0/5")) (jCons (jC (.str "00")) (jCons (jC (.str "1/02")) (jCons (jC (.str "1.5")) (jCons (jC (.str "1e3")) (jCons (jC (.str "1_0")) (jCons (jC (.str "0x1")) jNil))))))))))))))))) (jgName 2))
  b2_lwrong)
abbrev b4_lwrong : SJ :=
  (jSeq (jAsg (jLst (jCons (jOp addJ (jC (.str "+")) (jVar 0)) (jCons (jOp addJ (jVar 0) (jC (.str " "))) (jCons (jOp addJ (jC (.str " ")) (jVar 0)) (jCons (jOp addJ (jVar 0) (jC (.str "/1"))) (jCons (jOp addJ (jVar 0) (jC (.str "/"))) (jCons (jOp addJ (jC (.str "/")) (jVar 0)) (jCons (jOp addJ (jC (.str "--")) (jVar 0)) (jCons (jOp addJ (jVar 0) (jC (.str "//3"))) (jCons (jOp addJ (jVar 0) (jC (.str "/-2"))) jNil)))))))))) (jgName 2))
  b3_lwrong)
def q_lwrong : SJ :=
  b4_lwrong
def qf_lwrong : SJ :=
  (jSeq (jAsg (jLst (jCons (jOp addJ (jC (.str "+")) (jVar 0)) (jCons (jOp addJ (jVar 0) (jC (.str " "))) (jCons (jOp addJ (jC (.str " ")) (jVar 0)) (jCons (jOp addJ (jVar 0) (jC (.str "/1"))) (jCons (jOp addJ (jVar 0) (jC (.str "/"))) (jCons (jOp addJ (jC (.str "/")) (jVar 0)) (jCons (jOp addJ (jC (.str "--")) (jVar 0)) (jCons (jOp addJ (jVar 0) (jC (.str "//3"))) (jCons (jOp addJ (jVar 0) (jC (.str "/-2"))) jNil)))))))))) (jgName 2))
  (jSeq (jAsg (jOp addJ (jVar 2) (jLst (jCons (jOp addJ (jC (.str "0")) (jVar 0)) (jCons (jC (.str "-0")) (jCons (jC (.str "")) (jCons (jC (.str "-")) (jCons (jC (.str "/")) (jCons (jC (.str "1/0")) (jCons (jC (.str "2/4")) (jCons (jC (.str "-6/3")) (jCons (jC (.str "0/5")) (jCons (jC (.str "00")) (jCons (jC (.str "1/02")) (jCons (jC (.str "1.5")) (jCons (jC (.str "1e3")) (jCons (jC (.str "1_0")) (jCons (jC (.str "0x1")) jNil))))))))))))))))) (jgName 2))
  (jSeq (jAsg (jOp addJ (jVar 2) (jLst (jCons (jOp addJ (jVar 0) (jC (.str "x"))) (jCons (jOp addJ (jC (.str "x")) (jVar 0)) (jCons (jOp addJ (jOp addJ (jC (.str "'")) (jVar 0)) (jC (.str "'"))) (jCons (jC (.str "1 /2")) (jCons (jC (.str "- 1")) (jCons (jC (.str "1/2/3")) (jCons (jVar 1) (jCons (jC (.bl true)) (jCons (jC (.non)) (jCons (jLst (jCons (jVar 0) jNil)) (jCons (jTup (jCons (jVar 0) jNil)) jNil))))))))))))) (jgName 2))
  (jSeq (jIfS (jTest (jOp eqRJ (jOp ixJ (jVar 0) (jC (.int 0))) (jC (.str "-"))))
  (jRet (jOp addJ (jVar 2) (jLst (jCons (jOp addJ (jC (.str "-0")) (jSl slJ (jVar 0) (jPart (jC (.int 1))) jNoPart)) (jCons (jOp addJ (jC (.str "+")) (jSl slJ (jVar 0) (jPart (jC (.int 1))) jNoPart)) (jCons (jOp addJ (jC (.str "- ")) (jSl slJ (jVar 0) (jPart (jC (.int 1))) jNoPart)) jNil))))))
  jNext)
  (jRet (jOp addJ (jVar 2) (jLst (jCons (jOp addJ (jC (.str "-0")) (jVar 0)) jNil))))))))
theorem qe_lwrong : qf_lwrong = q_lwrong := rfl
def w_lwrong : WJ := wOf 2 3 q_lwrong
theorem len_lwrong {K : PySem.W.Frag} : ∀ vs H Q E, spJ K w_lwrong vs H Q E → vs.length = 2 := len_J fun _ _ _ _ h => h.1
theorem fn_lwrong {P : Program} {w : World} {K : PySem.W.Frag} {mg : Str → Option Value} {base : Heap} (T : Txt w K mg) {fd : FuncData} (F : FunD K "_law_wrong" "_law_wrong" (defArgs s_lwrong) (defBody s_lwrong) (defScope s_lwrong) [] [] (He.ga K "_law_wrong") fd) : FnOk P w K mg base (L2N.CX P w) 1 (He.ga K "_law_wrong") fd ["_law_text", "_law_value_here"] (spJ K w_lwrong) := by
  refine F.ok (k := 0) sc_lwrong len_lwrong fun cdv A outer s H vs Q E hr h => ?_
  have key : ∃ t, PSs (cxOf (L2N.CX P w) P w K mg base N_lwrong "_law_wrong" (defScope s_lwrong) (He.ga K "_law_wrong") cdv A outer s H E) (defBody s_lwrong) t ∧ Ss K (WE' E) t qf_lwrong := by
    exact ex_of ((pss_cons (ps_set (i := 2) sc_lwrong.nd rfl (Or.inl rfl) (pe_lst (pa_cons (pe_op op_addU pe_str (pv 0)) (pa_cons (pe_op op_addU (pv 0) pe_str) (pa_cons (pe_op op_addU pe_str (pv 0)) (pa_cons (pe_op op_addU (pv 0) pe_str) (pa_cons (pe_op op_addU (pv 0) pe_str) (pa_cons (pe_op op_addU pe_str (pv 0)) (pa_cons (pe_op op_addU pe_str (pv 0)) (pa_cons (pe_op op_addU (pv 0) pe_str) (pa_cons (pe_op op_addU (pv 0) pe_str) pa_nil)))))))))))
  (pss_cons (ps_set (i := 2) sc_lwrong.nd rfl (Or.inl rfl) (pe_op op_addU (pv 2) (pe_lst (pa_cons (pe_op op_addU pe_str (pv 0)) (pa_cons pe_str (pa_cons pe_str (pa_cons pe_str (pa_cons pe_str (pa_cons pe_str (pa_cons pe_str (pa_cons pe_str (pa_cons pe_str (pa_cons pe_str (pa_cons pe_str (pa_cons pe_str (pa_cons pe_str (pa_cons pe_str (pa_cons pe_str pa_nil))))))))))))))))))
  (pss_cons (ps_set (i := 2) sc_lwrong.nd rfl (Or.inl rfl) (pe_op op_addU (pv 2) (pe_lst (pa_cons (pe_op op_addU (pv 0) pe_str) (pa_cons (pe_op op_addU pe_str (pv 0)) (pa_cons (pe_op op_addU (pe_op op_addU pe_str (pv 0)) pe_str) (pa_cons pe_str (pa_cons pe_str (pa_cons pe_str (pa_cons (pv 1) (pa_cons pe_bl (pa_cons pe_non (pa_cons (pe_lst (pa_cons (pv 0) pa_nil)) (pa_cons (pe_tup (pa_cons (pv 0) pa_nil)) pa_nil))))))))))))))
  (pss_cons (ps_if (pt_cmpR (op_eqU (hu65 hr)) (pe_ix (ix_U (hu_of hr)) (pv 0) pe_int (fun _ _ => rfl)) pe_str (nomark _))
  (pss_one (ps_ret (pe_op op_addU (pv 2) (pe_lst (pa_cons (pe_op op_addU pe_str (pe_slice sl_U (pv 0) (po_some pe_int) po_none)) (pa_cons (pe_op op_addU pe_str (pe_slice sl_U (pv 0) (po_some pe_int) po_none)) (pa_cons (pe_op op_addU pe_str (pe_slice sl_U (pv 0) (po_some pe_int) po_none)) pa_nil)))))))
  pss_nil)
  (pss_one (ps_ret (pe_op op_addU (pv 2) (pe_lst (pa_cons (pe_op op_addU pe_str (pv 0)) pa_nil))))))))))
      ((ss_seq (ss_asg (se_lst (sa_cons (se_op so_add (se_c fun _ => .str _) se_var) (sa_cons (se_op so_add se_var (se_c fun _ => .str _)) (sa_cons (se_op so_add (se_c fun _ => .str _) se_var) (sa_cons (se_op so_add se_var (se_c fun _ => .str _)) (sa_cons (se_op so_add se_var (se_c fun _ => .str _)) (sa_cons (se_op so_add (se_c fun _ => .str _) se_var) (sa_cons (se_op so_add (se_c fun _ => .str _) se_var) (sa_cons (se_op so_add se_var (se_c fun _ => .str _)) (sa_cons (se_op so_add se_var (se_c fun _ => .str _)) sa_nil)))))))))) sg_name)
  (ss_seq (ss_asg (se_op so_add se_var (se_lst (sa_cons (se_op so_add (se_c fun _ => .str _) se_var) (sa_cons (se_c fun _ => .str _) (sa_cons (se_c fun _ => .str _) (sa_cons (se_c fun _ => .str _) (sa_cons (se_c fun _ => .str _) (sa_cons (se_c fun _ => .str _) (sa_cons (se_c fun _ => .str _) (sa_cons (se_c fun _ => .str _) (sa_cons (se_c fun _ => .str _) (sa_cons (se_c fun _ => .str _) (sa_cons (se_c fun _ => .str _) (sa_cons (se_c fun _ => .str _) (sa_cons (se_c fun _ => .str _) (sa_cons (se_c fun _ => .str _) (sa_cons (se_c fun _ => .str _) sa_nil))))))))))))))))) sg_name)
  (ss_seq (ss_asg (se_op so_add se_var (se_lst (sa_cons (se_op so_add se_var (se_c fun _ => .str _)) (sa_cons (se_op so_add (se_c fun _ => .str _) se_var) (sa_cons (se_op so_add (se_op so_add (se_c fun _ => .str _) se_var) (se_c fun _ => .str _)) (sa_cons (se_c fun _ => .str _) (sa_cons (se_c fun _ => .str _) (sa_cons (se_c fun _ => .str _) (sa_cons se_var (sa_cons (se_c fun _ => .bl _) (sa_cons (se_c fun _ => .non) (sa_cons (se_lst (sa_cons se_var sa_nil)) (sa_cons (se_tup (sa_cons se_var sa_nil)) sa_nil))))))))))))) sg_name)
  (ss_seq (ss_if (sb_test (se_op so_eq (se_op so_ix se_var (se_c fun _ => .int _)) (se_c fun _ => .str _)))
  (ss_ret (se_op so_add se_var (se_lst (sa_cons (se_op so_add (se_c fun _ => .str _) (se_sl ssl_U se_var (so_part (se_c fun _ => .int _)) so_noPart)) (sa_cons (se_op so_add (se_c fun _ => .str _) (se_sl ssl_U se_var (so_part (se_c fun _ => .int _)) so_noPart)) (sa_cons (se_op so_add (se_c fun _ => .str _) (se_sl ssl_U se_var (so_part (se_c fun _ => .int _)) so_noPart)) sa_nil))))))
  ss_next)
  (ss_ret (se_op so_add se_var (se_lst (sa_cons (se_op so_add (se_c fun _ => .str _) se_var) sa_nil)))))))))
  obtain ⟨t, h1, h2⟩ := key
  rw [qe_lwrong] at h2
  exact ⟨t, h1, rd_J (n := 2) (N := N_lwrong) h2 h⟩
theorem ok_lwrong {P : Program} {w : World} {K : PySem.W.Frag} {mg : Str → Option Value} {base : Heap} (T : Txt w K mg) : Ok P w K mg base 1 (He.ga K "_law_wrong") ["_law_text", "_law_value_here"] [] (spJ K w_lwrong) := by
  obtain ⟨fd, F⟩ := T.f_lwrong
  exact ⟨fd, [], fn_lwrong T F, F.kp, .nil, F.bindsN fun _ _ _ _ _ _ us hl => match us, hl with | [_, _], _ => rfl⟩
def q_lis_int : SJ :=
  (jRet (jAndV (jCB isiJ (jCons (jVar 0) (jCons (jC (.ty "int")) jNil))) (jNotV (jCB isiJ (jCons (jVar 0) (jCons (jC (.ty "bool")) jNil))))))
def w_lis_int : WJ := wOf 1 1 q_lis_int
theorem len_lis_int {K : PySem.W.Frag} : ∀ vs H Q E, spJ K w_lis_int vs H Q E → vs.length = 1 := len_J fun _ _ _ _ h => h.1
theorem fn_lis_int {P : Program} {w : World} {K : PySem.W.Frag} {mg : Str → Option Value} {base : Heap} (T : Txt w K mg) {fd : FuncData} (F : FunD K "_law_is_int" "_law_is_int" (defArgs s_lis_int) (defBody s_lis_int) (defScope s_lis_int) [] [] (He.ga K "_law_is_int") fd) : FnOk P w K mg base (L2N.CX P w) 1 (He.ga K "_law_is_int") fd ["_law_thing"] (spJ K w_lis_int) := by
  refine F.ok (k := 0) sc_lis_int len_lis_int fun cdv A outer s H vs Q E hr h => ?_
  have key : ∃ t, PSs (cxOf (L2N.CX P w) P w K mg base N_lis_int "_law_is_int" (defScope s_lis_int) (He.ga K "_law_is_int") cdv A outer s H E) (defBody s_lis_int) t ∧ Ss K (WE' E) t q_lis_int := by
    exact ex_of ((pss_one (ps_ret (pe_and (pe_callB call_isi (by rfl) T.n_isinstance (by decide +kernel) (pa_cons (pv 0) (pa_cons (pe_ty T.n_int (by decide +kernel)) pa_nil))) (pe_one (pe_not (pe_callB call_isi (by rfl) T.n_isinstance (by decide +kernel) (pa_cons (pv 0) (pa_cons (pe_ty T.n_bool (by decide +kernel)) pa_nil)))))))))
      ((ss_ret (se_andV (se_cb sf_isi (sa_cons se_var (sa_cons (se_c fun _ => .ty _) sa_nil))) (se_notV (se_cb sf_isi (sa_cons se_var (sa_cons (se_c fun _ => .ty _) sa_nil)))))))
  obtain ⟨t, h1, h2⟩ := key
  exact ⟨t, h1, rd_J (n := 1) (N := N_lis_int) h2 h⟩
theorem ok_lis_int {P : Program} {w : World} {K : PySem.W.Frag} {mg : Str → Option Value} {base : Heap} (T : Txt w K mg) : Ok P w K mg base 1 (He.ga K "_law_is_int") ["_law_thing"] [] (spJ K w_lis_int) := by
  obtain ⟨fd, F⟩ := T.f_lis_int
  exact ⟨fd, [], fn_lis_int T F, F.kp, .nil, F.bindsN fun _ _ _ _ _ _ us hl => match us, hl with | [_], _ => rfl⟩
abbrev b0_lsame : SJ :=
  (jRet (jAndV (jCall w_lis_int [] (jCons (jOp ixJ (jVar 0) (jC (.int 0))) jNil)) (jAndV (jCall w_lis_int [] (jCons (jOp ixJ (jVar 0) (jC (.int 1))) jNil)) (jOp eqRJ (jVar 0) (jVar 1)))))
abbrev b1_lsame : SJ :=
  (jSeq (jIfS (jOr (jNot (jTruth (jCB isiJ (jCons (jVar 0) (jCons (jC (.ty "tuple")) jNil))))) (jTest (jOp neRJ (jCB lenJ (jCons (jVar 0) jNil)) (jC (.int 2)))))
  (jRet (jC (.bl false)))
  jNext)
  b0_lsame)
abbrev b2_lsame : SJ :=
  (jSeq (jIfS (jNot (jTruth (jCB isiJ (jCons (jVar 1) (jCons (jC (.ty "tuple")) jNil)))))
  (jRet (jAndV (jCall w_lis_int [] (jCons (jVar 0) jNil)) (jOp eqRJ (jVar 0) (jVar 1))))
  jNext)
  b1_lsame)
def q_lsame : SJ :=
  b2_lsame
def qf_lsame : SJ :=
  (jSeq (jIfS (jNot (jTruth (jCB isiJ (jCons (jVar 1) (jCons (jC (.ty "tuple")) jNil)))))
  (jRet (jAndV (jCall w_lis_int [] (jCons (jVar 0) jNil)) (jOp eqRJ (jVar 0) (jVar 1))))
  jNext)
  (jSeq (jIfS (jOr (jNot (jTruth (jCB isiJ (jCons (jVar 0) (jCons (jC (.ty "tuple")) jNil))))) (jTest (jOp neRJ (jCB lenJ (jCons (jVar 0) jNil)) (jC (.int 2)))))
  (jRet (jC (.bl false)))
  jNext)
  (jRet (jAndV (jCall w_lis_int [] (jCons (jOp ixJ (jVar 0) (jC (.int 0))) jNil)) (jAndV (jCall w_lis_int [] (jCons (jOp ixJ (jVar 0) (jC (.int 1))) jNil)) (jOp eqRJ (jVar 0) (jVar 1)))))))
theorem qe_lsame : qf_lsame = q_lsame := rfl
def w_lsame : WJ := wOf 2 2 q_lsame
theorem len_lsame {K : PySem.W.Frag} : ∀ vs H Q E, spJ K w_lsame vs H Q E → vs.length = 2 := len_J fun _ _ _ _ h => h.1
theorem fn_lsame {P : Program} {w : World} {K : PySem.W.Frag} {mg : Str → Option Value} {base : Heap} (T : Txt w K mg) {fd : FuncData} (F : FunD K "_law_same" "_law_same" (defArgs s_lsame) (defBody s_lsame) (defScope s_lsame) [] [] (He.ga K "_law_same") fd) : FnOk P w K mg base (L2N.CX P w) 2 (He.ga K "_law_same") fd ["_law_actual", "_law_due"] (spJ K w_lsame) := by
  refine F.ok (k := 1) sc_lsame len_lsame fun cdv A outer s H vs Q E hr h => ?_
  have key : ∃ t, PSs (cxOf (L2N.CX P w) P w K mg base N_lsame "_law_same" (defScope s_lsame) (He.ga K "_law_same") cdv A outer s H E) (defBody s_lsame) t ∧ Ss K (WE' E) t qf_lsame := by
    exact ex_of ((pss_cons (ps_if (pt_not (pt_tru (pe_callB call_isi (by rfl) T.n_isinstance (by decide +kernel) (pa_cons (pv 1) (pa_cons (pe_ty T.n_tuple (by decide +kernel)) pa_nil)))))
  (pss_one (ps_ret (pe_and (pe_cU (ok_lis_int T) hr (by decide) T.g__law_is_int (L2N.takes_of rfl rfl rfl rfl) (pa_cons (pv 0) pa_nil)) (pe_one (pe_cmpR (op_eqU (hu65 hr)) (pv 0) (pv 1) (nomark _))))))
  pss_nil)
  (pss_cons (ps_if (PW.pt (pw_or (pt_not (pt_tru (pe_callB call_isi (by rfl) T.n_isinstance (by decide +kernel) (pa_cons (pv 0) (pa_cons (pe_ty T.n_tuple (by decide +kernel)) pa_nil))))) (pw_or1 (pt_cmpR (op_neU (hu65 hr)) (pe_callB call_lenU (by rfl) T.n_len (by decide +kernel) (pa_cons (pv 0) pa_nil)) pe_int (nomark _)))))
  (pss_one (ps_ret pe_bl))
  pss_nil)
  (pss_one (ps_ret (pe_and (pe_cU (ok_lis_int T) hr (by decide) T.g__law_is_int (L2N.takes_of rfl rfl rfl rfl) (pa_cons (pe_ix (ix_U (hu_of hr)) (pv 0) pe_int (fun _ _ => rfl)) pa_nil)) (pe_and (pe_cU (ok_lis_int T) hr (by decide) T.g__law_is_int (L2N.takes_of rfl rfl rfl rfl) (pa_cons (pe_ix (ix_U (hu_of hr)) (pv 0) pe_int (fun _ _ => rfl)) pa_nil)) (pe_one (pe_cmpR (op_eqU (hu65 hr)) (pv 0) (pv 1) (nomark _))))))))))
      ((ss_seq (ss_if (sb_not (sb_truth (se_cb sf_isi (sa_cons se_var (sa_cons (se_c fun _ => .ty _) sa_nil)))))
  (ss_ret (se_andV (se_callU (fun _ => .nil) (sa_cons se_var sa_nil)) (se_op so_eq se_var se_var)))
  ss_next)
  (ss_seq (ss_if (sb_or (sb_not (sb_truth (se_cb sf_isi (sa_cons se_var (sa_cons (se_c fun _ => .ty _) sa_nil))))) (sb_test (se_op so_ne (se_cb sf_len (sa_cons se_var sa_nil)) (se_c fun _ => .int _))))
  (ss_ret (se_c fun _ => .bl _))
  ss_next)
  (ss_ret (se_andV (se_callU (fun _ => .nil) (sa_cons (se_op so_ix se_var (se_c fun _ => .int _)) sa_nil)) (se_andV (se_callU (fun _ => .nil) (sa_cons (se_op so_ix se_var (se_c fun _ => .int _)) sa_nil)) (se_op so_eq se_var se_var)))))))
  obtain ⟨t, h1, h2⟩ := key
  rw [qe_lsame] at h2
  exact ⟨t, h1, rd_J (n := 2) (N := N_lsame) h2 h⟩
theorem ok_lsame {P : Program} {w : World} {K : PySem.W.Frag} {mg : Str → Option Value} {base : Heap} (T : Txt w K mg) : Ok P w K mg base 2 (He.ga K "_law_same") ["_law_actual", "_law_due"] [] (spJ K w_lsame) := by
  obtain ⟨fd, F⟩ := T.f_lsame
  exact ⟨fd, [], fn_lsame T F, F.kp, .nil, F.bindsN fun _ _ _ _ _ _ us hl => match us, hl with | [_, _], _ => rfl⟩
abbrev b0_common_divisor : SJ :=
  (jSeq (jPar 2 3 (jCons (jCB jAbs (jCons (jVar 0) jNil)) (jCons (jVar 1) jNil)))
  (jSeq (jWhile (jTest (jOp gtJ (jVar 2) (jC (.int 0))))
  (jPar 2 3 (jCons (jOp modJ (jVar 3) (jVar 2)) (jCons (jVar 2) jNil))))
  (jRet (jVar 3))))
def q_common_divisor : SJ :=
  b0_common_divisor
def qf_common_divisor : SJ :=
  (jSeq (jPar 2 3 (jCons (jCB jAbs (jCons (jVar 0) jNil)) (jCons (jVar 1) jNil)))
  (jSeq (jWhile (jTest (jOp gtJ (jVar 2) (jC (.int 0))))
  (jPar 2 3 (jCons (jOp modJ (jVar 3) (jVar 2)) (jCons (jVar 2) jNil))))
  (jRet (jVar 3))))
theorem qe_common_divisor : qf_common_divisor = q_common_divisor := rfl
def w_common_divisor : WJ := wOf 2 4 q_common_divisor
theorem len_common_divisor {K : PySem.W.Frag} : ∀ vs H Q E, spJ K w_common_divisor vs H Q E → vs.length = 2 := len_J fun _ _ _ _ h => h.1
theorem fn_common_divisor {P : Program} {w : World} {K : PySem.W.Frag} {mg : Str → Option Value} {base : Heap} (T : Txt w K mg) {fd : FuncData} (F : FunD K "common_divisor" "common_divisor" (defArgs s_common_divisor) (defBody s_common_divisor) (defScope s_common_divisor) [] [] (He.ga K "common_divisor") fd) : FnOk P w K mg base (L2N.CX P w) 1 (He.ga K "common_divisor") fd ["one", "other"] (spJ K w_common_divisor) := by
  refine F.ok (k := 0) sc_common_divisor len_common_divisor fun cdv A outer s H vs Q E hr h => ?_
  have key : ∃ t, PSs (cxOf (L2N.CX P w) P w K mg base N_common_divisor "common_divisor" (defScope s_common_divisor) (He.ga K "common_divisor") cdv A outer s H E) (defBody s_common_divisor) t ∧ Ss K (WE' E) t qf_common_divisor := by
    exact ex_of ((pss_cons (ps_par (i := 2) (j := 3) rfl sc_common_divisor.nd rfl rfl (by decide) rfl rfl (pa_cons (pe_callB call_abs (by rfl) T.n_abs (by decide +kernel) (pa_cons (pv 0) pa_nil)) (pa_cons (pv 1) pa_nil)) (by rfl))
  (pss_cons (ps_while (passes_of rfl) (pt_cmpR op_gt (pv 2) pe_int (nomark _))
  (pss_one (ps_par (i := 2) (j := 3) rfl sc_common_divisor.nd rfl rfl (by decide) rfl rfl (pa_cons (pe_op op_mod (pv 3) (pv 2)) (pa_cons (pv 2) pa_nil)) (by rfl))))
  (pss_one (ps_ret (pv 3))))))
      ((ss_seq (ss_par (sa_cons (se_cb sf_abs (sa_cons se_var sa_nil)) (sa_cons se_var sa_nil)))
  (ss_seq (ss_while (sb_test (se_op so_cmp se_var (se_c fun _ => .int _)))
  (ss_par (sa_cons (se_op so_mod se_var se_var) (sa_cons se_var sa_nil))))
  (ss_ret se_var))))
  obtain ⟨t, h1, h2⟩ := key
  rw [qe_common_divisor] at h2
  exact ⟨t, h1, rd_J (n := 2) (N := N_common_divisor) h2 h⟩
theorem ok_common_divisor {P : Program} {w : World} {K : PySem.W.Frag} {mg : Str → Option Value} {base : Heap} (T : Txt w K mg) : Ok P w K mg base 1 (He.ga K "common_divisor") ["one", "other"] [] (spJ K w_common_divisor) := by
  obtain ⟨fd, F⟩ := T.f_common_divisor
  exact ⟨fd, [], fn_common_divisor T F, F.kp, .nil, F.bindsN fun _ _ _ _ _ _ us hl => match us, hl with | [_, _], _ => rfl⟩
theorem len_BadNumber__init {K : PySem.W.Frag} : ∀ vs H Q E, spErr K (He.ga K "BadNumber") "thing" vs H Q E → vs.length = 2 := by
  rintro vs H Q E ⟨a, y, rfl, _⟩
  rfl
theorem ok_BadNumber__init {P : Program} {w : World} {K : PySem.W.Frag} {mg : Str → Option Value} {base : Heap} (T : Txt w K mg) : Ok P w K mg base 1 (He.ma K (He.ga K "BadNumber") "__init__") ["self", "thing"] [] (spErr K (He.ga K "BadNumber") "thing") :=
  okF T.f_BadNumber__init sc_BadNumber__init len_BadNumber__init (fun _ _ _ _ _ _ us hl => match us, hl with | [_, _], _ => rfl) (t := fun E => tOst K "thing" (tVar 0) (tVar 1)) (fun f cdv A outer s H E hr => (pss_one (ps_ost (pv 0) (pv 1)))) (by
    rintro vs H Q E ⟨a, y, rfl, ha, T, nf, q⟩
    exact ⟨_, rfl, _, rfl, a, _, rfl, T, nf, .inl ⟨ha, fun dx h1 h2 => q dx h1 h2⟩⟩)
abbrev b0_number : SJ :=
  (jSeq (jIfS (jTest (jOp eqRJ (jVar 1) (jVar 2)))
  (jRet (jOp divJ (jVar 0) (jVar 2)))
  jNext)
  (jRet (jTup (jCons (jOp divJ (jVar 0) (jVar 2)) (jCons (jOp divJ (jVar 1) (jVar 2)) jNil)))))
abbrev b1_number : SJ :=
  (jSeq (jIfS (jTest (jOp ltJ (jVar 1) (jC (.int 0))))
  (jPar 0 1 (jCons (jUn negJ (jVar 0)) (jCons (jUn negJ (jVar 1)) jNil)))
  jNext)
  (jSeq (jAsg (jCall w_common_divisor [] (jCons (jVar 0) (jCons (jVar 1) jNil))) (jgName 2))
  b0_number))
def q_number : SJ :=
  (jSeq (jIfS (jTest (jOp eqRJ (jVar 1) (jC (.int 0))))
  (jRaise1 "BadNumber" "thing" (jCons (jVar 1) jNil))
  jNext)
  b1_number)
def qf_number : SJ :=
  (jSeq (jIfS (jTest (jOp eqRJ (jVar 1) (jC (.int 0))))
  (jRaise1 "BadNumber" "thing" (jCons (jVar 1) jNil))
  jNext)
  (jSeq (jIfS (jTest (jOp ltJ (jVar 1) (jC (.int 0))))
  (jPar 0 1 (jCons (jUn negJ (jVar 0)) (jCons (jUn negJ (jVar 1)) jNil)))
  jNext)
  (jSeq (jAsg (jCall w_common_divisor [] (jCons (jVar 0) (jCons (jVar 1) jNil))) (jgName 2))
  (jSeq (jIfS (jTest (jOp eqRJ (jVar 1) (jVar 2)))
  (jRet (jOp divJ (jVar 0) (jVar 2)))
  jNext)
  (jRet (jTup (jCons (jOp divJ (jVar 0) (jVar 2)) (jCons (jOp divJ (jVar 1) (jVar 2)) jNil))))))))
theorem qe_number : qf_number = q_number := rfl
def w_number : WJ := wOf 2 3 q_number
theorem len_number {K : PySem.W.Frag} : ∀ vs H Q E, spJ K w_number vs H Q E → vs.length = 2 := len_J fun _ _ _ _ h => h.1
theorem fn_number {P : Program} {w : World} {K : PySem.W.Frag} {mg : Str → Option Value} {base : Heap} (T : Txt w K mg) {fd : FuncData} (F : FunD K "number" "number" (defArgs s_number) (defBody s_number) (defScope s_number) [V.int 1] [] (He.ga K "number") fd) : FnOk P w K mg base (L2N.CX P w) 3 (He.ga K "number") fd ["top", "bottom"] (spJ K w_number) := by
  refine F.ok (k := 2) sc_number len_number fun cdv A outer s H vs Q E hr h => ?_
  have key : ∃ t, PSs (cxOf (L2N.CX P w) P w K mg base N_number "number" (defScope s_number) (He.ga K "number") cdv A outer s H E) (defBody s_number) t ∧ Ss K (WE' E) t qf_number := by
    exact ex_of ((pss_cons (ps_if (pt_cmpR (op_eqU (hu65 hr)) (pv 1) pe_int (nomark _))
  (pss_one (L2N.ps_raise (W := (fun cl d _ H => E cl d H)) rfl (L2N.takes_of rfl rfl rfl rfl) (pmk_err T.e_BadNumber (ok_BadNumber__init T) hr (by decide) T.g_BadNumber (pa_cons (pv 1) pa_nil))))
  pss_nil)
  (pss_cons (ps_if (pt_cmpR op_lt (pv 1) pe_int (nomark _))
  (pss_one (ps_par (i := 0) (j := 1) rfl sc_number.nd rfl rfl (by decide) rfl rfl (pa_cons (pe_un un_neg (pv 0)) (pa_cons (pe_un un_neg (pv 1)) pa_nil)) (by rfl)))
  pss_nil)
  (pss_cons (ps_set (i := 2) sc_number.nd rfl (Or.inl rfl) (pe_cU (ok_common_divisor T) hr (by decide) T.g_common_divisor (L2N.takes_of rfl rfl rfl rfl) (pa_cons (pv 0) (pa_cons (pv 1) pa_nil))))
  (pss_cons (ps_if (pt_cmpR (op_eqU (hu65 hr)) (pv 1) (pv 2) (nomark _))
  (pss_one (ps_ret (pe_op op_fdivW (pv 0) (pv 2))))
  pss_nil)
  (pss_one (ps_ret (pe_tup (pa_cons (pe_op op_fdivW (pv 0) (pv 2)) (pa_cons (pe_op op_fdivW (pv 1) (pv 2)) pa_nil))))))))))
      ((ss_seq (ss_if (sb_test (se_op so_eq se_var (se_c fun _ => .int _)))
  (ss_raise1 T.e_BadNumber (sa_cons se_var sa_nil))
  ss_next)
  (ss_seq (ss_if (sb_test (se_op so_cmp se_var (se_c fun _ => .int _)))
  (ss_par (sa_cons (se_un so1_neg se_var) (sa_cons (se_un so1_neg se_var) sa_nil)))
  ss_next)
  (ss_seq (ss_asg (se_callU (fun _ => .nil) (sa_cons se_var (sa_cons se_var sa_nil))) sg_name)
  (ss_seq (ss_if (sb_test (se_op so_eq se_var se_var))
  (ss_ret (se_op so_div se_var se_var))
  ss_next)
  (ss_ret (se_tup (sa_cons (se_op so_div se_var se_var) (sa_cons (se_op so_div se_var se_var) sa_nil)))))))))
  obtain ⟨t, h1, h2⟩ := key
  rw [qe_number] at h2
  exact ⟨t, h1, rd_J (n := 2) (N := N_number) h2 h⟩
theorem ok_number {P : Program} {w : World} {K : PySem.W.Frag} {mg : Str → Option Value} {base : Heap} (T : Txt w K mg) : Ok P w K mg base 3 (He.ga K "number") ["top", "bottom"] [] (spJ K w_number) := by
  obtain ⟨fd, F⟩ := T.f_number
  obtain ⟨ds, v, bb⟩ := F.binds1 (ps := ["top", "bottom"]) 2 1 (by simp) rfl (fun _ _ _ _ _ _ _ us its hl hi => match us, its, hl, hi with | [_, _], [_], _, _ => ⟨_, rfl, by kernel_rfl⟩)
  exact ⟨fd, ds, fn_number T F, F.kp, v, bb⟩
abbrev b0_read_number : SJ :=
  (jIfS (jOr (jTest (jOp eqRJ (jVar 4) (jC (.str "")))) (jNot (jTruth (jCB jAll (jCons (jLc (jIU (jVar 4)) (jgName 8) jYes (jOp inRJ (jVar 8) (jC (.str "0123456789"))) [7, 8]) jNil)))))
  (jRaise1 "BadNumber" "thing" (jCons (jVar 0) jNil))
  jNext)
abbrev b1_read_number : SJ :=
  (jSeq (jIfS (jTest (jOp neRJ (jCall w_written [] (jCons (jVar 6) jNil)) (jVar 0)))
  (jRaise1 "BadNumber" "thing" (jCons (jVar 0) jNil))
  jNext)
  (jRet (jVar 6)))
abbrev b2_read_number : SJ :=
  (jSeq (jAsg (jCall w_number [] (jCons (jOp mulJ (jVar 1) (jCB jIntS (jCons (jOp ixJ (jVar 3) (jC (.int 0))) jNil))) (jCons (jVar 5) jNil))) (jgName 6))
  b1_read_number)
abbrev b3_read_number : SJ :=
  (jSeq (jIfS (jOr (jTest (jOp gtJ (jCB lenJ (jCons (jVar 3) jNil)) (jC (.int 2)))) (jTest (jOp eqRJ (jVar 5) (jC (.int 0)))))
  (jRaise1 "BadNumber" "thing" (jCons (jVar 0) jNil))
  jNext)
  b2_read_number)
abbrev b4_read_number : SJ :=
  (jSeq (jAsg (jIf (jTest (jOp eqRJ (jCB lenJ (jCons (jVar 3) jNil)) (jC (.int 2)))) (jCB jIntS (jCons (jOp ixJ (jVar 3) (jUn negJ (jC (.int 1)))) jNil)) (jC (.int 1))) (jgName 5))
  b3_read_number)
abbrev b5_read_number : SJ :=
  (jSeq (jAsg (jIf (jTruth (jBM "str" startswithJ (jVar 0) (jCons (jC (.str "-")) jNil))) (jTup (jCons (jUn negJ (jC (.int 1))) (jCons (jSl slJ (jVar 0) (jPart (jC (.int 1))) jNoPart) jNil))) (jTup (jCons (jC (.int 1)) (jCons (jVar 0) jNil)))) (jgTup 2 (jgCons (jgName 1) (jgCons (jgName 2) jgNil))))
  (jSeq (jAsg (jBM "str" splitJ (jVar 2) (jCons (jC (.str "/")) jNil)) (jgName 3))
  (jSeq (jFor (jIU (jVar 3)) (jgName 4)
  b0_read_number)
  b4_read_number)))
abbrev b6_read_number : SJ :=
  (jSeq (jIfS (jNot (jTruth (jCB isiJ (jCons (jVar 0) (jCons (jC (.ty "str")) jNil)))))
  (jRaise1 "BadNumber" "thing" (jCons (jVar 0) jNil))
  jNext)
  b5_read_number)
def q_read_number : SJ :=
  b6_read_number
def qf_read_number : SJ :=
  (jSeq (jIfS (jNot (jTruth (jCB isiJ (jCons (jVar 0) (jCons (jC (.ty "str")) jNil)))))
  (jRaise1 "BadNumber" "thing" (jCons (jVar 0) jNil))
  jNext)
  (jSeq (jAsg (jIf (jTruth (jBM "str" startswithJ (jVar 0) (jCons (jC (.str "-")) jNil))) (jTup (jCons (jUn negJ (jC (.int 1))) (jCons (jSl slJ (jVar 0) (jPart (jC (.int 1))) jNoPart) jNil))) (jTup (jCons (jC (.int 1)) (jCons (jVar 0) jNil)))) (jgTup 2 (jgCons (jgName 1) (jgCons (jgName 2) jgNil))))
  (jSeq (jAsg (jBM "str" splitJ (jVar 2) (jCons (jC (.str "/")) jNil)) (jgName 3))
  (jSeq (jFor (jIU (jVar 3)) (jgName 4)
  (jIfS (jOr (jTest (jOp eqRJ (jVar 4) (jC (.str "")))) (jNot (jTruth (jCB jAll (jCons (jLc (jIU (jVar 4)) (jgName 8) jYes (jOp inRJ (jVar 8) (jC (.str "0123456789"))) [7, 8]) jNil)))))
  (jRaise1 "BadNumber" "thing" (jCons (jVar 0) jNil))
  jNext))
  (jSeq (jAsg (jIf (jTest (jOp eqRJ (jCB lenJ (jCons (jVar 3) jNil)) (jC (.int 2)))) (jCB jIntS (jCons (jOp ixJ (jVar 3) (jUn negJ (jC (.int 1)))) jNil)) (jC (.int 1))) (jgName 5))
  (jSeq (jIfS (jOr (jTest (jOp gtJ (jCB lenJ (jCons (jVar 3) jNil)) (jC (.int 2)))) (jTest (jOp eqRJ (jVar 5) (jC (.int 0)))))
  (jRaise1 "BadNumber" "thing" (jCons (jVar 0) jNil))
  jNext)
  (jSeq (jAsg (jCall w_number [] (jCons (jOp mulJ (jVar 1) (jCB jIntS (jCons (jOp ixJ (jVar 3) (jC (.int 0))) jNil))) (jCons (jVar 5) jNil))) (jgName 6))
  (jSeq (jIfS (jTest (jOp neRJ (jCall w_written [] (jCons (jVar 6) jNil)) (jVar 0)))
  (jRaise1 "BadNumber" "thing" (jCons (jVar 0) jNil))
  jNext)
  (jRet (jVar 6))))))))))
theorem qe_read_number : qf_read_number = q_read_number := rfl
def w_read_number : WJ := wOf 1 9 q_read_number
theorem len_read_number {K : PySem.W.Frag} : ∀ vs H Q E, spJ K w_read_number vs H Q E → vs.length = 1 := len_J fun _ _ _ _ h => h.1
theorem fn_read_number {P : Program} {w : World} {K : PySem.W.Frag} {mg : Str → Option Value} {base : Heap} (T : Txt w K mg) {fd : FuncData} (F : FunD K "read_number" "read_number" (defArgs s_read_number) (defBody s_read_number) (defScope s_read_number) [] [] (He.ga K "read_number") fd) : FnOk P w K mg base (L2N.CX P w) 4 (He.ga K "read_number") fd ["text"] (spJ K w_read_number) := by
  refine F.ok (k := 3) sc_read_number len_read_number fun cdv A outer s H vs Q E hr h => ?_
  have key : ∃ t, PSs (cxOf (L2N.CX P w) P w K mg base N_read_number "read_number" (defScope s_read_number) (He.ga K "read_number") cdv A outer s H E) (defBody s_read_number) t ∧ Ss K (WE' E) t qf_read_number := by
    exact ex_of ((pss_cons (ps_if (pt_not (pt_tru (pe_callB call_isi (by rfl) T.n_isinstance (by decide +kernel) (pa_cons (pv 0) (pa_cons (pe_ty T.n_str (by decide +kernel)) pa_nil)))))
  (pss_one (L2N.ps_raise (W := (fun cl d _ H => E cl d H)) rfl (L2N.takes_of rfl rfl rfl rfl) (pmk_err T.e_BadNumber (ok_BadNumber__init T) hr (by decide) T.g_BadNumber (pa_cons (pv 0) pa_nil))))
  pss_nil)
  (pss_cons (ps_asg (pe_ifExp (pt_tru (pe_bm PySem.F.plainAttrs_str PySem.F.slot_str_startswith PySem.F.type_str_startswith mt_startswith (pv 0) (pa_cons pe_str pa_nil))) (pe_tup (pa_cons (pe_un un_neg pe_int) (pa_cons (pe_slice sl_U (pv 0) (po_some pe_int) po_none) pa_nil))) (pe_tup (pa_cons pe_int (pa_cons (pv 0) pa_nil)))) (pg_tup rfl (pgs_cons (pg_name (i := 1) sc_read_number.nd rfl (Or.inl rfl)) (pgs_cons (pg_name (i := 2) sc_read_number.nd rfl (Or.inl rfl)) pgs_nil))))
  (pss_cons (ps_set (i := 3) sc_read_number.nd rfl (Or.inl rfl) (pe_bm PySem.F.plainAttrs_str PySem.F.slot_str_split PySem.F.type_str_split mt_splitU (pv 2) (pa_cons pe_str pa_nil)))
  (pss_cons (ps_for (passes_of rfl) rfl (pi_U (pv 3)) (pg_name (i := 4) sc_read_number.nd rfl (Or.inl rfl))
  (pss_one (ps_if (PW.pt (pw_or (pt_cmpR (op_eqU (hu65 hr)) (pv 4) pe_str (nomark _)) (pw_or1 (pt_not (pt_tru (pe_callB (cr_all rfl) (by rfl) T.n_all (by decide +kernel) (pa_cons (pe_lc (own := [(".0", 7), ("sign_of_part", 8)]) rfl sc_read_number.nd (pi_U (pv 4)) (blkOk_by (own := [(".0", 7), ("sign_of_part", 8)]) (N := N_read_number) (sc := defScope s_read_number) (by decide +kernel)) (fun _ _ _ _ _ => (pg_name (i := 8) sc_read_number.nd rfl (Or.inl rfl))) (fun _ _ _ _ _ => pts_nil) (fun _ _ _ _ _ => (pe_cmpR (op_inU (hu65 hr)) (pv 8) (pe_gstr T.s_DIGITS) rfl))) pa_nil)))))))
  (pss_one (L2N.ps_raise (W := (fun cl d _ H => E cl d H)) rfl (L2N.takes_of rfl rfl rfl rfl) (pmk_err T.e_BadNumber (ok_BadNumber__init T) hr (by decide) T.g_BadNumber (pa_cons (pv 0) pa_nil))))
  pss_nil)))
  (pss_cons (ps_set (i := 5) sc_read_number.nd rfl (Or.inl rfl) (pe_ifExp (pt_cmpR (op_eqU (hu65 hr)) (pe_callB call_lenU (by rfl) T.n_len (by decide +kernel) (pa_cons (pv 3) pa_nil)) pe_int (nomark _)) (pe_callTy call_intS (by rfl) T.n_int (by decide +kernel) (pa_cons (pe_ix (ix_U (hu_of hr)) (pv 3) (pe_un un_neg pe_int) (fun _ _ => rfl)) pa_nil)) pe_int))
  (pss_cons (ps_if (PW.pt (pw_or (pt_cmpR op_gt (pe_callB call_lenU (by rfl) T.n_len (by decide +kernel) (pa_cons (pv 3) pa_nil)) pe_int (nomark _)) (pw_or1 (pt_cmpR (op_eqU (hu65 hr)) (pv 5) pe_int (nomark _)))))
  (pss_one (L2N.ps_raise (W := (fun cl d _ H => E cl d H)) rfl (L2N.takes_of rfl rfl rfl rfl) (pmk_err T.e_BadNumber (ok_BadNumber__init T) hr (by decide) T.g_BadNumber (pa_cons (pv 0) pa_nil))))
  pss_nil)
  (pss_cons (ps_set (i := 6) sc_read_number.nd rfl (Or.inl rfl) (pe_cU (ok_number T) hr (by decide) T.g_number (L2N.takes_of rfl rfl rfl rfl) (pa_cons (pe_op op_mulU (pv 1) (pe_callTy call_intS (by rfl) T.n_int (by decide +kernel) (pa_cons (pe_ix (ix_U (hu_of hr)) (pv 3) pe_int (fun _ _ => rfl)) pa_nil))) (pa_cons (pv 5) pa_nil))))
  (pss_cons (ps_if (pt_cmpR (op_neU (hu65 hr)) (pe_cU (ok_written T) hr (by decide) T.g_written (L2N.takes_of rfl rfl rfl rfl) (pa_cons (pv 6) pa_nil)) (pv 0) (nomark _))
  (pss_one (L2N.ps_raise (W := (fun cl d _ H => E cl d H)) rfl (L2N.takes_of rfl rfl rfl rfl) (pmk_err T.e_BadNumber (ok_BadNumber__init T) hr (by decide) T.g_BadNumber (pa_cons (pv 0) pa_nil))))
  pss_nil)
  (pss_one (ps_ret (pv 6))))))))))))
      ((ss_seq (ss_if (sb_not (sb_truth (se_cb sf_isi (sa_cons se_var (sa_cons (se_c fun _ => .ty _) sa_nil)))))
  (ss_raise1 T.e_BadNumber (sa_cons se_var sa_nil))
  ss_next)
  (ss_seq (ss_asg (se_if (sb_truth (se_bm sm_startswith se_var (sa_cons (se_c fun _ => .str _) sa_nil))) (se_tup (sa_cons (se_un so1_neg (se_c fun _ => .int _)) (sa_cons (se_sl ssl_U se_var (so_part (se_c fun _ => .int _)) so_noPart) sa_nil))) (se_tup (sa_cons (se_c fun _ => .int _) (sa_cons se_var sa_nil)))) (sg_tup (sgs_cons sg_name (sgs_cons sg_name sgs_nil))))
  (ss_seq (ss_asg (se_bm sm_split se_var (sa_cons (se_c fun _ => .str _) sa_nil)) sg_name)
  (ss_seq (ss_for (si_U se_var) sg_name
  (ss_if (sb_or (sb_test (se_op so_eq se_var (se_c fun _ => .str _))) (sb_not (sb_truth (se_cb sf_all (sa_cons (se_lc (vs := [7, 8]) (si_U se_var) (sgw_name (by decide)) sb_yes (se_op so_in se_var (se_c fun _ => .str _))) sa_nil)))))
  (ss_raise1 T.e_BadNumber (sa_cons se_var sa_nil))
  ss_next))
  (ss_seq (ss_asg (se_if (sb_test (se_op so_eq (se_cb sf_len (sa_cons se_var sa_nil)) (se_c fun _ => .int _))) (se_cb sf_intS (sa_cons (se_op so_ix se_var (se_un so1_neg (se_c fun _ => .int _))) sa_nil)) (se_c fun _ => .int _)) sg_name)
  (ss_seq (ss_if (sb_or (sb_test (se_op so_cmp (se_cb sf_len (sa_cons se_var sa_nil)) (se_c fun _ => .int _))) (sb_test (se_op so_eq se_var (se_c fun _ => .int _))))
  (ss_raise1 T.e_BadNumber (sa_cons se_var sa_nil))
  ss_next)
  (ss_seq (ss_asg (se_callU (fun _ => .nil) (sa_cons (se_op so_mul se_var (se_cb sf_intS (sa_cons (se_op so_ix se_var (se_c fun _ => .int _)) sa_nil))) (sa_cons se_var sa_nil))) sg_name)
  (ss_seq (ss_if (sb_test (se_op so_ne (se_callU (fun _ => .nil) (sa_cons se_var sa_nil)) se_var))
  (ss_raise1 T.e_BadNumber (sa_cons se_var sa_nil))
  ss_next)
  (ss_ret se_var))))))))))
  obtain ⟨t, h1, h2⟩ := key
  rw [qe_read_number] at h2
  exact ⟨t, h1, rd_J (n := 1) (N := N_read_number) h2 h⟩
theorem ok_read_number {P : Program} {w : World} {K : PySem.W.Frag} {mg : Str → Option Value} {base : Heap} (T : Txt w K mg) : Ok P w K mg base 4 (He.ga K "read_number") ["text"] [] (spJ K w_read_number) := by
  obtain ⟨fd, F⟩ := T.f_read_number
  exact ⟨fd, [], fn_read_number T F, F.kp, .nil, F.bindsN fun _ _ _ _ _ _ us hl => match us, hl with | [_], _ => rfl⟩
abbrev b0_lis_refused : SJ :=
  (jSeq (jTry tab_BadNumber 1 (jDrop (jCall w_read_number [] (jCons (jVar 0) jNil))) (fun c a dd => (jRet (jOp eqRJ (jCB reprJ (jCons (jXf a dd c "BadNumber" "thing" (jVar 1)) jNil)) (jCB reprJ (jCons (jVar 0) jNil))))))
  (jRet (jC (.bl false))))
def q_lis_refused : SJ :=
  b0_lis_refused
def qf_lis_refused : SJ :=
  (jSeq (jTry tab_BadNumber 1 (jDrop (jCall w_read_number [] (jCons (jVar 0) jNil))) (fun c a dd => (jRet (jOp eqRJ (jCB reprJ (jCons (jXf a dd c "BadNumber" "thing" (jVar 1)) jNil)) (jCB reprJ (jCons (jVar 0) jNil))))))
  (jRet (jC (.bl false))))
theorem qe_lis_refused : qf_lis_refused = q_lis_refused := rfl
def w_lis_refused : WJ := wOf 1 2 q_lis_refused
theorem len_lis_refused {K : PySem.W.Frag} : ∀ vs H Q E, spJ K w_lis_refused vs H Q E → vs.length = 1 := len_J fun _ _ _ _ h => h.1
theorem fn_lis_refused {P : Program} {w : World} {K : PySem.W.Frag} {mg : Str → Option Value} {base : Heap} (T : Txt w K mg) {fd : FuncData} (F : FunD K "_law_is_refused" "_law_is_refused" (defArgs s_lis_refused) (defBody s_lis_refused) (defScope s_lis_refused) [] [] (He.ga K "_law_is_refused") fd) : FnG P w K mg base (L2N.CX P w) 5 (He.ga K "_law_is_refused") fd ["_law_thing"] (spJ K w_lis_refused) := by
  refine fnG_of F (k := 4) sc_lis_refused len_lis_refused fun cdv A outer s H vs Q E gd hr h => ?_
  have key : ∃ t, PSs (cxOf (L2N.CX P w) P w K mg base N_lis_refused "_law_is_refused" (defScope s_lis_refused) (He.ga K "_law_is_refused") cdv A outer s H E) (defBody s_lis_refused) t ∧ Ss K (WE' E) t qf_lis_refused := by
    exact ex_of ((pss_cons (L2N.ps_try_as (i := 1) (c := .ref (He.ga K "BadNumber")) (Wout := (fun cl d _ H => E cl d H)) rfl rfl sc_lis_refused.nd rfl rfl ⟨rfl, by decide, Or.inl T.g_BadNumber⟩ (L2N.takes_of rfl rfl rfl rfl) (fun W pn xe tk ps => (pss_one (ps_expr (pe_cU (ok_read_number T) hr (by decide) T.g_read_number tk (pa_cons (pv 0) pa_nil))))) (fun a oe cls d pn hz hf => (pss_one (ps_ret (pe_cmpR (op_eqU (hu65S hr)) (pe_callB (call_reprU gd (hu65S hr)) (by rfl) T.n_repr (by decide +kernel) (pa_cons (pe_xf T.e_BadNumber.xf T.e_BadNumber.nf (L2N.Zn.zc hz) hf (pv 1)) pa_nil)) (pe_callB (call_reprU gd (hu65S hr)) (by rfl) T.n_repr (by decide +kernel) (pa_cons (pv 0) pa_nil)) (nomark _))))))
  (pss_one (ps_ret pe_bl))))
      ((ss_seq (ss_try T.h_BadNumber (fun W => (ss_drop (se_callU (fun _ => .nil) (sa_cons se_var sa_nil)))) (fun c a dd => (ss_ret (se_op so_eq (se_cb sf_repr (sa_cons (se_xf se_var) sa_nil)) (se_cb sf_repr (sa_cons se_var sa_nil))))))
  (ss_ret (se_c fun _ => .bl _))))
  obtain ⟨t, h1, h2⟩ := key
  rw [qe_lis_refused] at h2
  exact ⟨t, h1, rd_J (n := 1) (N := N_lis_refused) h2 h⟩
theorem ok_lis_refused {P : Program} {w : World} {K : PySem.W.Frag} {mg : Str → Option Value} {base : Heap} (T : Txt w K mg) : OkG P w K mg base 5 (He.ga K "_law_is_refused") ["_law_thing"] [] (spJ K w_lis_refused) := by
  obtain ⟨fd, F⟩ := T.f_lis_refused
  exact ⟨fd, [], fn_lis_refused T F, F.kp, .nil, F.bindsN fun _ _ _ _ _ _ us hl => match us, hl with | [_], _ => rfl⟩
abbrev b0_law : SJ :=
  (jSeq (jAsg (jCB jIntS (jCons (jOp addJ (jC (.str "1")) (jOp mulSJ (jC (.str "0")) (jC (.int 250)))) jNil)) (jgName 4))
  (jAsg (jOp subJ (jCall w_ltake [] (jCons (jVar 2) (jCons (jOp addJ (jOp mulJ (jC (.int 2)) (jVar 4)) (jC (.int 1))) jNil))) (jVar 4)) (jgName 3)))
abbrev b1_law : SJ :=
  (jIfS (jNot (jTruth (jCall w_lsame [] (jCons (jCall w_read_number [] (jCons (jCall w_written [] (jCons (jVar 3) jNil)) jNil)) (jCons (jVar 3) jNil)))))
  (jRet (jC (.bl false)))
  jNext)
abbrev b2_law : SJ :=
  (jSeq (jFor (jIU (jCall w_lwrong [] (jCons (jVar 5) (jCons (jVar 3) jNil)))) (jgName 7)
  (jIfS (jNot (jTruth (jCall w_lis_refused [] (jCons (jVar 7) jNil))))
  (jRet (jC (.bl false)))
  jNext))
  b1_law)
abbrev b3_law : SJ :=
  (jSeq (jIfS (jOr (jNot (jTruth (jCB isiJ (jCons (jVar 6) (jCons (jC (.ty "str")) jNil))))) (jOr (jTest (jOp neRJ (jVar 6) (jVar 5))) (jNot (jTruth (jCall w_lsame [] (jCons (jCall w_read_number [] (jCons (jVar 5) jNil)) (jCons (jVar 3) jNil)))))))
  (jRet (jC (.bl false)))
  jNext)
  b2_law)
abbrev b4_law : SJ :=
  (jSeq (jIfS (jTest (jOp eqRJ (jCall w_ltake [] (jCons (jVar 2) (jCons (jC (.int 4)) jNil))) (jC (.int 0))))
  b0_law
  jNext)
  (jSeq (jAsg (jCall w_ltext_of [] (jCons (jVar 3) jNil)) (jgName 5))
  (jSeq (jAsg (jCall w_written [] (jCons (jVar 3) jNil)) (jgName 6))
  b3_law)))
abbrev b5_law : SJ :=
  (jSeq (jFor (jRng1 (jCons (jCB jMax2 (jCons (jC (.int 1)) (jCons (jCB jMin2 (jCons (jC (.int 6)) (jCons (jCB lenJ (jCons (jVar 0) jNil)) jNil))) jNil))) jNil)) (jgName 1)
  (jSeq (jAsg (jCall w_lbag [] (jCons (jVar 0) (jCons (jVar 1) jNil))) (jgName 2))
  (jSeq (jAsg (jCall w_lnumber [] (jCons (jVar 2) jNil)) (jgName 3))
  b4_law)))
  (jRet (jC (.bl true))))
def q_law : SJ :=
  b5_law
def qf_law : SJ :=
  (jSeq (jFor (jRng1 (jCons (jCB jMax2 (jCons (jC (.int 1)) (jCons (jCB jMin2 (jCons (jC (.int 6)) (jCons (jCB lenJ (jCons (jVar 0) jNil)) jNil))) jNil))) jNil)) (jgName 1)
  (jSeq (jAsg (jCall w_lbag [] (jCons (jVar 0) (jCons (jVar 1) jNil))) (jgName 2))
  (jSeq (jAsg (jCall w_lnumber [] (jCons (jVar 2) jNil)) (jgName 3))
  (jSeq (jIfS (jTest (jOp eqRJ (jCall w_ltake [] (jCons (jVar 2) (jCons (jC (.int 4)) jNil))) (jC (.int 0))))
  (jSeq (jAsg (jCB jIntS (jCons (jOp addJ (jC (.str "1")) (jOp mulSJ (jC (.str "0")) (jC (.int 250)))) jNil)) (jgName 4))
  (jAsg (jOp subJ (jCall w_ltake [] (jCons (jVar 2) (jCons (jOp addJ (jOp mulJ (jC (.int 2)) (jVar 4)) (jC (.int 1))) jNil))) (jVar 4)) (jgName 3)))
  jNext)
  (jSeq (jAsg (jCall w_ltext_of [] (jCons (jVar 3) jNil)) (jgName 5))
  (jSeq (jAsg (jCall w_written [] (jCons (jVar 3) jNil)) (jgName 6))
  (jSeq (jIfS (jOr (jNot (jTruth (jCB isiJ (jCons (jVar 6) (jCons (jC (.ty "str")) jNil))))) (jOr (jTest (jOp neRJ (jVar 6) (jVar 5))) (jNot (jTruth (jCall w_lsame [] (jCons (jCall w_read_number [] (jCons (jVar 5) jNil)) (jCons (jVar 3) jNil)))))))
  (jRet (jC (.bl false)))
  jNext)
  (jSeq (jFor (jIU (jCall w_lwrong [] (jCons (jVar 5) (jCons (jVar 3) jNil)))) (jgName 7)
  (jIfS (jNot (jTruth (jCall w_lis_refused [] (jCons (jVar 7) jNil))))
  (jRet (jC (.bl false)))
  jNext))
  (jIfS (jNot (jTruth (jCall w_lsame [] (jCons (jCall w_read_number [] (jCons (jCall w_written [] (jCons (jVar 3) jNil)) jNil)) (jCons (jVar 3) jNil)))))
  (jRet (jC (.bl false)))
  jNext)))))))))
  (jRet (jC (.bl true))))
theorem qe_law : qf_law = q_law := rfl
def w_law : WJ := wOf 1 8 q_law
theorem len_law {K : PySem.W.Frag} : ∀ vs H Q E, spJ K w_law vs H Q E → vs.length = 1 := len_J fun _ _ _ _ h => h.1
theorem fn_law {P : Program} {w : World} {K : PySem.W.Frag} {mg : Str → Option Value} {base : Heap} (T : Txt w K mg) {fd : FuncData} (F : FunD K "law" "law" (defArgs s_law) (defBody s_law) (defScope s_law) [] [] (He.ga K "law") fd) : FnG P w K mg base (L2N.CX P w) 6 (He.ga K "law") fd ["_law_script"] (spJ K w_law) := by
  refine fnG_of F (k := 5) sc_law len_law fun cdv A outer s H vs Q E gd hr h => ?_
  have key : ∃ t, PSs (cxOf (L2N.CX P w) P w K mg base N_law "law" (defScope s_law) (He.ga K "law") cdv A outer s H E) (defBody s_law) t ∧ Ss K (WE' E) t qf_law := by
    exact ex_of ((pss_cons (ps_for (passes_of rfl) rfl (pi_range1 (by rfl) T.n_range (pa_cons (pe_callB (call_max2 rfl) (by rfl) T.n_max (by decide +kernel) (pa_cons pe_int (pa_cons (pe_callB (call_min2 rfl) (by rfl) T.n_min (by decide +kernel) (pa_cons pe_int (pa_cons (pe_callB call_lenU (by rfl) T.n_len (by decide +kernel) (pa_cons (pv 0) pa_nil)) pa_nil))) pa_nil))) pa_nil)) (pg_name (i := 1) sc_law.nd rfl (Or.inl rfl))
  (pss_cons (ps_set (i := 2) sc_law.nd rfl (Or.inl rfl) (pe_cU (ok_lbag T) hr (by decide) T.g__law_bag (L2N.takes_of rfl rfl rfl rfl) (pa_cons (pv 0) (pa_cons (pv 1) pa_nil))))
  (pss_cons (ps_set (i := 3) sc_law.nd rfl (Or.inl rfl) (pe_cU (ok_lnumber T) hr (by decide) T.g__law_number (L2N.takes_of rfl rfl rfl rfl) (pa_cons (pv 2) pa_nil)))
  (pss_cons (ps_if (pt_cmpR (op_eqU (hu65 hr)) (pe_cU (ok_ltake T) hr (by decide) T.g__law_take (L2N.takes_of rfl rfl rfl rfl) (pa_cons (pv 2) (pa_cons pe_int pa_nil))) pe_int (nomark _))
  (pss_cons (ps_set (i := 4) sc_law.nd rfl (Or.inl rfl) (pe_callTy call_intS (by rfl) T.n_int (by decide +kernel) (pa_cons (pe_op op_addU pe_str (pe_op op_mulS pe_str pe_int)) pa_nil)))
  (pss_one (ps_set (i := 3) sc_law.nd rfl (Or.inl rfl) (pe_op op_sub (pe_cU (ok_ltake T) hr (by decide) T.g__law_take (L2N.takes_of rfl rfl rfl rfl) (pa_cons (pv 2) (pa_cons (pe_op op_addU (pe_op op_mulU pe_int (pv 4)) pe_int) pa_nil))) (pv 4)))))
  pss_nil)
  (pss_cons (ps_set (i := 5) sc_law.nd rfl (Or.inl rfl) (pe_cU (ok_ltext_of T) hr (by decide) T.g__law_text_of (L2N.takes_of rfl rfl rfl rfl) (pa_cons (pv 3) pa_nil)))
  (pss_cons (ps_set (i := 6) sc_law.nd rfl (Or.inl rfl) (pe_cU (ok_written T) hr (by decide) T.g_written (L2N.takes_of rfl rfl rfl rfl) (pa_cons (pv 3) pa_nil)))
  (pss_cons (ps_if (PW.pt (pw_or (pt_not (pt_tru (pe_callB call_isi (by rfl) T.n_isinstance (by decide +kernel) (pa_cons (pv 6) (pa_cons (pe_ty T.n_str (by decide +kernel)) pa_nil))))) (pw_or (pt_cmpR (op_neU (hu65 hr)) (pv 6) (pv 5) (nomark _)) (pw_or1 (pt_not (pt_tru (pe_cU (ok_lsame T) hr (by decide) T.g__law_same (L2N.takes_of rfl rfl rfl rfl) (pa_cons (pe_cU (ok_read_number T) hr (by decide) T.g_read_number (L2N.takes_of rfl rfl rfl rfl) (pa_cons (pv 5) pa_nil)) (pa_cons (pv 3) pa_nil)))))))))
  (pss_one (ps_ret pe_bl))
  pss_nil)
  (pss_cons (ps_for (passes_of rfl) rfl (pi_U (pe_cU (ok_lwrong T) hr (by decide) T.g__law_wrong (L2N.takes_of rfl rfl rfl rfl) (pa_cons (pv 5) (pa_cons (pv 3) pa_nil)))) (pg_name (i := 7) sc_law.nd rfl (Or.inl rfl))
  (pss_one (ps_if (pt_not (pt_tru (pe_cG (ok_lis_refused T) gd hr (by decide) T.g__law_is_refused (L2N.takes_of rfl rfl rfl rfl) (pa_cons (pv 7) pa_nil))))
  (pss_one (ps_ret pe_bl))
  pss_nil)))
  (pss_one (ps_if (pt_not (pt_tru (pe_cU (ok_lsame T) hr (by decide) T.g__law_same (L2N.takes_of rfl rfl rfl rfl) (pa_cons (pe_cU (ok_read_number T) hr (by decide) T.g_read_number (L2N.takes_of rfl rfl rfl rfl) (pa_cons (pe_cU (ok_written T) hr (by decide) T.g_written (L2N.takes_of rfl rfl rfl rfl) (pa_cons (pv 3) pa_nil)) pa_nil)) (pa_cons (pv 3) pa_nil)))))
  (pss_one (ps_ret pe_bl))
  pss_nil))))))))))
  (pss_one (ps_ret pe_bl))))
      ((ss_seq (ss_for (si_rng1 (sa_cons (se_cb sf_max2 (sa_cons (se_c fun _ => .int _) (sa_cons (se_cb sf_min2 (sa_cons (se_c fun _ => .int _) (sa_cons (se_cb sf_len (sa_cons se_var sa_nil)) sa_nil))) sa_nil))) sa_nil)) sg_name
  (ss_seq (ss_asg (se_callU (fun _ => .nil) (sa_cons se_var (sa_cons se_var sa_nil))) sg_name)
  (ss_seq (ss_asg (se_callU (fun _ => .nil) (sa_cons se_var sa_nil)) sg_name)
  (ss_seq (ss_if (sb_test (se_op so_eq (se_callU (fun _ => .nil) (sa_cons se_var (sa_cons (se_c fun _ => .int _) sa_nil))) (se_c fun _ => .int _)))
  (ss_seq (ss_asg (se_cb sf_intS (sa_cons (se_op so_add (se_c fun _ => .str _) (se_op so_mulS (se_c fun _ => .str _) (se_c fun _ => .int _))) sa_nil)) sg_name)
  (ss_asg (se_op so_sub (se_callU (fun _ => .nil) (sa_cons se_var (sa_cons (se_op so_add (se_op so_mul (se_c fun _ => .int _) se_var) (se_c fun _ => .int _)) sa_nil))) se_var) sg_name))
  ss_next)
  (ss_seq (ss_asg (se_callU (fun _ => .nil) (sa_cons se_var sa_nil)) sg_name)
  (ss_seq (ss_asg (se_callU (fun _ => .nil) (sa_cons se_var sa_nil)) sg_name)
  (ss_seq (ss_if (sb_or (sb_not (sb_truth (se_cb sf_isi (sa_cons se_var (sa_cons (se_c fun _ => .ty _) sa_nil))))) (sb_or (sb_test (se_op so_ne se_var se_var)) (sb_not (sb_truth (se_callU (fun _ => .nil) (sa_cons (se_callU (fun _ => .nil) (sa_cons se_var sa_nil)) (sa_cons se_var sa_nil)))))))
  (ss_ret (se_c fun _ => .bl _))
  ss_next)
  (ss_seq (ss_for (si_U (se_callU (fun _ => .nil) (sa_cons se_var (sa_cons se_var sa_nil)))) sg_name
  (ss_if (sb_not (sb_truth (se_callU (fun _ => .nil) (sa_cons se_var sa_nil))))
  (ss_ret (se_c fun _ => .bl _))
  ss_next))
  (ss_if (sb_not (sb_truth (se_callU (fun _ => .nil) (sa_cons (se_callU (fun _ => .nil) (sa_cons (se_callU (fun _ => .nil) (sa_cons se_var sa_nil)) sa_nil)) (sa_cons se_var sa_nil)))))
  (ss_ret (se_c fun _ => .bl _))
  ss_next)))))))))
  (ss_ret (se_c fun _ => .bl _))))
  obtain ⟨t, h1, h2⟩ := key
  rw [qe_law] at h2
  exact ⟨t, h1, rd_J (n := 1) (N := N_law) h2 h⟩
theorem ok_law {P : Program} {w : World} {K : PySem.W.Frag} {mg : Str → Option Value} {base : Heap} (T : Txt w K mg) : OkG P w K mg base 6 (He.ga K "law") ["_law_script"] [] (spJ K w_law) := by
  obtain ⟨fd, F⟩ := T.f_law
  exact ⟨fd, [], fn_law T F, F.kp, .nil, F.bindsN fun _ _ _ _ _ _ us hl => match us, hl with | [_], _ => rfl⟩
/-! ## the law's bag of draws: n draws at most were mixed -/
def BagJ (s : Sto) (b : Addr) (n : Nat) : Prop := ∃ L M c : Int, s b = some (.lst [.int L, .int M, .int c]) ∧ 0 ≤ M ∧ M < 7 * 2 ^ 61 + 10 ^ 6 ∧ 0 ≤ c ∧ c ≤ n
/-- all stands but b -/
def Chg (b : Addr) (s s' : Sto) : Prop := ∃ o, s' = put s b o
theorem Chg.trans {b : Addr} {s s1 s2 : Sto} (h : Chg b s s1) (g : Chg b s1 s2) : Chg b s s2 := by
  obtain ⟨o, rfl⟩ := h
  obtain ⟨u, rfl⟩ := g
  exact ⟨u, put_put⟩
theorem Chg.at {a b : Addr} {s s' : Sto} (h : Chg b s s') (n : a ≠ b) : s' a = s a := by
  obtain ⟨o, rfl⟩ := h
  exact put_ne n
theorem put_self {s : Sto} {b : Addr} {o : O} (h : s b = some o) : put s b o = s := by
  funext a
  by_cases e : a = b
  · subst e
    rw [put_same, h]
  · rw [put_ne e]
theorem BagJ.chg {s : Sto} {b : Addr} {n : Nat} (h : BagJ s b n) : Chg b s s := by
  obtain ⟨L, M, c, e, _⟩ := h
  exact ⟨_, (put_self e).symm⟩
theorem BagJ.some {s : Sto} {b : Addr} {n : Nat} (h : BagJ s b n) : ∃ o, s b = some o := by
  obtain ⟨L, M, c, e, _⟩ := h
  exact ⟨_, e⟩
theorem BagJ.mono {s : Sto} {b : Addr} {n m : Nat} (h : BagJ s b n) (l : n ≤ m) : BagJ s b m := by
  obtain ⟨L, M, c, e, h1, h2, h3, h4⟩ := h
  exact ⟨L, M, c, e, h1, h2, h3, by omega⟩
theorem BagJ.ne {s : Sto} {a b : Addr} {n : Nat} (h : BagJ s b n) (e : s a = none) : a ≠ b := by
  obtain ⟨o, q⟩ := h.some
  rintro rfl
  rw [e] at q
  cases q
theorem BagJ.new {s : Sto} {a b : Addr} {n : Nat} {o : O} (h : BagJ s b n) (e : s a = none) : BagJ (put s a o) b n := by
  have ne := h.ne e
  obtain ⟨L, M, c, q, r⟩ := h
  exact ⟨L, M, c, by rw [put_ne (Ne.symm ne)]; exact q, r⟩
theorem BagJ.put {s : Sto} {a b : Addr} {n : Nat} {o : O} (h : BagJ s b n) (ne : a ≠ b) : BagJ (M.put s a o) b n := by
  obtain ⟨L, M, c, q, r⟩ := h
  exact ⟨L, M, c, by rw [put_ne (Ne.symm ne)]; exact q, r⟩
theorem restr_chg {s s' : Sto} {b : Addr} {n : Nat} {d : J} (h : BagJ s b n) (c : Chg b s s') : restr s d s' = s' := by
  obtain ⟨o, rfl⟩ := c
  obtain ⟨u, e⟩ := h.some
  rw [restr_put e, restr_id]
theorem atI_of {α : Type} {xs : List α} {i : Int} {x : α} (h0 : 0 ≤ i) (h : xs[i.toNat]? = some x) : atI xs i = some x := by
  have hl : i.toNat < xs.length := by
    rcases Nat.lt_or_ge i.toNat xs.length with l | l
    · exact l
    · rw [List.getElem?_eq_none l] at h; cases h
  unfold atI ixN
  rw [if_pos h0, if_pos (by omega)]
  exact h
theorem get_some {α : Type} {xs : List α} {k : Nat} (h : k < xs.length) : ∃ x, xs[k]? = some x := ⟨xs[k], List.getElem?_eq_getElem h⟩
theorem bag_ok {ns : List Int} {i : Int} {s : Sto} {Q : QJ} {R : XJ} (h0 : 0 ≤ i) (h1 : i ≤ 63) (q : ∀ b o, s b = none → BagJ (put s b o) b 0 → Q (.own b) (put s b o)) : w_lbag [.scr ns, .int i] s Q R := by
  refine w_of ?_
  unfold q_lbag
  walk_at "y"
  refine ite_d (fun c => ?lt) (fun c => ?ge)
  case' lt =>
    walk_at "y"
    obtain ⟨x, hx⟩ := get_some (xs := ns) (k := i.toNat) (by omega)
    refine y_ix_c (d := .int x) (atI_of h0 (by rw [List.getElem?_map, hx]; rfl)) ?_
    generalize x = c
  case' ge => generalize hc : (0 : Int) = c
  all_goals
    have m0 := Int.emod_nonneg c (show (2305843009213693951 : Int) ≠ 0 by omega)
    have m1 := Int.emod_lt_of_pos c (show (0 : Int) < 2305843009213693951 by omega)
    have hB : (10 : Nat) ^ 200 ≤ Big := big_le
    walk_at "y"
    refine ite_d (fun c1 => ?_) (fun c1 => ?_)
    all_goals
      walk_at "y"
      refine y_own fun p hp => ?_
      rw [restr_own hp, restr_id]
      refine q p _ hp ⟨_, _, _, put_same, ?_, ?_, by omega, by omega⟩ <;> omega
theorem take_ok {s : Sto} {b : Addr} {n : Nat} {many : Int} {Q : QJ} {R : XJ} (hb : BagJ s b n) (hn : n ≤ 1000000000) (h0 : 0 < many) (h1 : many.natAbs < 10 ^ 200)
    (q : ∀ (d : Int) s', 0 ≤ d → d < many → Chg b s s' → BagJ s' b (n + 1) → Q (.int d) s') : w_ltake [.own b, .int many] s Q R := by
  obtain ⟨L, M, c, e, m0, m1, c0, c1⟩ := hb
  have hB := big_le
  refine w_of ?_
  unfold q_ltake
  walk_at "y"
  refine ite_d (fun c => ?_) (fun c => ?_)
  · walk_at "y"
    rw [restr_put e, restr_id]
    exact q _ _ (Int.emod_nonneg _ (by omega)) (Int.emod_lt_of_pos _ h0) ⟨_, rfl⟩ ⟨_, _, _, put_same, m0, m1, c0, by omega⟩
  · walk_at "y"
    rw [restr_put e, restr_id]
    exact q _ _ (Int.emod_nonneg _ (by omega)) (Int.emod_lt_of_pos _ h0) ⟨_, rfl⟩ ⟨_, _, _, put_same, m0, m1, by omega, by omega⟩
/-! ### a text of drawn signs -/
def strL (cs : List Nat) : Str := ⟨cs.toArray⟩
theorem strL_len (cs : List Nat) : (strL cs).length = cs.length := by show cs.toArray.size = _; simp
theorem strL_list (cs : List Nat) : (strL cs).cps.toList = cs := by show cs.toArray.toList = _; simp
theorem str_eta (z : Str) : strL z.cps.toList = z := by cases z; rfl
theorem str_ext {y z : Str} (h : y.cps.toList = z.cps.toList) : y = z := by rw [← str_eta y, ← str_eta z, h]
theorem str_add (y z : Str) : (y ++ z).cps.toList = y.cps.toList ++ z.cps.toList := by
  show (y.cps ++ z.cps).toList = _
  simp
theorem str_add_len (y z : Str) : (y ++ z).length = y.length + z.length := by
  show (y.cps ++ z.cps).size = _
  simp [Str.length]
theorem str_len (z : Str) : z.length = z.cps.toList.length := by show z.cps.size = _; simp
theorem join_one (cs : List Nat) : Txt.join "" (cs.map fun c => (⟨#[c]⟩ : Str)) = strL cs := by
  rw [show Txt.join "" (cs.map fun c => (⟨#[c]⟩ : Str)) = Str.join "" (cs.map fun c => (⟨#[c]⟩ : Str)) from PySem.StrLaws.glued_eq_join _ _]
  apply str_ext
  rw [strL_list]
  induction cs with
  | nil => rfl
  | cons c cs ih =>
    cases cs with
    | nil => rfl
    | cons d cs =>
      show (((⟨#[c]⟩ : Str) ++ ("" : Str)) ++ Str.join "" ((⟨#[d]⟩ : Str) :: cs.map fun c => (⟨#[c]⟩ : Str))).cps.toList = _
      rw [str_add, str_add]
      have ih' : (Str.join "" ((⟨#[d]⟩ : Str) :: cs.map fun c => (⟨#[c]⟩ : Str))).cps.toList = d :: cs := ih
      rw [ih']
      rfl
theorem sum_ones (cs : List Nat) : ((cs.map fun c => (⟨#[c]⟩ : Str)).map (·.length)).sum = cs.length := by
  induction cs with
  | nil => rfl
  | cons c cs ih =>
    rw [List.map_cons, List.map_cons, List.sum_cons, ih, List.length_cons]
    show 1 + _ = _
    omega

theorem common_divisor_ok {a b : Int} {s : Sto} {Q : QJ} {R : XJ} (hb : 0 ≤ b) (q : Q (.int (Int.gcd a b)) s) : w_common_divisor [.int a, .int b] s Q R := by
  refine w_of ?_
  unfold q_common_divisor
  walk_at "y"
  refine y_while (fun ρ s' => s' = s ∧ ∃ l g : Int, ρ = [some (.int a), some (.int b), some (.int l), some (.int g)] ∧ 0 ≤ l ∧ 0 ≤ g ∧ Int.gcd l g = Int.gcd a b) (fun ρ _ => match ρ with | [_, _, some (.int l), _] => l.toNat | _ => 0) ⟨rfl, (a.natAbs : Int), b, rfl, by omega, hb, ?_⟩ ?_
  · show Int.gcd (a.natAbs : Int) b = Int.gcd a b
    unfold Int.gcd
    rw [Int.natAbs_natCast]
  rintro ρ s1 ⟨rfl, l, g, rfl, hl, hg, e⟩
  walk_at "y"
  refine ite_d (fun h => ?_) (fun h => ?_)
  · walk_at "y"
    refine ⟨⟨rfl, _, _, rfl, Int.emod_nonneg _ (by omega), hl, ?_⟩, ?_⟩
    · rw [← e]
      obtain ⟨m, rfl⟩ := Int.eq_ofNat_of_zero_le hl
      obtain ⟨n, rfl⟩ := Int.eq_ofNat_of_zero_le hg
      show Int.gcd ((n : Int) % (m : Int)) (m : Int) = Int.gcd (m : Int) (n : Int)
      rw [← Int.natCast_emod]
      exact (Nat.gcd_rec m n).symm
    · show (g % l).toNat < l.toNat
      have := Int.emod_lt_of_pos g h
      have := Int.emod_nonneg g (by omega : l ≠ 0)
      omega
  · walk_at "y"
    have e0 : l = 0 := by omega
    subst e0
    have : (Int.gcd a b : Int) = g := by rw [← e]; simp; omega
    rw [← this, restr_id]
    exact q

/-! ## numbers: p over q -/
def pj (p q : Int) : J := if q = 1 then .int p else .tup [.int p, .int q]
def Lo (p q : Int) : Prop := 1 ≤ q ∧ Int.gcd p q = 1
/-- of the size of what is drawn -/
def Nd (p q : Int) : Prop := Lo p q ∧ p.natAbs < 10 ^ 1000 ∧ q.natAbs < 10 ^ 1000
theorem pj_one (p : Int) : pj p 1 = .int p := if_pos rfl
theorem pj_two {p q : Int} (h : q ≠ 1) : pj p q = .tup [.int p, .int q] := if_neg h
theorem pj_res {s : Sto} {p q : Int} : res s (pj p q) = pj p q := by
  unfold pj
  split <;> rfl
theorem lo_cut {p q : Int} (h : 0 < q) : Lo (p / (Int.gcd p q : Int)) (q / (Int.gcd p q : Int)) := by
  have g0 : 0 < (Int.gcd p q : Int) := by exact_mod_cast Int.gcd_pos_of_ne_zero_right p (by omega)
  refine ⟨?_, ?_⟩
  · have e := Int.ediv_mul_cancel (Int.gcd_dvd_right p q)
    have : 0 < q / (Int.gcd p q : Int) * (Int.gcd p q : Int) := by rw [e]; exact h
    have : 0 < q / (Int.gcd p q : Int) := by
      rcases Int.lt_trichotomy 0 (q / (Int.gcd p q : Int)) with c | c | c
      · exact c
      · rw [← c, Int.zero_mul] at this; omega
      · have := Int.mul_neg_of_neg_of_pos c g0
        omega
    omega
  · exact Int.gcd_ediv_gcd_ediv_gcd (by exact_mod_cast g0)
theorem number_ok {p q : Int} {s : Sto} {Q : QJ} {R : XJ} (hq : 0 < q) (h1 : q.natAbs < Big) (k : Q (pj (p / (Int.gcd p q : Int)) (q / (Int.gcd p q : Int))) s) : w_number [.int p, .int q] s Q R := by
  have g0 : 0 < (Int.gcd p q : Int) := by exact_mod_cast Int.gcd_pos_of_ne_zero_right p (by omega)
  have gl : (Int.gcd p q : Int) ≤ q := Int.le_of_dvd hq (Int.gcd_dvd_right p q)
  have gb : ((Int.gcd p q : Int)).natAbs < Big := by omega
  refine w_of ?_
  unfold q_number
  walk_at "y"
  refine ite_d (fun h => absurd h (by omega)) (fun _ => ?_)
  walk_at "y"
  refine ite_d (fun h => absurd h (by omega)) (fun _ => ?_)
  walk_at "y"
  refine common_divisor_ok (by omega) ?_
  walk_at "y"
  refine ite_d (fun h => ?_) (fun h => ?_)
  · walk_at "y"
    rw [restr_id]
    have e : q / (Int.gcd p q : Int) = 1 := by
      conv => lhs; lhs; rw [h]
      exact Int.ediv_self (by omega)
    rw [e, pj_one] at k
    exact k
  · walk_at "y"
    rw [restr_id]
    have e : q / (Int.gcd p q : Int) ≠ 1 := fun z => h (by
      have := Int.ediv_mul_cancel (Int.gcd_dvd_right p q)
      rw [z, Int.one_mul] at this
      omega)
    rw [pj_two e] at k
    exact k
def cmpI (p q r s : Int) : Int := (if p * s > r * q then 1 else 0) - (if p * s < r * q then 1 else 0)

theorem sub_at {y z : Str} {k : Nat} (hk : k ≤ z.length) : Txt.startswith3 z y (k : Int) = y.cps.toList.isPrefixOf (z.cps.toList.drop k) := by
  have lz := str_len z
  have ly := str_len y
  have fi : fromIndex z.length (k : Int) = k := by
    unfold fromIndex
    rw [if_neg (by omega)]
    omega
  unfold Txt.startswith3
  rw [fi]
  have e1 : Builtin.Str.subAt z y k = decide ((z.cps.toList.drop k).take y.length = y.cps.toList) := by
    unfold Builtin.Str.subAt
    have h : (z.cps.extract k (k + y.length)).toList = (z.cps.toList.drop k).take y.length := by
      rw [Array.toList_extract, List.extract_eq_take_drop]
      congr 1
      omega
    rw [← h]
    by_cases c : z.cps.extract k (k + y.length) = y.cps
    · rw [c]; simp
    · rw [beq_eq_false_iff_ne.mpr c, decide_eq_false (fun u => c (Array.toList_inj.mp u))]
  rw [e1]
  rw [Bool.eq_iff_iff, Bool.and_eq_true, decide_eq_true_eq, decide_eq_true_eq, List.isPrefixOf_iff_prefix]
  constructor
  · rintro ⟨h1, h2⟩
    rw [← h2]
    exact List.take_prefix _ _
  · intro h
    have hlen := h.length_le
    rw [List.length_drop] at hlen
    refine ⟨by omega, ?_⟩
    have := List.prefix_iff_eq_take.mp h
    rw [ly, ← this]

def FmtX (s : Sto) (x : J) (Q : QJ) : Prop := (∃ y : Str, x = .str y ∧ y.length ≤ 100000 ∧ Q (.str y) s) ∨ ∃ i : Int, x = .int i ∧ i.natAbs.log2 < 1920 ∧ Q (.str (toString i)) s
theorem y_fmt {p : TJ} {ρ : Rho} {s : Sto} {Q : QJ} {R : XJ} (h : p ρ s (fun x s1 => FmtX s1 x Q) R) : jFmt p ρ s Q R := h
theorem y_fmtI {s : Sto} {i : Int} {Q : QJ} (hl : i.natAbs.log2 < 1920) (h : Q (.str (toString i)) s) : FmtX s (.int i) Q := .inr ⟨i, rfl, hl, h⟩
theorem y_fmtS {s : Sto} {y : Str} {Q : QJ} (hl : y.length ≤ 100000) (h : Q (.str y) s) : FmtX s (.str y) Q := .inl ⟨y, rfl, hl, h⟩
/-! ## numbers written -/
def intT (i : Int) : Str := Str.ofString (toString i)
def wtext (p q : Int) : Str := if q = 1 then intT p else intT p ++ "/" ++ intT q
theorem intT_nat (n : Nat) : (intT (n : Int)).cps.toList = TL.numL n := TL.tl_num n
theorem ofStr_app (a b : String) : (Str.ofString (a ++ b)).cps.toList = (Str.ofString a).cps.toList ++ (Str.ofString b).cps.toList := by
  rw [Str.ofString_eq_toList, Str.ofString_eq_toList, Str.ofString_eq_toList]
  simp
theorem intT_neg {n : Nat} (h : 0 < n) : (intT (-(n : Int))).cps.toList = 45 :: TL.numL n := by
  obtain ⟨m, rfl⟩ : ∃ m, n = m + 1 := ⟨n - 1, by omega⟩
  have e : toString (-((m + 1 : Nat) : Int)) = "-" ++ toString ((m + 1 : Nat) : Int) := by
    rfl
  unfold intT
  rw [e, ofStr_app]
  rw [show (Str.ofString (toString ((m + 1 : Nat) : Int))).cps.toList = TL.numL (m + 1) from TL.tl_num (m + 1)]
  rfl
def intL (i : Int) : List Nat := if i < 0 then 45 :: TL.numL i.natAbs else TL.numL i.natAbs
theorem intT_l (i : Int) : (intT i).cps.toList = intL i := by
  unfold intL
  by_cases h : i < 0
  · rw [if_pos h]
    have e : i = -((i.natAbs : Nat) : Int) := by omega
    conv => lhs; rw [e]
    exact intT_neg (by omega)
  · rw [if_neg h]
    have e : i = ((i.natAbs : Nat) : Int) := by omega
    conv => lhs; rw [e]
    exact intT_nat _
theorem numL_small {n : Nat} (h : n < 10 ^ 300) : (TL.numL n).length ≤ 300 := TL.numL_len (by decide) h
theorem intT_small {i : Int} (h : i.natAbs < 10 ^ 300) : (intT i).length ≤ 301 := by
  have := numL_small h
  rw [str_len, intT_l]
  unfold intL
  split
  · show (TL.numL i.natAbs).length + 1 ≤ _; omega
  · omega
theorem log_small {i : Int} (h : i.natAbs < 10 ^ 300) : i.natAbs.log2 < 1920 := by
  by_cases h0 : i.natAbs = 0
  · rw [h0]; decide
  · rw [Nat.log2_lt h0]
    exact Nat.lt_trans h (by decide +kernel)
/-- numbers that are written: at most 300 digits above and below the line -/
def Nw (p q : Int) : Prop := Lo p q ∧ p.natAbs < 10 ^ 300 ∧ q.natAbs < 10 ^ 300
theorem Nw.big {p q : Int} (h : Nw p q) : p.natAbs < Big ∧ q.natAbs < Big := by
  have hB : 10 ^ 300 ≤ Big := by unfold Big; decide +kernel
  exact ⟨Nat.lt_of_lt_of_le h.2.1 hB, Nat.lt_of_lt_of_le h.2.2 hB⟩
theorem written_ok {p q : Int} {s : Sto} {Q : QJ} {R : XJ} (h : Nw p q) (k : Q (.str (wtext p q)) s) : w_written [pj p q] s Q R := by
  have i1 := intT_small h.2.1
  have i2 := intT_small h.2.2
  refine w_of ?_
  unfold q_written
  walk_at "y"
  by_cases e : q = 1
  · subst e
    rw [pj_one]
    walk_at "y"
    refine y_str_i h.2.1 ?_
    rw [restr_id]
    have : wtext p 1 = intT p := if_pos rfl
    rw [this] at k
    exact k
  · have ek : wtext p q = intT p ++ "/" ++ intT q := if_neg e
    rw [pj_two e]
    walk_at "y"
    refine y_joined (y_jsc (y_fmt ?_))
    walk_at "y"
    refine y_fmtI (log_small h.2.1) ?_
    have l1 : (Str.empty ++ intT p).length = (intT p).length := by rw [str_add_len]; show 0 + _ = _; omega
    refine y_jsX (by show (Str.empty ++ intT p).length ≤ _; omega) (y_jsc ?_)
    walk_at "y"
    have l2 : (Str.empty ++ intT p ++ "/").length = (intT p).length + 1 := by rw [str_add_len, l1]; rfl
    refine y_jsX (by show (Str.empty ++ intT p ++ "/").length ≤ _; omega) (y_jsc (y_fmt ?_))
    walk_at "y"
    refine y_fmtI (log_small h.2.2) ?_
    refine y_jsX (by show (Str.empty ++ intT p ++ "/" ++ intT q).length ≤ _; rw [str_add_len]; omega) (y_js0 ?_)
    rw [restr_id]
    have e2 : Str.empty ++ intT p ++ "/" ++ intT q = wtext p q := by
      rw [ek]
      apply str_ext
      rw [str_add, str_add, str_add, str_add, str_add]
      rfl
    rw [← e2] at k
    exact k
theorem intL_free {i : Int} {c : Nat} (h : c < 45 ∨ 57 < c ∨ c = 46 ∨ c = 47) : c ∉ intL i := by
  unfold intL
  intro m
  split at m
  · rcases List.mem_cons.mp m with e | m
    · omega
    · exact absurd m (TL.numL_free (by omega))
  · exact absurd m (TL.numL_free (by omega))
theorem numL_dig {n c : Nat} (h : c ∈ TL.numL n) : c ∈ (Str.cps "0123456789").toList := by
  have := TL.numL_digits n c h
  have key : ∀ c : Nat, 48 ≤ c → c ≤ 57 → c ∈ (Str.cps "0123456789").toList := fun c h1 h2 => by
    have : c = 48 ∨ c = 49 ∨ c = 50 ∨ c = 51 ∨ c = 52 ∨ c = 53 ∨ c = 54 ∨ c = 55 ∨ c = 56 ∨ c = 57 := by omega
    rcases this with rfl | rfl | rfl | rfl | rfl | rfl | rfl | rfl | rfl | rfl <;> decide +kernel
  exact key c this.1 this.2
/-- the text of a number without its sign, in parts -/
def absT (p q : Int) : List Str := if q = 1 then [intT (p.natAbs : Int)] else [intT (p.natAbs : Int), intT q]
theorem split_abs {p q : Int} (h : Lo p q) : Txt.split (Txt.join "/" (absT p q)) "/" = absT p q := by
  refine TL.split_join (s := 47) (S := []) rfl (by decide +kernel) ?_ ?_
  · unfold absT; split <;> simp
  · intro y hy
    have key : ∀ n : Nat, 47 ∉ (intT (n : Int)).cps.toList := fun n => by rw [intT_nat]; exact TL.numL_free (by omega)
    have hq : ∃ n : Nat, q = (n : Int) := ⟨q.toNat, by have := h.1; omega⟩
    obtain ⟨n, rfl⟩ := hq
    unfold absT at hy
    split at hy
    · rw [List.mem_singleton.mp hy]; exact key _
    · simp only [List.mem_cons, List.not_mem_nil, or_false] at hy
      rcases hy with rfl | rfl <;> exact key _
theorem join_abs {p q : Int} : (Txt.join "/" (absT p q)).cps.toList = if q = 1 then TL.numL p.natAbs else TL.numL p.natAbs ++ 47 :: (intT q).cps.toList := by
  unfold absT
  split
  · show (Txt.join "/" [intT (p.natAbs : Int)]).cps.toList = _
    rw [TL.join_eq]
    exact intT_nat _
  · rw [TL.join_eq]
    show (intT (p.natAbs : Int) ++ ("/" : Str) ++ intT q).cps.toList = _
    rw [str_add, str_add, intT_nat]
    simp
    rfl
theorem wtext_l {p q : Int} : (wtext p q).cps.toList = (if p < 0 then [45] else []) ++ (Txt.join "/" (absT p q)).cps.toList := by
  rw [join_abs]
  unfold wtext
  split
  · rw [intT_l]
    unfold intL
    split <;> rfl
  · rw [str_add, str_add, intT_l]
    unfold intL
    split <;> simp <;> rfl
theorem starts_l {z y : Str} : Txt.startswith z y = y.cps.toList.isPrefixOf z.cps.toList := by
  have h := sub_at (y := y) (z := z) (k := 0) (Nat.zero_le _)
  rw [List.drop_zero] at h
  rw [← h]
  unfold Txt.startswith Txt.startswith3 fromIndex
  simp
theorem wtext_len {p q : Int} (h : Nw p q) : (wtext p q).length ≤ 603 := by
  have i1 := intT_small h.2.1
  have i2 := intT_small h.2.2
  unfold wtext
  split
  · omega
  · rw [str_add_len, str_add_len]
    show (intT p).length + 1 + (intT q).length ≤ _
    omega
theorem abs_len {p q : Int} (h : Nw p q) : (Txt.join "/" (absT p q)).length ≤ 603 := by
  have := wtext_len h
  rw [str_len] at this ⊢
  rw [wtext_l, List.length_append] at this
  omega
theorem intT_read {n : Nat} (h : n < 10 ^ 300) : PySem.intText? (intT (n : Int)) = some (n : Int) ∧ (intT (n : Int)).length ≤ 640 := by
  refine ⟨TL.int_num (by have := numL_small h; omega), ?_⟩
  have := numL_small h
  rw [str_len, intT_nat]
  omega
theorem read_number_ok {p q : Int} {s : Sto} {Q : QJ} {R : XJ} (h : Nw p q) (k : Q (pj p q) s) : w_read_number [.str (wtext p q)] s Q R := by
  have hl := h.1
  have hz := wtext_len h
  have hd := abs_len h
  obtain ⟨m, rfl⟩ : ∃ m : Nat, q = (m : Int) := ⟨q.toNat, by have := hl.1; omega⟩
  have key : ∀ (sg : Int), sg * (p.natAbs : Int) = p → sg.natAbs < Big → (jSeq (jAsg (jBM "str" splitJ (jVar 2) (jCons (jC (.str "/")) jNil)) (jgName 3)) (jSeq (jFor (jIU (jVar 3)) (jgName 4) b0_read_number) b4_read_number)) (endJ s Q R)
      [some (.str (wtext p m)), some (.int sg), some (.str (Txt.join "/" (absT p m))), none, none, none, none, none, none] s := by
    intro sg hsg hsb
    unfold endJ
    walk_at "y"
    refine y_split (by decide +kernel) (by omega) ?_
    rw [split_abs hl]
    walk_at "y"
    refine for_inv (fun i ρ s' => s' = s ∧ ∃ x4 x7 x8, ρ = [some (.str (wtext p m)), some (.int sg), some (.str (Txt.join "/" (absT p m))), some (.lst ((absT p m).map J.str)), x4, none, none, x7, x8]) ⟨rfl, _, _, _, rfl⟩ (fun _ _ _ _ _ => trivial) ?_ ?_
    · rintro i x ρ s' N hx ⟨rfl, x4, x7, x8, rfl⟩ hN
      obtain ⟨n, rfl, hn⟩ : ∃ n : Nat, x = .str (intT (n : Int)) ∧ n < 10 ^ 300 := by
        have hm := List.mem_of_getElem? hx
        obtain ⟨y, hy, rfl⟩ := List.mem_map.mp hm
        unfold absT at hy
        split at hy
        · rw [List.mem_singleton.mp hy]; exact ⟨_, rfl, h.2.1⟩
        · simp only [List.mem_cons, List.not_mem_nil, or_false] at hy
          rcases hy with rfl | rfl
          · exact ⟨_, rfl, h.2.1⟩
          · exact ⟨m, rfl, by have := h.2.2; simpa using this⟩
      walk_at "y"
      have ir := intT_read hn
      refine ite_d (fun e => absurd (congrArg (fun z : Str => z.cps.toList) e) (by rw [intT_nat]; exact TL.numL_ne n)) (fun _ => ?_)
      walk_at "y"
      refine lc_map (fun _ => .bl true) (by unfold sgns; rw [List.length_map, ← str_len]; omega) trivial (fun x hx Y hy => ?_) ?_
      · unfold sgns at hx
        obtain ⟨c, hc, rfl⟩ := List.mem_map.mp hx
        walk_at "y"
        rw [decide_eq_true (numL_dig (by rw [intT_nat] at hc; exact hc))]
        exact hy
      · walk_at "y"
        have e2 : (sgns (intT (n : Int))).map (fun _ => J.bl true) = (List.replicate (sgns (intT (n : Int))).length true).map J.bl := by
          rw [List.map_const', List.map_replicate]
        rw [e2]
        refine y_all ?_
        rw [show (List.replicate (sgns (intT (n : Int))).length true).all id = true by simp]
        walk_at "y"
        exact hN _ _ ⟨rfl, _, _, _, rfl⟩
    · rintro ρ s' ⟨rfl, x4, x7, x8, rfl⟩
      have nb := h.big
      have r1 := intT_read h.2.1
      by_cases e : (m : Int) = 1
      · have ea : absT p m = [intT (p.natAbs : Int)] := if_pos e
        rw [ea]
        walk_at "y"
        rw [e] at hl nb h k ⊢
        refine y_intS r1.1 r1.2 ?_
        refine y_mul ?_ hsb (by simpa using nb.1)
        walk_at "y"
        rw [hsg]
        refine number_ok (by have := hl.1; omega) nb.2 ?_
        rw [hl.2]
        rw [show ((1 : Nat) : Int) = 1 from rfl, Int.ediv_one, Int.ediv_one]
        walk_at "y"
        refine written_ok h ?_
        walk_at "y"
        refine ite_nd (fun _ => ?_) (fun c => absurd rfl c)
        walk_at "y"
        rw [restr_id]
        exact k
      · have ea : absT p m = [intT (p.natAbs : Int), intT m] := if_neg e
        have r2 := intT_read (n := m) (by have := h.2.2; simpa using this)
        rw [ea]
        walk_at "y"
        refine y_intS r2.1 r2.2 ?_
        walk_at "y"
        refine ite_d (fun c => absurd c (by have := hl.1; omega)) (fun _ => ?_)
        walk_at "y"
        refine y_intS r1.1 r1.2 ?_
        refine y_mul ?_ hsb (by simpa using nb.1)
        walk_at "y"
        rw [hsg]
        refine number_ok (by have := hl.1; omega) nb.2 ?_
        rw [hl.2]
        rw [show ((1 : Nat) : Int) = 1 from rfl, Int.ediv_one, Int.ediv_one]
        walk_at "y"
        refine written_ok h ?_
        walk_at "y"
        refine ite_nd (fun _ => ?_) (fun c => absurd rfl c)
        walk_at "y"
        rw [restr_id]
        exact k
  refine w_of ?_
  unfold q_read_number
  walk_at "y"
  rw [starts_l, wtext_l]
  by_cases hp : p < 0
  · rw [if_pos hp]
    refine ite_T (by rfl) ?_
    have ec : cutS (wtext p m) (some 1) none = Txt.join "/" (absT p m) := by
      apply str_ext
      have hw : (wtext p m).cps.toList = 45 :: (Txt.join "/" (absT p m)).cps.toList := by rw [wtext_l, if_pos hp]; rfl
      have hw2 : (wtext p m).length = (Txt.join "/" (absT p m)).length + 1 := by rw [str_len, hw, List.length_cons, ← str_len]
      show ((((wtext p m).cps.toList.drop (HT.sIx (wtext p m).length 0 (some (1 : Int)))).take (HT.sIx (wtext p m).length (wtext p m).length none - HT.sIx (wtext p m).length 0 (some (1 : Int)))).toArray).toList = _
      have e1 : HT.sIx (wtext p m).length 0 (some (1 : Int)) = 1 := by rw [show (1 : Int) = ((1 : Nat) : Int) from rfl, HT.sIx_nat]; omega
      rw [e1, HT.sIx_none, hw, List.drop_one, List.tail_cons, List.take_of_length_le (by rw [← str_len]; omega)]
    refine y_tup (y_cons (y_un (y_c (y_neg (y_cons (y_sl (y_var (y_part (y_c (y_int (y_noPart (y_sl_s (z := wtext p m) (by omega) (y_nil (y_newJ (y_gtup (y_gcons (y_name (y_gcons (y_name (y_gnil ?_))))))))))))))))))))
    rw [ec]
    exact key (-1) (by omega) (by have := big_le; omega)
  · rw [if_neg hp]
    refine ite_F ?_ ?_
    · rw [join_abs, List.nil_append]
      have hd : ∀ r : List Nat, ([45] : List Nat).isPrefixOf (TL.numL p.natAbs ++ r) = false := fun r => by
        cases e : TL.numL p.natAbs with
        | nil => exact absurd e (TL.numL_ne _)
        | cons c l =>
          have : c ≠ 45 := fun z => TL.numL_free (n := p.natAbs) (s := 45) (by omega) (by rw [e, z]; exact List.mem_cons_self)
          show (45 == c && _) = false
          rw [beq_eq_false_iff_ne.mpr (Ne.symm this)]
          rfl
      split
      · have := hd []
        rw [List.append_nil] at this
        exact this
      · exact hd _
    · refine y_tup (y_cons (y_c (y_cons (y_var (y_nil (y_newJ (y_gtup (y_gcons (y_name (y_gcons (y_name (y_gnil ?_))))))))))))
      have ew : wtext p m = Txt.join "/" (absT p m) := by
        apply str_ext
        rw [wtext_l, if_neg hp]
        rfl
      have := key 1 (by omega) (by have := big_le; omega)
      rw [← ew] at this
      exact this

/-! ## the law's numbers -/
theorem value_ok {p q : Int} {s : Sto} {Q : QJ} {R : XJ} (hq : 0 < q) (h1 : q.natAbs < Big) (k : Q (pj (p / (Int.gcd p q : Int)) (q / (Int.gcd p q : Int))) s) : w_lvalue [.int p, .int q] s Q R := by
  have g0 : 0 < (Int.gcd p q : Int) := by exact_mod_cast Int.gcd_pos_of_ne_zero_right p (by omega)
  have gl : (Int.gcd p q : Int) ≤ q := Int.le_of_dvd hq (Int.gcd_dvd_right p q)
  have gb : ((Int.gcd p q : Int)).natAbs < Big := by omega
  refine w_of ?_
  unfold q_lvalue
  walk_at "y"
  refine y_while (fun ρ s' => s' = s ∧ ∃ l g : Int, ρ = [some (.int p), some (.int q), some (.int l), some (.int g)] ∧ 0 ≤ l ∧ 0 ≤ g ∧ Int.gcd l g = Int.gcd p q) (fun ρ _ => match ρ with | [_, _, some (.int l), _] => l.toNat | _ => 0) ⟨rfl, (p.natAbs : Int), q, rfl, by omega, by omega, ?_⟩ ?_
  · show Int.gcd (p.natAbs : Int) q = Int.gcd p q
    unfold Int.gcd
    rw [Int.natAbs_natCast]
  rintro ρ s1 ⟨rfl, l, g, rfl, hl, hg, e⟩
  walk_at "y"
  refine ite_d (fun h => ?_) (fun h => ?_)
  · walk_at "y"
    refine ⟨⟨rfl, _, _, rfl, Int.emod_nonneg _ (by omega), hl, ?_⟩, ?_⟩
    · rw [← e]
      obtain ⟨m, rfl⟩ := Int.eq_ofNat_of_zero_le hl
      obtain ⟨n, rfl⟩ := Int.eq_ofNat_of_zero_le hg
      show Int.gcd ((n : Int) % (m : Int)) (m : Int) = Int.gcd (m : Int) (n : Int)
      rw [← Int.natCast_emod]
      exact (Nat.gcd_rec m n).symm
    · show (g % l).toNat < l.toNat
      have := Int.emod_lt_of_pos g h
      have := Int.emod_nonneg g (by omega : l ≠ 0)
      omega
  · walk_at "y"
    have e0 : l = 0 := by omega
    subst e0
    have eg : (Int.gcd p q : Int) = g := by rw [← e]; simp; omega
    rw [← eg]
    refine ite_d (fun h => ?_) (fun h => ?_)
    · walk_at "y"
      rw [restr_id]
      have e : q / (Int.gcd p q : Int) = 1 := by
        conv => lhs; lhs; rw [h]
        exact Int.ediv_self (by omega)
      rw [e, pj_one] at k
      exact k
    · walk_at "y"
      rw [restr_id]
      have e : q / (Int.gcd p q : Int) ≠ 1 := fun z => h (by
        have := Int.ediv_mul_cancel (Int.gcd_dvd_right p q)
        rw [z, Int.one_mul] at this
        omega)
      rw [pj_two e] at k
      exact k
theorem nw_cut {p q : Int} {m : Nat} (hq : 0 < q) (h1 : p.natAbs ≤ m) (h2 : q.natAbs ≤ m) (hm : m < 10 ^ 300) : Nw (p / (Int.gcd p q : Int)) (q / (Int.gcd p q : Int)) := by
  have g0 : 0 < Int.gcd p q := Int.gcd_pos_of_ne_zero_right p (by omega)
  refine ⟨lo_cut hq, ?_, ?_⟩
  · rw [Int.natAbs_ediv_of_dvd (Int.gcd_dvd_left p q)]
    exact Nat.lt_of_le_of_lt (Nat.div_le_self _ _) (by omega)
  · rw [Int.natAbs_ediv_of_dvd (Int.gcd_dvd_right p q)]
    exact Nat.lt_of_le_of_lt (Nat.div_le_self _ _) (by omega)
theorem cut_le {p q : Int} {m n : Nat} (h1 : p.natAbs ≤ m) (h2 : q.natAbs ≤ n) : (p / (Int.gcd p q : Int)).natAbs ≤ m ∧ (q / (Int.gcd p q : Int)).natAbs ≤ n := by
  have k : ∀ a : Int, (a / (Int.gcd p q : Int)).natAbs ≤ a.natAbs := fun a => by
    first
      | exact Int.natAbs_ediv_le_natAbs a _
      | exact Int.natAbs_div_le_natAbs a _
  exact ⟨Nat.le_trans (k p) h1, Nat.le_trans (k q) h2⟩
theorem number_drawK {s : Sto} {b : Addr} {n : Nat} {Q : QJ} {R : XJ} (hb : BagJ s b n) (hn : n ≤ 100000000) (q : ∀ (p r : Int) s', Nw p r → p.natAbs ≤ 10 ^ 20 → r.natAbs ≤ 10 ^ 9 → Chg b s s' → BagJ s' b (n + 3) → Q (pj p r) s') : w_lnumber [.own b] s Q R := by
  refine w_of ?_
  unfold q_lnumber
  have hB := big_le
  walk_at "y"
  refine take_ok hb (by omega) (by decide) (by decide) fun d s1 d0 d1 c1 b1 => ?_
  walk_at "y"
  refine ite_d (fun h => ?_) (fun h => ?_)
  · walk_at "y"
    refine take_ok b1 (by omega) (by decide) (by decide) fun d2 s2 _ _ c2 b2 => ?_
    walk_at "y"
    refine take_ok b2 (by omega) (by decide) (by decide) fun d3 s3 _ _ c3 b3 => ?_
    walk_at "y"
    refine value_ok (by omega) (by omega) ?_
    walk_at "y"
    have cc := (c1.trans c2).trans c3
    rw [restr_chg hb cc]
    obtain ⟨l1, l2⟩ := cut_le (p := d2 - 5) (q := 1 + d3) (m := 10 ^ 20) (n := 10 ^ 9) (by omega) (by omega)
    exact q _ _ _ (nw_cut (m := 20) (by omega) (by omega) (by omega) (by decide)) l1 l2 cc b3
  · have t20 : (10 : Int) ^ 20 = 100000000000000000000 := by decide +kernel
    have t9 : (10 : Int) ^ 9 = 1000000000 := by decide +kernel
    walk_at "y"
    rw [t20]
    walk_at "y"
    refine take_ok b1 (by omega) (by decide) (by decide) fun d2 s2 _ _ c2 b2 => ?_
    walk_at "y"
    rw [t20]
    walk_at "y"
    rw [t9]
    refine take_ok b2 (by omega) (by decide) (by decide) fun d3 s3 _ _ c3 b3 => ?_
    walk_at "y"
    refine value_ok (by omega) (by omega) ?_
    have cc := (c1.trans c2).trans c3
    rw [restr_chg hb cc]
    obtain ⟨l1, l2⟩ := cut_le (p := d2 - 100000000000000000000) (q := 1 + d3) (m := 10 ^ 20) (n := 10 ^ 9) (by omega) (by omega)
    exact q _ _ _ (nw_cut (m := 100000000000000000000) (by omega) (by omega) (by omega) (by decide)) l1 l2 cc b3
theorem number_draw {s : Sto} {b : Addr} {n : Nat} {Q : QJ} {R : XJ} (hb : BagJ s b n) (hn : n ≤ 100000000) (q : ∀ (p r : Int) s', Nw p r → Chg b s s' → BagJ s' b (n + 3) → Q (pj p r) s') : w_lnumber [.own b] s Q R :=
  number_drawK hb hn fun p r s' h _ _ c b => q p r s' h c b

/-! ## read_number: any text that is no written number is refused -/
open NumText in
theorem digs_lt : ∀ (l : List Nat) (a : Nat), AllDigits l → l.foldl (fun acc c => acc * 10 + (c - 48)) a < (a + 1) * 10 ^ l.length
  | [], a, _ => by show a < (a + 1) * 1; omega
  | c :: l, a, h => by
    have hc := h c List.mem_cons_self
    have ih := digs_lt l (a * 10 + (c - 48)) fun x hx => h x (List.mem_cons_of_mem _ hx)
    rw [List.foldl_cons]
    refine Nat.lt_of_lt_of_le ih ?_
    rw [List.length_cons, Nat.pow_succ, Nat.mul_comm (10 ^ l.length) 10, ← Nat.mul_assoc]
    exact Nat.mul_le_mul_right _ (by omega)
theorem dig_mem {c : Nat} (h : c ∈ (Str.cps "0123456789").toList) : 48 ≤ c ∧ c ≤ 57 := by
  have key : ∀ c ∈ (Str.cps "0123456789").toList, 48 ≤ c ∧ c ≤ 57 := by decide +kernel
  exact key c h
/-- a part that may be read -/
def PartOk (y : Str) : Prop := y.cps.toList ≠ [] ∧ ∀ c ∈ y.cps.toList, c ∈ (Str.cps "0123456789").toList
theorem part_read {y : Str} (h : PartOk y) (hl : y.length ≤ 280) : ∃ n : Nat, PySem.intText? y = some (n : Int) ∧ n < 10 ^ 280 := by
  have ad : NumText.AllDigits y.cps.toList := fun c hc => dig_mem (h.2 c hc)
  refine ⟨NumText.digitsVal y.cps.toList, PySem.intText_digits ad h.1 (by omega), ?_⟩
  have := digs_lt y.cps.toList 0 ad
  rw [Nat.zero_add, Nat.one_mul, ← str_len] at this
  exact Nat.lt_of_lt_of_le this (Nat.pow_le_pow_right (by decide) hl)
theorem atI_last {α : Type} {x y : α} : atI [x, y] (-1) = some y := rfl
theorem read_number_no {z : Str} {s : Sto} {Q : QJ} {R : XJ} (hz : z.length ≤ 280) (h : ∀ p q, Nw p q → wtext p q ≠ z) (k : R "BadNumber" [("thing", .str z)] s) : w_read_number [.str z] s Q R := by
  have hB := big_le
  have key : ∀ (sg : Int) (y : Str), (sg = 1 ∨ sg = -1) → y.length ≤ 280 → (jSeq (jAsg (jBM "str" splitJ (jVar 2) (jCons (jC (.str "/")) jNil)) (jgName 3)) (jSeq (jFor (jIU (jVar 3)) (jgName 4) b0_read_number) b4_read_number)) (endJ s Q R)
      [some (.str z), some (.int sg), some (.str y), none, none, none, none, none, none] s := by
    intro sg y hsg hy
    have ps := PyProof.Rows.split_pos y "/"
    have short : ∀ a ∈ Txt.split y "/", a.length ≤ 280 := fun a ha => Nat.le_trans (PyProof.Rows.part_short ha) hy
    unfold endJ
    walk_at "y"
    refine y_split (by decide +kernel) (by omega) ?_
    generalize Txt.split y "/" = P at ps short
    walk_at "y"
    refine for_inv (fun i ρ s' => s' = s ∧ (∀ j < i, ∀ a, P[j]? = some a → PartOk a) ∧ ∃ x4 x7 x8, ρ = [some (.str z), some (.int sg), some (.str y), some (.lst (P.map J.str)), x4, none, none, x7, x8]) ⟨rfl, (fun j hj => absurd hj (Nat.not_lt_zero j)), _, _, _, rfl⟩ (fun _ _ _ _ _ => trivial) ?_ ?_
    · rintro i x ρ s' N hx ⟨rfl, hp, x4, x7, x8, rfl⟩ hN
      rw [List.getElem?_map] at hx
      obtain ⟨a, ha, rfl⟩ : ∃ a, P[i]? = some a ∧ x = .str a := by
        cases e : P[i]? with
        | none => rw [e] at hx; cases hx
        | some a => rw [e] at hx; exact ⟨a, rfl, (Option.some.inj hx).symm⟩
      have hs := short a (List.mem_of_getElem? ha)
      walk_at "y"
      refine ite_d (fun e => ?_) (fun ne => ?_)
      · walk_at "y"
        rw [restr_id]
        exact k
      walk_at "y"
      refine lc_map (fun x => match x with | .str w => .bl (w.cps.toList.all fun c => decide (c ∈ (Str.cps "0123456789").toList)) | _ => .non) (by unfold sgns; rw [List.length_map, ← str_len]; omega) trivial (fun x hx Y hy => ?_) ?_
      · unfold sgns at hx
        obtain ⟨c, hc, rfl⟩ := List.mem_map.mp hx
        walk_at "y"
        have e : (([c] : List Nat).all fun c => decide (c ∈ (Str.cps "0123456789").toList)) = decide (c ∈ (Str.cps "0123456789").toList) := by simp
        rw [← e]
        exact hy
      · walk_at "y"
        have e2 : (sgns a).map (fun x => match x with | .str w => .bl (w.cps.toList.all fun c => decide (c ∈ (Str.cps "0123456789").toList)) | _ => .non) = (a.cps.toList.map fun c => decide (c ∈ (Str.cps "0123456789").toList)).map J.bl := by
          unfold sgns
          rw [List.map_map, List.map_map]
          refine List.map_congr_left fun c _ => ?_
          show J.bl (([c] : List Nat).all fun c => decide (c ∈ (Str.cps "0123456789").toList)) = _
          simp
        rw [e2]
        refine y_all ?_
        walk_at "y"
        have e3 : (a.cps.toList.map fun c => decide (c ∈ (Str.cps "0123456789").toList)).all id = a.cps.toList.all fun c => decide (c ∈ (Str.cps "0123456789").toList) := by
          rw [List.all_map]
          rfl
        rw [e3]
        refine ite_b (fun c => ?_) (fun c => ?_)
        · walk_at "y"
          rw [restr_id]
          exact k
        · replace c : (a.cps.toList.all fun c => decide (c ∈ (Str.cps "0123456789").toList)) = true := by
            rw [Bool.not_eq_false'] at c
            exact c
          walk_at "y"
          refine hN _ _ ⟨rfl, fun j hj b hb => ?_, _, _, _, rfl⟩
          by_cases e : j = i
          · subst e
            rw [ha] at hb
            cases hb
            refine ⟨fun e => ne (str_ext e), fun d hd => ?_⟩
            rw [List.all_eq_true] at c
            exact of_decide_eq_true (c d hd)
          · exact hp j (by omega) b hb
    · rintro ρ s' ⟨rfl, hp, x4, x7, x8, rfl⟩
      rw [List.length_map] at hp
      have fin : ∀ (p0 bot : Nat), 0 < bot → p0 < 10 ^ 280 → bot < 10 ^ 280 → ∀ (t : List J),
          (jSeq (jIfS (jTest (jOp neRJ (jCall w_written [] (jCons (jVar 6) jNil)) (jVar 0))) (jRaise1 "BadNumber" "thing" (jCons (jVar 0) jNil)) jNext) (jRet (jVar 6))) (endJ s' Q R)
            [some (.str z), some (.int sg), some (.str y), some (.lst t), x4, some (.int bot), some (pj (sg * (p0 : Int) / (Int.gcd (sg * p0) bot : Int)) ((bot : Int) / (Int.gcd (sg * p0) bot : Int))), x7, x8] s' := by
        intro p0 bot b0 hp0 hb t
        have nw : Nw (sg * (p0 : Int) / (Int.gcd (sg * p0) bot : Int)) ((bot : Int) / (Int.gcd (sg * p0) bot : Int)) := by
          refine nw_cut (m := 10 ^ 280) (by omega) ?_ (by omega) (by decide +kernel)
          rcases hsg with rfl | rfl <;> omega
        unfold endJ
        walk_at "y"
        refine written_ok nw ?_
        walk_at "y"
        refine ite_nd (fun c => absurd c (h _ _ nw)) (fun _ => ?_)
        walk_at "y"
        rw [restr_id]
        exact k
      obtain ⟨a0, ha0⟩ := get_some (xs := P) (k := 0) (by omega)
      obtain ⟨n0, r0, l0⟩ := part_read (hp 0 (by omega) a0 ha0) (short a0 (List.mem_of_getElem? ha0))
      have sa0 := short a0 (List.mem_of_getElem? ha0)
      walk_at "y"
      rw [List.length_map]
      refine ite_d (fun c => ?_) (fun c => ?_)
      · obtain ⟨a1, rfl⟩ : ∃ a1, P = [a0, a1] := by
          match P, c, ha0 with
          | [x, y], _, e => cases e; exact ⟨y, rfl⟩
          | [], c, _ => simp at c
          | [x], c, _ => simp at c
          | x :: y :: w :: r, c, _ => simp only [List.length_cons] at c; omega
        obtain ⟨n1, r1, l1⟩ := part_read (hp 1 (by simp) a1 rfl) (short a1 (by simp))
        have sa1 := short a1 (by simp)
        walk_at "y"
        refine y_intS r1 (by omega) ?_
        walk_at "y"
        refine ite_d (fun c => ?_) (fun c => ?_)
        · walk_at "y"
          rw [restr_id]
          exact k
        walk_at "y"
        refine y_intS r0 (by omega) ?_
        refine y_mul ?_ (by rcases hsg with rfl | rfl <;> omega) (by have : (10 : Nat) ^ 280 ≤ Big := by unfold Big; decide +kernel
                                                                     omega)
        walk_at "y"
        refine number_ok (by omega) (by have : (10 : Nat) ^ 280 ≤ Big := by unfold Big; decide +kernel
                                        omega) ?_
        exact fin n0 n1 (by omega) l0 l1 _
      · walk_at "y"
        refine ite_d (fun c2 => ?_) (fun c2 => ?_)
        · walk_at "y"
          rw [restr_id]
          exact k
        have lP : P.length = 1 := by
          simp only [List.length_map] at c c2
          omega
        obtain rfl : P = [a0] := by
          match P, lP, ha0 with
          | [x], _, e => cases e; rfl
        walk_at "y"
        refine y_intS r0 (by omega) ?_
        refine y_mul ?_ (by rcases hsg with rfl | rfl <;> omega) (by have : (10 : Nat) ^ 280 ≤ Big := by unfold Big; decide +kernel
                                                                     omega)
        walk_at "y"
        refine number_ok (by omega) (by omega) ?_
        exact fin n0 1 (by omega) l0 (by decide +kernel) _
  refine w_of ?_
  unfold q_read_number
  walk_at "y"
  cases hc : Txt.startswith z "-" with
  | true =>
    refine ite_T (by rfl) ?_
    have ec : (cutS z (some 1) none).length ≤ 280 := by
      refine Nat.le_trans ?_ hz
      rw [str_len, str_len]
      show ((((z.cps.toList.drop (HT.sIx z.length 0 (some (1 : Int)))).take (HT.sIx z.length z.length none - HT.sIx z.length 0 (some (1 : Int)))).toArray).toList).length ≤ _
      simp
      omega
    refine y_tup (y_cons (y_un (y_c (y_neg (y_cons (y_sl (y_var (y_part (y_c (y_int (y_noPart (y_sl_s (z := z) (by omega) (y_nil (y_newJ (y_gtup (y_gcons (y_name (y_gcons (y_name (y_gnil ?_))))))))))))))))))))
    exact key (-1) _ (.inr rfl) ec
  | false =>
    refine ite_F (by rfl) ?_
    refine y_tup (y_cons (y_c (y_cons (y_var (y_nil (y_newJ (y_gtup (y_gcons (y_name (y_gcons (y_name (y_gnil ?_))))))))))))
    exact key 1 _ (.inl rfl) hz
theorem read_number_ty {x : J} {t : String} {s : Sto} {Q : QJ} {R : XJ} (ht : tyJ s x = some t) (hn : isT t "str" = false) (k : R "BadNumber" [("thing", x)] s) : w_read_number [x] s Q R := by
  refine w_of ?_
  unfold q_read_number
  walk_at "y"
  refine y_isi ht ?_
  rw [hn]
  walk_at "y"
  rw [restr_id]
  exact k

/-! ## which texts are written numbers -/
def dgt (c : Nat) : Bool := decide (48 ≤ c) && decide (c ≤ 57)
def numOk : List Nat → Bool
  | [] => false
  | [c] => true
  | c :: _ => decide (c ≠ 48)
def tailOk : List Nat → Bool
  | [] => true
  | c :: b => decide (c = 47) && (b.all dgt && (numOk b && (decide (b ≠ [48]) && decide (b ≠ [49]))))
def bodyOk (r : List Nat) : Bool := numOk (r.takeWhile dgt) && tailOk (r.dropWhile dgt)
def good : List Nat → Bool
  | [] => false
  | c :: r => if c = 45 then bodyOk r && decide (r.takeWhile dgt ≠ [48]) else bodyOk (c :: r)
theorem good_cons (c : Nat) (r : List Nat) : good (c :: r) = if c = 45 then bodyOk r && decide (r.takeWhile dgt ≠ [48]) else bodyOk (c :: r) := rfl
theorem tail_cons (c : Nat) (b : List Nat) : tailOk (c :: b) = (decide (c = 47) && (b.all dgt && (numOk b && (decide (b ≠ [48]) && decide (b ≠ [49]))))) := rfl
theorem numL_head {n : Nat} (h : 0 < n) : ∃ c r, TL.numL n = c :: r ∧ 49 ≤ c ∧ c ≤ 57 := by
  induction n using Nat.strongRecOn with
  | _ n ih =>
    by_cases h10 : n < 10
    · exact ⟨48 + n, [], TL.numL_lt h10, by omega, by omega⟩
    · obtain ⟨c, r, e, h1, h2⟩ := ih (n / 10) (by omega) (by omega)
      rw [TL.numL_step (by omega), e]
      exact ⟨c, r ++ [48 + n % 10], rfl, h1, h2⟩
theorem numL_dgt {n : Nat} : ∀ c ∈ TL.numL n, dgt c = true := fun c hc => by
  have := TL.numL_digits n c hc
  unfold dgt
  rw [decide_eq_true this.1, decide_eq_true this.2]
  rfl
theorem numL_ok (n : Nat) : numOk (TL.numL n) = true := by
  by_cases h : n = 0
  · subst h; decide +kernel
  · obtain ⟨c, r, e, h1, h2⟩ := numL_head (n := n) (by omega)
    rw [e]
    cases r with
    | nil => rfl
    | cons d r => exact decide_eq_true (by omega)
theorem numL_ne48 {n : Nat} (h : 0 < n) : TL.numL n ≠ [48] := by
  obtain ⟨c, r, e, h1, h2⟩ := numL_head h
  rw [e]
  intro z
  have := (List.cons.inj z).1
  omega
theorem span_dgt : ∀ {l t : List Nat}, (∀ c ∈ l, dgt c = true) → (∀ c r, t = c :: r → dgt c = false) → (l ++ t).takeWhile dgt = l ∧ (l ++ t).dropWhile dgt = t
  | [], t, _, h => by
    cases t with
    | nil => exact ⟨rfl, rfl⟩
    | cons c r =>
      have := h c r rfl
      rw [List.nil_append, List.takeWhile_cons, List.dropWhile_cons, this]
      exact ⟨rfl, rfl⟩
  | a :: l, t, hl, h => by
    obtain ⟨h1, h2⟩ := span_dgt (fun c hc => hl c (List.mem_cons_of_mem _ hc)) h
    rw [List.cons_append, List.takeWhile_cons, List.dropWhile_cons, hl a List.mem_cons_self, h1, h2]
    exact ⟨rfl, rfl⟩
/-- a written number's signs, in parts -/
structure Parts (l : List Nat) (sg : List Nat) (n : Nat) (tl : List Nat) : Prop where
  eq : l = sg ++ (TL.numL n ++ tl)
  sg : sg = [] ∨ (sg = [45] ∧ 0 < n)
  tl : tl = [] ∨ ∃ m, 2 ≤ m ∧ tl = 47 :: TL.numL m
theorem Parts.hd {l sg tl : List Nat} {n : Nat} (h : Parts l sg n tl) {s : List Nat} (hs : ∀ c r, s = c :: r → dgt c = false) : ∀ c r, tl ++ s = c :: r → dgt c = false := by
  intro c r e
  rcases h.tl with z | ⟨m, _, z⟩
  · rw [z] at e; exact hs c r e
  · rw [z] at e
    cases e
    rfl
theorem wtext_parts {p q : Int} (h : Lo p q) : Parts (wtext p q).cps.toList (if p < 0 then [45] else []) p.natAbs (if q = 1 then [] else 47 :: TL.numL q.natAbs) := by
  refine ⟨?_, ?_, ?_⟩
  · rw [wtext_l, join_abs]
    by_cases c : q = 1
    · rw [if_pos c, if_pos c, List.append_nil]
    · rw [if_neg c, if_neg c, intT_l]
      unfold intL
      rw [if_neg (show ¬ q < 0 by have := h.1; omega)]
  · by_cases c : p < 0
    · rw [if_pos c]; exact .inr ⟨rfl, by omega⟩
    · rw [if_neg c]; exact .inl rfl
  · by_cases c : q = 1
    · rw [if_pos c]; exact .inl rfl
    · rw [if_neg c]; exact .inr ⟨q.natAbs, by have := h.1; omega, rfl⟩
theorem numL_cons (n : Nat) : ∃ c r, TL.numL n = c :: r ∧ 48 ≤ c ∧ c ≤ 57 := by
  cases e : TL.numL n with
  | nil => exact absurd e (TL.numL_ne n)
  | cons c r => exact ⟨c, r, rfl, TL.numL_digits n c (by rw [e]; exact List.mem_cons_self)⟩
theorem good_sg {sg : List Nat} {n : Nat} {x : List Nat} (h : sg = [] ∨ (sg = [45] ∧ 0 < n)) (g : good (sg ++ (TL.numL n ++ x)) = true) : bodyOk (TL.numL n ++ x) = true := by
  rcases h with rfl | ⟨rfl, _⟩
  · obtain ⟨c, r, e, h1, h2⟩ := numL_cons n
    rw [List.nil_append, e, List.cons_append] at g
    rw [good_cons, if_neg (by omega)] at g
    rw [e, List.cons_append]
    exact g
  · show bodyOk _ = true
    rw [List.cons_append, good_cons, if_pos rfl, Bool.and_eq_true] at g
    exact g.1
theorem good_wtext {p q : Int} (h : Lo p q) : good (wtext p q).cps.toList = true := by
  have P := wtext_parts h
  generalize (if p < 0 then [45] else []) = sg at P
  generalize p.natAbs = n at P
  generalize (if q = 1 then [] else 47 :: TL.numL q.natAbs) = tl at P
  have sp := span_dgt (l := TL.numL n) (t := tl) numL_dgt (by have := P.hd (s := []) (fun c r e => nomatch e); rw [List.append_nil] at this; exact this)
  have bo : bodyOk (TL.numL n ++ tl) = true := by
    unfold bodyOk
    rw [sp.1, sp.2, numL_ok, Bool.true_and]
    rcases P.tl with rfl | ⟨m, hm, rfl⟩
    · rfl
    · rw [tail_cons, show decide (47 = 47) = true from rfl, List.all_eq_true.mpr numL_dgt, numL_ok, Bool.true_and, Bool.true_and, Bool.true_and, decide_eq_true (numL_ne48 (by omega)), Bool.true_and]
      refine decide_eq_true fun z => ?_
      have : TL.numL m = TL.numL 1 := z
      have := TL.numL_inj this
      omega
  rw [P.eq]
  rcases P.sg with rfl | ⟨rfl, h0⟩
  · obtain ⟨c, r, e, h1, h2⟩ := numL_cons n
    rw [List.nil_append, e, List.cons_append]
    rw [good_cons, if_neg (by omega)]
    rw [e, List.cons_append] at bo
    exact bo
  · rw [List.cons_append, List.nil_append]
    rw [good_cons, if_pos rfl, bo, sp.1, decide_eq_true (numL_ne48 h0)]
    rfl
/-- a text that is no written number -/
def NoNum (z : Str) : Prop := ∀ p q, Nw p q → wtext p q ≠ z
theorem no_good {z : Str} (h : good z.cps.toList = false) : NoNum z := fun p q w e => by
  have := good_wtext w.1
  rw [e, h] at this
  cases this
theorem no_behind {l sg tl : List Nat} {n : Nat} (P : Parts l sg n tl) {c : Nat} {b : List Nat} (hc : dgt c = false) (hb : tailOk (c :: b) = false) : good (l ++ c :: b) = false := by
  cases g : good (l ++ c :: b) with
  | false => rfl
  | true =>
    rw [P.eq, List.append_assoc, List.append_assoc] at g
    have bo := good_sg P.sg g
    have sp := span_dgt (l := TL.numL n) (t := tl ++ c :: b) numL_dgt (P.hd fun c' r e => by cases e; exact hc)
    unfold bodyOk at bo
    rw [sp.1, sp.2, numL_ok, Bool.true_and] at bo
    rcases P.tl with rfl | ⟨m, hm, rfl⟩
    · rw [List.nil_append, hb] at bo
      cases bo
    · rw [List.cons_append, tail_cons, Bool.and_eq_true, Bool.and_eq_true, List.all_eq_true] at bo
      have := bo.2.1 c (List.mem_append_right _ List.mem_cons_self)
      rw [hc] at this
      cases this
theorem no_ahead {c : Nat} {l : List Nat} (hc : dgt c = false) (h45 : c ≠ 45) : good (c :: l) = false := by
  rw [good_cons, if_neg h45]
  unfold bodyOk
  rw [List.takeWhile_cons, hc]
  rfl
theorem body_ahead {c : Nat} {l : List Nat} (hc : dgt c = false) : good (45 :: c :: l) = false := by
  rw [good_cons, if_pos rfl]
  unfold bodyOk
  rw [List.takeWhile_cons, hc]
  rfl
theorem body_zero {x : List Nat} (h : ∀ c r, x = c :: r → c ≠ 47) (hx : x ≠ []) : bodyOk (48 :: x) = false := by
  cases x with
  | nil => exact absurd rfl hx
  | cons c r =>
    unfold bodyOk
    rw [List.takeWhile_cons, List.dropWhile_cons, show dgt 48 = true from rfl]
    simp only [if_true]
    rw [List.takeWhile_cons, List.dropWhile_cons]
    cases hc : dgt c with
    | true =>
      simp only [if_true]
      show (decide (48 ≠ 48) && _) = false
      rfl
    | false =>
      simp only [Bool.false_eq_true, if_false]
      show (_ && tailOk (c :: r)) = false
      rw [tail_cons, decide_eq_false (h c r rfl), Bool.false_and, Bool.and_false]
theorem Parts.first {l sg tl : List Nat} {n : Nat} (P : Parts l sg n tl) : ∃ c r, l = c :: r ∧ c ≠ 47 := by
  rw [P.eq]
  rcases P.sg with rfl | ⟨rfl, _⟩
  · obtain ⟨c, r, e, h1, h2⟩ := numL_cons n
    exact ⟨c, r ++ tl, by rw [e]; rfl, by omega⟩
  · exact ⟨45, _, rfl, by decide⟩
theorem frac_no {z : Str} {n m : Nat} (hz : z.cps.toList = TL.numL n ++ 47 :: TL.numL m ∨ z.cps.toList = 45 :: (TL.numL n ++ 47 :: TL.numL m)) (g : Nat.gcd n m ≠ 1) : NoNum z := by
  intro p q w e
  have P := wtext_parts w.1
  rw [e] at P
  have s1 := span_dgt (l := TL.numL n) (t := 47 :: TL.numL m) numL_dgt (fun c r e => by cases e; rfl)
  have s2 := span_dgt (l := TL.numL p.natAbs) (t := if q = 1 then [] else 47 :: TL.numL q.natAbs) numL_dgt (by have := P.hd (s := []) (fun c r e => nomatch e); rw [List.append_nil] at this; exact this)
  have key : TL.numL n ++ 47 :: TL.numL m = TL.numL p.natAbs ++ (if q = 1 then [] else 47 :: TL.numL q.natAbs) := by
    have pe := P.eq
    obtain ⟨c, r, e1, h1, h2⟩ := numL_cons n
    obtain ⟨d, u, e2, h3, h4⟩ := numL_cons p.natAbs
    rcases hz with hz | hz
    · rw [hz] at pe
      rcases P.sg with sg | ⟨sg, _⟩
      · rw [sg] at pe; exact pe
      · rw [sg, e1] at pe
        have := (List.cons.inj pe).1
        omega
    · rw [hz] at pe
      rcases P.sg with sg | ⟨sg, _⟩
      · rw [sg, e2] at pe
        have := (List.cons.inj pe).1
        omega
      · rw [sg] at pe
        exact (List.cons.inj pe).2
  have t1 := congrArg (List.takeWhile dgt) key
  have t2 := congrArg (List.dropWhile dgt) key
  rw [s1.1, s2.1] at t1
  rw [s1.2, s2.2] at t2
  have en := TL.numL_inj t1
  by_cases c : q = 1
  · rw [if_pos c] at t2; cases t2
  · rw [if_neg c] at t2
    have em := TL.numL_inj (List.cons.inj t2).2
    have := w.1.2
    unfold Int.gcd at this
    rw [← en, ← em] at this
    exact g this

/-! ## the law's wrong things -/
def Bad (x : J) : Prop := (∃ d, ShwJ x d) ∧ ∀ (s : Sto) (Q : QJ) (R : XJ), R "BadNumber" [("thing", x)] s → w_read_number [x] s Q R
def Asc (z : Str) : Prop := ∀ c ∈ z.cps.toList, c < 128
theorem Asc.add {y z : Str} (h : Asc y) (g : Asc z) : Asc (y ++ z) := fun c hc => by
  rw [str_add] at hc
  rcases List.mem_append.mp hc with hc | hc
  · exact h c hc
  · exact g c hc
theorem Asc.ok {z : Str} {n : Nat} (h : Asc z) (hl : z.length ≤ 1000) : J.okd n (.str z) = true := by
  unfold J.okd
  rw [Bool.and_eq_true]
  refine ⟨decide_eq_true (by omega), ?_⟩
  rw [Array.all_eq_true']
  intro c hc
  have := h c (by simpa using hc)
  exact decide_eq_true (by omega)
theorem bad_str {z : Str} (hz : z.length ≤ 280) (a : Asc z) (h : NoNum z) : Bad (.str z) :=
  ⟨shw_of (a.ok (by omega)) (by unfold wtJ; omega), fun _ _ _ k => read_number_no hz h k⟩
theorem bad_ty {x : J} {t : String} (ht : ∀ s, tyJ s x = some t) (hn : isT t "str" = false) (o : x.ok = true) (w : wtJ x ≤ 10000000) : Bad x := ⟨shw_of o w, fun s _ _ k => read_number_ty (ht s) hn k⟩
theorem lis_refused_ok {x : J} {s : Sto} {Q : QJ} {R : XJ} (h : Bad x) (k : Q (.bl true) s) : w_lis_refused [x] s Q R := by
  obtain ⟨⟨d, w⟩, h⟩ := h
  refine w_of ?_
  unfold q_lis_refused
  walk_at "y"
  refine h _ _ _ ?_
  refine y_xr1 fun a dd ha => ?_
  walk_at "y"
  refine y_repr w ?_
  walk_at "y"
  refine y_repr w ?_
  refine y_eq_s ?_
  rw [decide_eq_true rfl, restr_id]
  exact k
theorem y_add_c {s : Sto} {Q : QJ} {y z : Str} (h1 : y.length ≤ 1000) (h2 : z.length ≤ 1000) (q : Q (.str (y ++ z)) s) : addJ (.str y) (.str z) s Q := y_add_s (by omega) q
theorem cut1_l {z : Str} : (cutS z (some 1) none).cps.toList = z.cps.toList.drop 1 := by
  show ((((z.cps.toList.drop (HT.sIx z.length 0 (some (1 : Int)))).take (HT.sIx z.length z.length none - HT.sIx z.length 0 (some (1 : Int)))).toArray).toList) = _
  have e1 : HT.sIx z.length 0 (some (1 : Int)) = min 1 z.length := by rw [show (1 : Int) = ((1 : Nat) : Int) from rfl, HT.sIx_nat]
  rw [e1, HT.sIx_none]
  have lz := str_len z
  cases h : z.cps.toList with
  | nil => simp
  | cons c r =>
    rw [h, List.length_cons] at lz
    rw [show min 1 z.length = 1 from by omega, List.drop_one, List.tail_cons]
    show (r.take (z.length - 1)) = r
    exact List.take_of_length_le (by omega)
theorem wtext_asc {p q : Int} (h : Lo p q) : Asc (wtext p q) := by
  have P := wtext_parts h
  intro c hc
  rw [P.eq] at hc
  have dg : ∀ n, ∀ c ∈ TL.numL n, c < 128 := fun n c hc => by have := TL.numL_digits n c hc; omega
  rcases List.mem_append.mp hc with hc | hc
  · rcases P.sg with e | ⟨e, _⟩
    · rw [e] at hc; cases hc
    · rw [e] at hc; rw [List.mem_singleton.mp hc]; decide
  · rcases List.mem_append.mp hc with hc | hc
    · exact dg _ c hc
    · rcases P.tl with e | ⟨m, _, e⟩
      · rw [e] at hc; cases hc
      · rw [e] at hc
        rcases List.mem_cons.mp hc with rfl | hc
        · decide
        · exact dg _ c hc
theorem pj_ok {p q : Int} (n : Nat) : J.okd (n + 1) (pj p q) = true := by unfold pj; split <;> rfl
theorem pj_wt {p q : Int} (h : Nw p q) : wtJ (pj p q) ≤ 10000 := by
  have l1 := log_small h.2.1
  have l2 := log_small h.2.2
  unfold pj
  split
  · simp only [wtJ]; rw [if_pos l1]; omega
  · simp only [wtJ, wtJs]; rw [if_pos l1, if_pos l2]; omega
theorem lwrong_ok {p q : Int} {s : Sto} {Q : QJ} {R : XJ} (h : Nw p q) (hl : (wtext p q).length ≤ 260) (k : ∀ l, (∀ x ∈ l, Bad x) → Q (.lst l) s) : w_lwrong [.str (wtext p q), pj p q] s Q R := by
  have P := wtext_parts h.1
  have aT := wtext_asc h.1
  generalize hT : wtext p q = T at P aT hl
  have hT1 : T.length ≤ 1000 := by omega
  have hT2 : (Str.ofString "'" ++ T).length ≤ 1000 := by rw [str_add_len, show (Str.ofString "'").length = 1 from rfl]; omega
  have tq := str_len T
  have app : ∀ (z : Str), T.length + z.length ≤ 280 → (∀ c ∈ z.cps.toList, c < 128) → good (T ++ z).cps.toList = false → Bad (.str (T ++ z)) := fun z hz a g => bad_str (by rw [str_add_len]; exact hz) (aT.add a) (no_good g)
  have pre : ∀ (z : Str), z.length + T.length ≤ 280 → (∀ c ∈ z.cps.toList, c < 128) → good (z ++ T).cps.toList = false → Bad (.str (z ++ T)) := fun z hz a g => bad_str (by rw [str_add_len]; exact hz) (Asc.add a aT) (no_good g)
  have fix_ : ∀ (z : Str), z.length ≤ 280 → (∀ c ∈ z.cps.toList, c < 128) → good z.cps.toList = false → Bad (.str z) := fun z hz a g => bad_str hz a (no_good g)
  have zero : ∀ x : List Nat, (∃ c r, x = c :: r ∧ c ≠ 47) → bodyOk (48 :: x) = false := fun x ⟨c, r, e, n⟩ => body_zero (fun c' r' e' => by rw [e] at e'; cases e'; exact n) (by rw [e]; simp)
  obtain ⟨c0, r0, e0, n0⟩ := P.first
  have L1 : ∀ x ∈ [J.str ("+" ++ T), .str (T ++ " "), .str (" " ++ T), .str (T ++ "/1"), .str (T ++ "/"), .str ("/" ++ T), .str ("--" ++ T), .str (T ++ "//3"), .str (T ++ "/-2")], Bad x := by
    intro x hx
    simp only [List.mem_cons, List.not_mem_nil, or_false] at hx
    rcases hx with rfl | rfl | rfl | rfl | rfl | rfl | rfl | rfl | rfl
    · exact pre "+" (by rw [show Str.length "+" = 1 from rfl]; omega) (by decide +kernel) (by rw [str_add]; exact no_ahead (c := 43) rfl (by decide))
    · exact app " " (by rw [show Str.length " " = 1 from rfl]; omega) (by decide +kernel) (by rw [str_add]; exact no_behind P (c := 32) (b := []) rfl rfl)
    · exact pre " " (by rw [show Str.length " " = 1 from rfl]; omega) (by decide +kernel) (by rw [str_add]; exact no_ahead (c := 32) rfl (by decide))
    · exact app "/1" (by rw [show Str.length "/1" = 2 from rfl]; omega) (by decide +kernel) (by rw [str_add]; exact no_behind P (c := 47) (b := [49]) rfl (by decide))
    · exact app "/" (by rw [show Str.length "/" = 1 from rfl]; omega) (by decide +kernel) (by rw [str_add]; exact no_behind P (c := 47) (b := []) rfl (by decide))
    · exact pre "/" (by rw [show Str.length "/" = 1 from rfl]; omega) (by decide +kernel) (by rw [str_add]; exact no_ahead (c := 47) rfl (by decide))
    · exact pre "--" (by rw [show Str.length "--" = 2 from rfl]; omega) (by decide +kernel) (by rw [str_add]; exact body_ahead (c := 45) rfl)
    · exact app "//3" (by rw [show Str.length "//3" = 3 from rfl]; omega) (by decide +kernel) (by rw [str_add]; exact no_behind P (c := 47) (b := [47, 51]) rfl (by decide))
    · exact app "/-2" (by rw [show Str.length "/-2" = 3 from rfl]; omega) (by decide +kernel) (by rw [str_add]; exact no_behind P (c := 47) (b := [45, 50]) rfl (by decide))
  have L2 : ∀ x ∈ [J.str ("0" ++ T), .str "-0", .str "", .str "-", .str "/", .str "1/0", .str "2/4", .str "-6/3", .str "0/5", .str "00", .str "1/02", .str "1.5", .str "1e3", .str "1_0", .str "0x1"], Bad x := by
    intro x hx
    simp only [List.mem_cons, List.not_mem_nil, or_false] at hx
    rcases hx with rfl | rfl | rfl | rfl | rfl | rfl | rfl | rfl | rfl | rfl | rfl | rfl | rfl | rfl | rfl
    · refine pre "0" (by rw [show Str.length "0" = 1 from rfl]; omega) (by decide +kernel) ?_
      rw [str_add]
      show good (48 :: T.cps.toList) = false
      rw [good_cons, if_neg (by decide)]
      exact zero _ ⟨c0, r0, e0, n0⟩
    · exact fix_ _ (by decide +kernel) (by decide +kernel) (by decide +kernel)
    · exact fix_ _ (by decide +kernel) (by decide +kernel) (by decide +kernel)
    · exact fix_ _ (by decide +kernel) (by decide +kernel) (by decide +kernel)
    · exact fix_ _ (by decide +kernel) (by decide +kernel) (by decide +kernel)
    · exact fix_ _ (by decide +kernel) (by decide +kernel) (by decide +kernel)
    · exact bad_str (by decide +kernel) (by unfold Asc; decide +kernel) (frac_no (n := 2) (m := 4) (.inl (by decide +kernel)) (by decide))
    · exact bad_str (by decide +kernel) (by unfold Asc; decide +kernel) (frac_no (n := 6) (m := 3) (.inr (by decide +kernel)) (by decide))
    · exact bad_str (by decide +kernel) (by unfold Asc; decide +kernel) (frac_no (n := 0) (m := 5) (.inl (by decide +kernel)) (by decide))
    · exact fix_ _ (by decide +kernel) (by decide +kernel) (by decide +kernel)
    · exact fix_ _ (by decide +kernel) (by decide +kernel) (by decide +kernel)
    · exact fix_ _ (by decide +kernel) (by decide +kernel) (by decide +kernel)
    · exact fix_ _ (by decide +kernel) (by decide +kernel) (by decide +kernel)
    · exact fix_ _ (by decide +kernel) (by decide +kernel) (by decide +kernel)
    · exact fix_ _ (by decide +kernel) (by decide +kernel) (by decide +kernel)
  have oT : ∀ n, J.okd n (.str T) = true := fun n => aT.ok hT1
  have ok1 : ∀ {x : J}, J.okd 59 x = true → (J.lst [x]).ok = true ∧ (J.tup [x]).ok = true := fun {x} h => by
    constructor <;> (show J.oks 59 [x] = true; rw [oks_all, List.all_cons, h]; rfl)
  have L3 : ∀ x ∈ [J.str (T ++ "x"), .str ("x" ++ T), .str (("'" ++ T) ++ "'"), .str "1 /2", .str "- 1", .str "1/2/3", pj p q, .bl true, .non, .lst [.str T], .tup [.str T]], Bad x := by
    intro x hx
    simp only [List.mem_cons, List.not_mem_nil, or_false] at hx
    rcases hx with rfl | rfl | rfl | rfl | rfl | rfl | rfl | rfl | rfl | rfl | rfl
    · exact app "x" (by rw [show Str.length "x" = 1 from rfl]; omega) (by decide +kernel) (by rw [str_add]; exact no_behind P (c := 120) (b := []) rfl rfl)
    · exact pre "x" (by rw [show Str.length "x" = 1 from rfl]; omega) (by decide +kernel) (by rw [str_add]; exact no_ahead (c := 120) rfl (by decide))
    · refine bad_str (by rw [str_add_len, str_add_len, show Str.length "'" = 1 from rfl]; omega) (((show Asc "'" by unfold Asc; decide +kernel).add aT).add (by unfold Asc; decide +kernel)) (no_good ?_)
      rw [str_add, str_add]
      exact no_ahead (c := 39) rfl (by decide)
    · exact fix_ _ (by decide +kernel) (by decide +kernel) (by decide +kernel)
    · exact fix_ _ (by decide +kernel) (by decide +kernel) (by decide +kernel)
    · exact fix_ _ (by decide +kernel) (by decide +kernel) (by decide +kernel)
    · by_cases c : q = 1
      · exact bad_ty (t := "int") (fun s => by rw [c, pj_one]; rfl) (by decide) (pj_ok 59) (by have := pj_wt h; omega)
      · exact bad_ty (t := "tuple") (fun s => by rw [pj_two c]; rfl) (by decide) (pj_ok 59) (by have := pj_wt h; omega)
    · exact bad_ty (t := "bool") (fun _ => rfl) (by decide) rfl (by decide +kernel)
    · exact bad_ty (t := "NoneType") (fun _ => rfl) (by decide) rfl (by decide +kernel)
    · exact bad_ty (t := "list") (fun _ => rfl) (by decide) (ok1 (oT _)).1 (by simp only [wtJ, wtJs]; omega)
    · exact bad_ty (t := "tuple") (fun _ => rfl) (by decide) (ok1 (oT _)).2 (by simp only [wtJ, wtJs]; omega)
  refine w_of ?_
  unfold q_lwrong
  walk_at "y"
  repeat (first
    | (refine y_add_c (by first | assumption | decide +kernel) (by first | assumption | decide +kernel) ?_; walk_at "y")
    | (refine y_add_l (by simp) ?_; walk_at "y"))
  have i0 : T.cps.toList[(0 : Int).toNat]? = some c0 := by rw [e0]; rfl
  refine y_ix_s (by omega) (atI_of (by decide) i0) ?_
  walk_at "y"
  have c45 : (Str.mk #[c0] = Str.ofString "-") ↔ c0 = 45 := by
    constructor
    · intro e
      have := congrArg (fun z : Str => z.cps.toList) e
      exact (List.cons.inj this).1
    · rintro rfl; rfl
  refine ite_d (fun c => ?_) (fun c => ?_)
  · have e45 := c45.mp c
    subst e45
    have dr : T.cps.toList.drop 1 = TL.numL p.natAbs ++ (if q = 1 then [] else 47 :: TL.numL q.natAbs) := by
      rw [P.eq]
      rcases P.sg with e | ⟨e, _⟩
      · have e0' := e0
        rw [P.eq, e] at e0'
        obtain ⟨d, r, e1, h1, h2⟩ := numL_cons p.natAbs
        rw [List.nil_append, e1] at e0'
        have := (List.cons.inj e0').1
        omega
      · rw [e]; rfl
    obtain ⟨d1, r1, e1, h1, h2⟩ := numL_cons p.natAbs
    have ch := @cut1_l T
    have lc : (cutS T (some 1) none).length ≤ T.length := by rw [str_len, ch, List.length_drop, ← str_len]; omega
    have lc1 : (cutS T (some 1) none).length ≤ 1000 := by omega
    have ac : Asc (cutS T (some 1) none) := fun c hc => by rw [ch] at hc; exact aT c (List.mem_of_mem_drop hc)
    rw [dr, e1] at ch
    walk_at "y"
    refine y_sl_s (by omega) ?_
    refine y_add_c (by decide +kernel) lc1 ?_
    walk_at "y"
    refine y_sl_s (by omega) ?_
    refine y_add_c (by decide +kernel) lc1 ?_
    walk_at "y"
    refine y_sl_s (by omega) ?_
    refine y_add_c (by decide +kernel) lc1 ?_
    walk_at "y"
    refine y_add_l (by simp) ?_
    rw [restr_id]
    refine k _ fun x hx => ?_
    rcases List.mem_append.mp hx with hx | hx
    · rcases List.mem_append.mp hx with hx | hx
      · rcases List.mem_append.mp hx with hx | hx
        · exact L1 x hx
        · exact L2 x hx
      · exact L3 x hx
    · have a1 : Asc "-0" := by unfold Asc; decide +kernel
      have a2 : Asc "+" := by unfold Asc; decide +kernel
      have a3 : Asc "- " := by unfold Asc; decide +kernel
      simp only [List.mem_cons, List.not_mem_nil, or_false] at hx
      rcases hx with rfl | rfl | rfl
      · refine bad_str (by rw [str_add_len, show Str.length "-0" = 2 from rfl]; omega) (a1.add ac) (no_good ?_)
        rw [str_add, ch]
        show good (45 :: 48 :: (d1 :: r1 ++ if q = 1 then [] else 47 :: TL.numL q.natAbs)) = false
        rw [good_cons, if_pos rfl, zero (d1 :: r1 ++ if q = 1 then [] else 47 :: TL.numL q.natAbs) ⟨d1, _, rfl, by omega⟩]
        rfl
      · refine bad_str (by rw [str_add_len, show Str.length "+" = 1 from rfl]; omega) (a2.add ac) (no_good ?_)
        rw [str_add]
        exact no_ahead (c := 43) rfl (by decide)
      · refine bad_str (by rw [str_add_len, show Str.length "- " = 2 from rfl]; omega) (a3.add ac) (no_good ?_)
        rw [str_add]
        exact body_ahead (c := 32) rfl
  · walk_at "y"
    refine y_add_c (by decide +kernel) hT1 ?_
    walk_at "y"
    refine y_add_l (by simp) ?_
    rw [restr_id]
    refine k _ fun x hx => ?_
    rcases List.mem_append.mp hx with hx | hx
    · rcases List.mem_append.mp hx with hx | hx
      · rcases List.mem_append.mp hx with hx | hx
        · exact L1 x hx
        · exact L2 x hx
      · exact L3 x hx
    · have a1 : Asc "-0" := by unfold Asc; decide +kernel
      rw [List.mem_singleton.mp hx]
      refine bad_str (by rw [str_add_len, show Str.length "-0" = 2 from rfl]; omega) (a1.add aT) (no_good ?_)
      rw [str_add]
      show good (45 :: 48 :: T.cps.toList) = false
      rw [good_cons, if_pos rfl, zero _ ⟨c0, r0, e0, n0⟩]
      rfl
theorem ltext_ok {p q : Int} {s : Sto} {Q : QJ} {R : XJ} (h : Nw p q) (k : Q (.str (wtext p q)) s) : w_ltext_of [pj p q] s Q R := by
  refine w_of ?_
  unfold q_ltext_of
  unfold wtext at k
  unfold pj
  split
  · next e =>
    rw [if_pos e] at k
    walk_at "y"
    refine y_str_i h.2.1 ?_
    rw [restr_id]
    exact k
  · next e =>
    rw [if_neg e] at k
    have s1 := intT_small h.2.1
    have s2 := intT_small h.2.2
    walk_at "y"
    refine y_str_i h.2.1 ?_
    walk_at "y"
    refine y_add_c (show (intT p).length ≤ 1000 by omega) (by decide +kernel) ?_
    walk_at "y"
    refine y_str_i h.2.2 ?_
    refine y_add_c (show (intT p ++ "/").length ≤ 1000 by rw [str_add_len, show (Str.ofString "/").length = 1 from rfl]; omega) (show (intT q).length ≤ 1000 by omega) ?_
    rw [restr_id]
    exact k
theorem is_int_ok {i : Int} {s : Sto} {Q : QJ} {R : XJ} (k : Q (.bl true) s) : w_lis_int [.int i] s Q R := by
  refine w_of ?_
  unfold q_lis_int
  walk_at "y"
  rw [restr_id]
  exact k
theorem lsame_ok {p q : Int} {s : Sto} {Q : QJ} {R : XJ} (k : Q (.bl true) s) : w_lsame [pj p q, pj p q] s Q R := by
  refine w_of ?_
  unfold q_lsame
  unfold pj
  split
  · walk_at "y"
    refine is_int_ok ?_
    walk_at "y"
    rw [decide_eq_true rfl, restr_id]
    exact k
  · walk_at "y"
    refine is_int_ok ?_
    walk_at "y"
    refine is_int_ok ?_
    walk_at "y"
    refine y_eq_t rfl rfl ?_
    have e : eqJ (.tup [.int p, .int q]) (.tup [.int p, .int q]) = true := by
      unfold eqJ J.py J.pys J.pys J.pys J.py PyData.eqv PyData.eqvAll PyData.eqvAll PyData.eqvAll
      simp [PyData.eqv]
    rw [e, restr_id]
    exact k
theorem take_big {s : Sto} {b : Addr} {n : Nat} {many : Int} {Q : QJ} {R : XJ} (hb : BagJ s b n) (hn : n ≤ 1000000000) (h0 : 0 < many) (h1 : many.natAbs < Big)
    (q : ∀ (d : Int) s', 0 ≤ d → d < many → Chg b s s' → BagJ s' b (n + 1) → Q (.int d) s') : w_ltake [.own b, .int many] s Q R := by
  obtain ⟨L, M, c, e, m0, m1, c0, c1⟩ := hb
  have hB := big_le
  refine w_of ?_
  unfold q_ltake
  walk_at "y"
  refine ite_d (fun c => ?_) (fun c => ?_)
  · walk_at "y"
    rw [restr_put e, restr_id]
    exact q _ _ (Int.emod_nonneg _ (by omega)) (Int.emod_lt_of_pos _ h0) ⟨_, rfl⟩ ⟨_, _, _, put_same, m0, m1, c0, by omega⟩
  · walk_at "y"
    rw [restr_put e, restr_id]
    exact q _ _ (Int.emod_nonneg _ (by omega)) (Int.emod_lt_of_pos _ h0) ⟨_, rfl⟩ ⟨_, _, _, put_same, m0, m1, by omega, by omega⟩
theorem great_read : PySem.intText? (Str.ofString "1" ++ Txt.mul "0" 250) = some ((10 ^ 250 : Nat) : Int) ∧ (Str.ofString "1" ++ Txt.mul "0" 250).length ≤ 640 ∧ (Txt.mul "0" 250).length ≤ 1000 := by decide +kernel
theorem int_len {v : Int} (h : v.natAbs ≤ 10 ^ 250) : Nw v 1 ∧ (wtext v 1).length ≤ 260 := by
  have h1 : v.natAbs < 10 ^ 251 := Nat.lt_of_le_of_lt h (by decide +kernel)
  have nw : Nw v 1 := ⟨⟨by omega, by simp⟩, Nat.lt_of_lt_of_le h1 (by decide +kernel), by decide +kernel⟩
  refine ⟨nw, ?_⟩
  have e : wtext v 1 = intT v := if_pos rfl
  rw [e, str_len, intT_l]
  have l := TL.numL_len (n := v.natAbs) (k := 251) (by decide) h1
  unfold intL
  split
  · rw [List.length_cons]; omega
  · omega
theorem frac_len {p q : Int} (h : Nw p q) (h1 : p.natAbs ≤ 10 ^ 20) (h2 : q.natAbs ≤ 10 ^ 9) : (wtext p q).length ≤ 260 := by
  have P := wtext_parts h.1
  have l1 := TL.numL_len (n := p.natAbs) (k := 21) (by decide) (Nat.lt_of_le_of_lt h1 (by decide))
  have l2 := TL.numL_len (n := q.natAbs) (k := 10) (by decide) (Nat.lt_of_le_of_lt h2 (by decide))
  rw [str_len, P.eq, List.length_append, List.length_append]
  have a : (if p < 0 then [45] else []).length ≤ 1 := by split <;> simp
  have b : (if q = 1 then [] else 47 :: TL.numL q.natAbs).length ≤ 11 := by
    split
    · simp
    · rw [List.length_cons]; omega
  omega
theorem turn_ok {n bk ct : Rho → Sto → Prop} {rt : QJ} {xr : Rho → XJ} {p q : Int} {s : Sto} {x0 x1 x2 x4 x5 x6 x7 : Option J} (nw : Nw p q) (hl : (wtext p q).length ≤ 260) (k : ∀ y5 y6 y7, n [x0, x1, x2, some (pj p q), x4, y5, y6, y7] s) :
    (jSeq (jAsg (jCall w_ltext_of [] (jCons (jVar 3) jNil)) (jgName 5)) (jSeq (jAsg (jCall w_written [] (jCons (jVar 3) jNil)) (jgName 6)) b3_law)) (EJ.mk n rt bk ct xr) [x0, x1, x2, some (pj p q), x4, x5, x6, x7] s := by
  walk_at "y"
  refine ltext_ok nw ?_
  walk_at "y"
  refine written_ok nw ?_
  walk_at "y"
  rw [decide_eq_true rfl]
  walk_at "y"
  refine read_number_ok nw ?_
  walk_at "y"
  refine lsame_ok ?_
  walk_at "y"
  refine lwrong_ok nw hl fun l bad => ?_
  walk_at "y"
  refine for_inv (fun _ ρ s' => s' = s ∧ ∃ y7, ρ = [x0, x1, x2, some (pj p q), x4, some (.str (wtext p q)), some (.str (wtext p q)), y7]) ⟨rfl, _, rfl⟩ (fun _ _ _ _ _ => trivial) ?_ ?_
  · rintro j x ρ s' N' hx ⟨rfl, y7, rfl⟩ hN'
    walk_at "y"
    refine lis_refused_ok (bad x (List.mem_of_getElem? hx)) ?_
    walk_at "y"
    exact hN' _ _ ⟨rfl, _, rfl⟩
  · rintro ρ s' ⟨rfl, y7, rfl⟩
    walk_at "y"
    refine written_ok nw ?_
    walk_at "y"
    refine read_number_ok nw ?_
    walk_at "y"
    refine lsame_ok ?_
    walk_at "y"
    exact k _ _ _
theorem law_ok {ns : List Int} (hl : ns.length ≤ 63) (_ : ∀ z ∈ ns, Builtin.Int.intBits z ≤ 1048576) : ∀ s, w_law [.scr ns] s (fun d _ => d = .bl true) No := by
  intro s
  refine w_of ?_
  unfold q_law
  walk_at "y"
  refine y_rngJ (by omega) ?_
  have hn : ((List.range (max 1 (min 6 (ns.length : Int))).toNat).map fun (i : Nat) => J.int ((i : Nat) : Int)).length = (max 1 (min 6 (ns.length : Int))).toNat := by simp
  refine for_inv (fun i ρ s' => ∃ x1 x2 x3 x4 x5 x6 x7, ρ = [some (.scr ns), x1, x2, x3, x4, x5, x6, x7]) ⟨_, _, _, _, _, _, _, rfl⟩ (fun _ _ _ _ _ => trivial) ?_ ?_
  · rintro i x ρ s1 N hx ⟨x1, x2, x3, x4, x5, x6, x7, rfl⟩ hN
    have hi : i < (max 1 (min 6 (ns.length : Int))).toNat := by rw [← hn]; exact (List.getElem?_eq_some_iff.mp hx).1
    rw [List.getElem?_map, List.getElem?_range hi] at hx
    cases hx
    walk_at "y"
    refine bag_ok (by omega) (by omega) fun b o hb0 hb => ?_
    generalize put s1 b o = s2 at *
    walk_at "y"
    refine number_drawK hb (by omega) fun p q s3 nw hp hq ch3 hb3 => ?_
    walk_at "y"
    refine take_ok hb3 (by omega) (by decide) (by decide) fun d s4 d0 d1 ch4 hb4 => ?_
    walk_at "y"
    refine ite_d (fun c => ?_) (fun c => ?_)
    · obtain ⟨g1, g2, g3⟩ := great_read
      walk_at "y"
      refine y_mulS (by unfold MulOk; decide +kernel) ?_
      refine y_add_c (by decide +kernel) g3 ?_
      walk_at "y"
      refine y_intS g1 g2 ?_
      have hB : 10 ^ 251 ≤ Big := by unfold Big; decide +kernel
      have t250 : (10 : Nat) ^ 251 = 10 * 10 ^ 250 := Nat.pow_succ'
      have b2 : 2 < Big := by have := big_le; omega
      walk_at "y"
      generalize hG : (10 : Nat) ^ 250 = G at *
      refine take_big hb4 (by omega) (by omega) (by omega) fun v s5 v0 v1 ch5 hb5 => ?_
      refine y_var (y_sub (y_name ?_))
      obtain ⟨nv, lv⟩ := int_len (v := v - (G : Int)) (by rw [hG]; omega)
      have e := pj_one (v - (G : Int))
      rw [← e]
      exact turn_ok nv lv fun y5 y6 y7 => hN _ _ ⟨_, _, _, _, _, _, _, rfl⟩
    · refine y_next ?_
      exact turn_ok nw (frac_len nw hp hq) fun y5 y6 y7 => hN _ _ ⟨_, _, _, _, _, _, _, rfl⟩
  · rintro ρ s1 ⟨x1, x2, x3, x4, x5, x6, x7, rfl⟩
    walk_at "y"
    rfl

end T
open PySem PySem.W PySem.Calls PyProof.Rows
theorem PySem.Challenge.cw_mendrounds_k03_numbers_written_and_read_holds : PySem.Challenge.rw_mendrounds_k03_numbers_written_and_read.Holds := by
  w_on; o_law
  refine HandSHeadRun.head_any (r := T.Ro) (q := view T.Ro.prog [19]) (H := T.hk) (ob := T.ob) (M := 12000) (loose := T.loose) (d := HandSHeadRun.topDef T.Ro.prog 19) (kwd := []) T.ob_eq
    (by kernel_rfl) (fun s => by kernel_rfl) T.run (by kernel_rfl) (by kernel_rfl) (by kernel_rfl) (by rfl) (by first | assumption | decide +kernel) (by decide +kernel) ⟨rfl, rfl, rfl, rfl, rfl, by decide +kernel⟩ ?hw ?hc
  case hw => w_witness2
  case hc =>
    refine M.walkG (l := PySem.Challenge.rw_mendrounds_k03_numbers_written_and_read) (n := 63) (k := 6) (x := "_law_script") rfl (by decide) (by kernel_rfl) ⟨rfl, by decide, by decide⟩ fun w mg f h Y G hmg0 => ?_
    obtain ⟨K, KX, c⟩ := Y
    have hmg : mg ("law" : PySem.Str) = some (.ref f) := by
      have e : (HandSHeadRun.topDef T.Ro.prog 19).name = ("law" : PySem.Str) := by kernel_rfl
      rw [← e]
      exact hmg0
    have X := T.txt_of (w := w) KX G c.t.d c.more
    have ef := hmg.symm.trans X.g_law
    cases ef
    obtain ⟨fd, F⟩ := X.f_law
    have b := L2.FunD.bindsA (ps := ["_law_script"]) F fun _ _ _ _ _ _ us hl => match us, hl with | [_], _ => rfl
    exact ⟨K, fd, M.spJ K T.w_law, KX, (fun s v => b s [v] rfl), (fun H a ns hl hb hS => M.law_endJ (T.law_ok hl hb) hS fun _ => rfl), fun base hb hm => T.fn_law X F⟩
