import PyProof.Rows.All
import HandS.ForMost
import HandS.ForExc
import HandS.CallSlots
import HandS.TryMany
import HandS.TupAny
import HandS.TupMul
import HandS.Deep
import HandS.IsInst
import HandS.Zip
import HandS.Conv
import HandS.SortInts
import HandS.ExcIs
import HandS.Flow
import KE.KDictKeyed
import KE.GoesNew
import KE.DataFind
import KE.SortData
import HandS.More
import HandS.Sort
import HandS.SetFor
import HandS.Set
import HandS.Strs
import HandS.Head0
import HandS.Head1
import HandS.Head2
import HandS.HeadEnd
import HandS.HeadHook1
import HandS.HeadHook2
import HandS.HeadHook3
import HandS.HeadHook4
import HandS.Ends
import HandS.Defaults
import KE.KStateDown
import PySem.Challenge.RW_doorcounters_k12_moves
set_option Elab.async false
set_option linter.all false
set_option maxRecDepth 100000
set_option maxHeartbeats 0
namespace DD
open PySem PySem.Spec PyProof.Rows L2

abbrev D := PyData

/-- a dict's key as data -/
def keyD : Key → D
  | .inl i => .int i
  | .inr x => .str x

/-! ### keys that are tuples of ints, nested -/
mutual
def keyN : D → Option NestedKey
  | .int i => some (.num i)
  | .tuple ds => (match keyNs ds with
    | some ks => some (.tup ks)
    | none => none)
  | .none => none
  | .bool _ => none
  | .str _ => none
  | .list _ => none
  | .dict _ => none
def keyNs : List D → Option (List NestedKey)
  | [] => some []
  | d :: ds => (match keyN d with
    | some k => (match keyNs ds with
      | some ks => some (k :: ks)
      | none => none)
    | none => none)
end
/-- a tuple that serves as a key -/
def keyT : D → Option NestedKey
  | .tuple ds => (match keyNs ds with
    | some ks => if (NestedKey.tup ks).depth ≤ 8 then some (.tup ks) else none
    | none => none)
  | _ => none
theorem keyT_N {d : D} {k : NestedKey} (h : keyT d = some k) : keyN d = some k ∧ k.depth ≤ 8 ∧ ∃ ks, k = .tup ks := by
  cases d with
  | tuple ds =>
    unfold keyT at h
    dsimp only at h
    cases e : keyNs ds with
    | none => rw [e] at h; cases h
    | some ks =>
      rw [e] at h
      dsimp only at h
      split at h
      · rename_i hz
        cases h
        refine ⟨?_, hz, ks, rfl⟩
        unfold keyN
        rw [e]
      · cases h
  | _ => cases h
/-- the dict's own object -/
abbrev KO (a : Addr) (oc : Obj) : HO := .ext fun h => h.get? a = some oc
/-- the object of a dict with such keys -/
structure KFx (a : Addr) (oc : Obj) (xs : List (NestedKey × Addr × Value)) : Prop where
  nsm : (a == sysModules) = false
  ex : oc.ExactDict
  es : ∃ es ep, oc.data = .dict es ep ∧ ∀ (P : Program) (w : World), es.toList = xs.map (entryOfKey (nestedKind P w))
  nd : (xs.map (·.1)).Nodup
  len : xs.length ≤ sizeLine
  ne : xs ≠ []

mutual
inductive Dd (K : PySem.W.Frag) (H : Hp) : V → D → Prop
  | non : Dd K H .non .none
  | bl (b : Bool) : Dd K H (.bl b) (.bool b)
  | int (i : Int) : Dd K H (.int i) (.int i)
  | str (x : Str) : Dd K H (.str x) (.str x)
  | lst {a : Addr} {xs : List V} {ds : List D} : Rd H a (.lst xs) → Dds K H xs ds → Dd K H (.ref a) (.list ds)
  | tup {a : Addr} {o : Obj} {xs : List V} {ds : List D} : H a = some (.frz o (.tup xs)) → o.dict = none → Dds K H xs ds → Dd K H (.ref a) (.tuple ds)
  | dic {a : Addr} {o : Obj} {kvs : List (Key × V)} {ds : List (D × D)} : H a = some (.frz o (.dK kvs)) → Ddk K H kvs ds → Dd K H (.ref a) (.dict ds)
  | kd {a : Addr} {oc : Obj} {xs : List (NestedKey × Addr × Value)} {ds : List (D × D)} : H a = some (KO a oc) → KFx a oc xs → Kdk K H xs ds → Dd K H (.ref a) (.dict ds)
inductive Kdk (K : PySem.W.Frag) (H : Hp) : List (NestedKey × Addr × Value) → List (D × D) → Prop
  | nil : Kdk K H [] []
  | cons {k : NestedKey} {b : Addr} {u : Value} {v : V} {kd d : D} {r : List (NestedKey × Addr × Value)} {s : List (D × D)} : Dd K H (.ref b) kd → keyT kd = some k → RelV v u → Dd K H v d → Kdk K H r s → Kdk K H ((k, b, u) :: r) ((kd, d) :: s)
inductive Dds (K : PySem.W.Frag) (H : Hp) : List V → List D → Prop
  | nil : Dds K H [] []
  | cons {v : V} {vs : List V} {d : D} {ds : List D} : Dd K H v d → Dds K H vs ds → Dds K H (v :: vs) (d :: ds)
inductive Ddk (K : PySem.W.Frag) (H : Hp) : List (Key × V) → List (D × D) → Prop
  | nil : Ddk K H [] []
  | cons {k : Key} {v : V} {d : D} {r : List (Key × V)} {s : List (D × D)} : Dd K H v d → Ddk K H r s → Ddk K H ((k, v) :: r) ((keyD k, d) :: s)
end

theorem same_rd {H H' : Hp} {a : Addr} {u : HO} (e : Same H H') (h : Rd H a u) : Rd H' a u := by
  rcases h with h | ⟨o, h⟩
  · exact .inl (e _ _ h)
  · exact .inr ⟨o, e _ _ h⟩

mutual
theorem Dd.mono {K : PySem.W.Frag} {H H' : Hp} (e : Same H H') : ∀ {v : V} {d : D}, Dd K H v d → Dd K H' v d
  | _, _, .non => .non
  | _, _, .bl b => .bl b
  | _, _, .int i => .int i
  | _, _, .str x => .str x
  | _, _, .lst h r => .lst (same_rd e h) (Dds.mono e r)
  | _, _, .tup h z r => .tup (e _ _ h) z (Dds.mono e r)
  | _, _, .dic h r => .dic (e _ _ h) (Ddk.mono e r)
  | _, _, .kd h f r => .kd (e _ _ h) f (Kdk.mono e r)
theorem Kdk.mono {K : PySem.W.Frag} {H H' : Hp} (e : Same H H') : ∀ {xs : List (NestedKey × Addr × Value)} {ds : List (D × D)}, Kdk K H xs ds → Kdk K H' xs ds
  | _, _, .nil => .nil
  | _, _, .cons h1 h2 h3 h4 r => .cons (Dd.mono e h1) h2 h3 (Dd.mono e h4) (Kdk.mono e r)
theorem Dds.mono {K : PySem.W.Frag} {H H' : Hp} (e : Same H H') : ∀ {vs : List V} {ds : List D}, Dds K H vs ds → Dds K H' vs ds
  | _, _, .nil => .nil
  | _, _, .cons h r => .cons (Dd.mono e h) (Dds.mono e r)
theorem Ddk.mono {K : PySem.W.Frag} {H H' : Hp} (e : Same H H') : ∀ {vs : List (Key × V)} {ds : List (D × D)}, Ddk K H vs ds → Ddk K H' vs ds
  | _, _, .nil => .nil
  | _, _, .cons h r => .cons (Dd.mono e h) (Ddk.mono e r)
end

theorem Dds.length {K : PySem.W.Frag} {H : Hp} : ∀ {vs : List V} {ds : List D}, Dds K H vs ds → vs.length = ds.length
  | _, _, .nil => rfl
  | _, _, .cons _ r => by rw [List.length_cons, List.length_cons, Dds.length r]
theorem Dds.get {K : PySem.W.Frag} {H : Hp} : ∀ {vs : List V} {ds : List D}, Dds K H vs ds → ∀ {i : Nat} {d : D}, ds[i]? = some d → ∃ v, vs[i]? = some v ∧ Dd K H v d
  | _, _, .nil, _, _, h => by simp at h
  | _, _, .cons h r, 0, _, e => by
    simp at e; subst e; exact ⟨_, rfl, h⟩
  | _, _, .cons h r, i + 1, _, e => by
    obtain ⟨v, h1, h2⟩ := Dds.get r (i := i) (by simpa using e)
    exact ⟨v, by simpa using h1, h2⟩
theorem Dds.append {K : PySem.W.Frag} {H : Hp} : ∀ {xs ys : List V} {us ws : List D}, Dds K H xs us → Dds K H ys ws → Dds K H (xs ++ ys) (us ++ ws)
  | _, _, _, _, .nil, s => s
  | _, _, _, _, .cons r t, s => .cons r (Dds.append t s)
theorem Dds.take {K : PySem.W.Frag} {H : Hp} : ∀ {xs : List V} {us : List D} (n : Nat), Dds K H xs us → Dds K H (xs.take n) (us.take n)
  | _, _, 0, _ => by rw [List.take_zero, List.take_zero]; exact .nil
  | _, _, _ + 1, .nil => .nil
  | _, _, n + 1, .cons r t => .cons r (Dds.take n t)
theorem Dds.drop {K : PySem.W.Frag} {H : Hp} : ∀ {xs : List V} {us : List D} (n : Nat), Dds K H xs us → Dds K H (xs.drop n) (us.drop n)
  | _, _, 0, r => r
  | _, _, _ + 1, .nil => .nil
  | _, _, n + 1, .cons _ t => Dds.drop n t
theorem Dds.set {K : PySem.W.Frag} {H : Hp} {x : V} {u : D} (h : Dd K H x u) : ∀ {xs : List V} {us : List D} (n : Nat), Dds K H xs us → Dds K H (xs.set n x) (us.set n u)
  | _, _, _, .nil => .nil
  | _, _, 0, .cons _ t => .cons h t
  | _, _, n + 1, .cons r t => .cons r (Dds.set h n t)
theorem Dds.reverse {K : PySem.W.Frag} {H : Hp} : ∀ {xs : List V} {us : List D}, Dds K H xs us → Dds K H xs.reverse us.reverse
  | _, _, .nil => .nil
  | _, _, .cons r t => by
    rw [List.reverse_cons, List.reverse_cons]
    exact Dds.append (Dds.reverse t) (.cons r .nil)
theorem Dds.rep {K : PySem.W.Frag} {H : Hp} {xs : List V} {us : List D} (h : Dds K H xs us) : ∀ k : Nat, Dds K H (List.replicate k xs).flatten (List.replicate k us).flatten
  | 0 => .nil
  | k + 1 => by
    rw [List.replicate_succ, List.replicate_succ, List.flatten_cons, List.flatten_cons]
    exact Dds.append h (Dds.rep h k)
theorem Dds.ints {K : PySem.W.Frag} {H : Hp} : ∀ {xs : List V} {ns : List Int}, Dds K H xs (ns.map PyData.int) → xs = ns.map V.int
  | [], [], _ => rfl
  | _ :: _, [], h => nomatch h
  | [], _ :: _, h => nomatch h
  | x :: xs, n :: ns, h => by
    cases h with
    | cons h r =>
      cases h
      rw [List.map_cons, Dds.ints r]
theorem dds_ints {K : PySem.W.Frag} {H : Hp} : ∀ (ns : List Int), Dds K H (ns.map V.int) (ns.map PyData.int)
  | [] => .nil
  | n :: ns => .cons (.int n) (dds_ints ns)

/-- a thing that may change stands at a in H, its items are settled in H0 -/
inductive MO (K : PySem.W.Frag) (H0 H : Hp) (a : Addr) : D → Prop
  | lst {xs : List V} {ds : List D} : H0 a = none → H a = some (.lst xs) → Dds K H0 xs ds → MO K H0 H a (.list ds)
  | dic {xs : List (Key × V)} {ds : List (D × D)} : H0 a = none → H a = some (.dK xs) → Ddk K H0 xs ds → MO K H0 H a (.dict ds)
  | kd {oc : Obj} {xs : List (NestedKey × Addr × Value)} {ds : List (D × D)} : H0 a = none → H a = some (KO a oc) → KFx a oc xs → Kdk K H0 xs ds → MO K H0 H a (.dict ds)

theorem MO.no {K : PySem.W.Frag} {H0 H : Hp} {a : Addr} {d : D} (h : MO K H0 H a d) : H0 a = none := by
  cases h <;> assumption
theorem MO.there {K : PySem.W.Frag} {H0 H : Hp} {a : Addr} {d : D} (h : MO K H0 H a d) : ∃ o, H a = some o := by
  cases h with
  | lst _ h _ => exact ⟨_, h⟩
  | dic _ h _ => exact ⟨_, h⟩
  | kd _ h _ _ => exact ⟨_, h⟩

/-- what may have come behind (H0, H): all stands, what is newly settled is new -/
structure Ext (H0 H H0' H' : Hp) : Prop where
  s0 : Same H0 H0'
  s : Same H H'
  sub : Same H0' H'
  new : ∀ b o, H b = some o → H0' b = H0 b
theorem Ext.refl {H0 H : Hp} (h : Same H0 H) : Ext H0 H H0 H := ⟨Same.refl _, Same.refl _, h, fun _ _ _ => rfl⟩
theorem Ext.trans {H0 H H1 H' H2 H'' : Hp} (a : Ext H0 H H1 H') (b : Ext H1 H' H2 H'') : Ext H0 H H2 H'' :=
  ⟨a.s0.trans b.s0, a.s.trans b.s, b.sub, fun c o h => (b.new c o (a.s c o h)).trans (a.new c o h)⟩
theorem MO.mono {K : PySem.W.Frag} {H0 H H0' H' : Hp} {a : Addr} {d : D} (e : Ext H0 H H0' H') (h : MO K H0 H a d) : MO K H0' H' a d := by
  cases h with
  | lst h1 h2 h3 => exact .lst (by rw [e.new _ _ h2]; exact h1) (e.s _ _ h2) (h3.mono e.s0)
  | dic h1 h2 h3 => exact .dic (by rw [e.new _ _ h2]; exact h1) (e.s _ _ h2) (h3.mono e.s0)
  | kd h1 h2 h3 h4 => exact .kd (by rw [e.new _ _ h2]; exact h1) (e.s _ _ h2) h3 (h4.mono e.s0)

/-- a new object, not settled -/
theorem ext_new {H0 H : Hp} {p : Addr} {o : HO} (h : Same H0 H) (n : H p = none) : Ext H0 H H0 (upd H p o) :=
  ⟨Same.refl _, fun b x e => by rw [upd_ne (ne_of_none e n)]; exact e, fun b x e => by
    have e' := h b x e
    rw [upd_ne (ne_of_none e' n)]; exact e', fun _ _ _ => rfl⟩
theorem not_settled {H0 H : Hp} {p : Addr} (h : Same H0 H) (n : H p = none) : H0 p = none := h.free n
/-- a new object, settled -/
theorem ext_newS {H0 H : Hp} {p : Addr} {o : HO} (h : Same H0 H) (n : H p = none) : Ext H0 H (upd H0 p o) (upd H p o) := by
  have n0 : H0 p = none := h.free n
  refine ⟨fun b x e => ?_, fun b x e => ?_, fun b x e => ?_, fun b x e => ?_⟩
  · rw [upd_ne (ne_of_none e n0)]; exact e
  · rw [upd_ne (ne_of_none e n)]; exact e
  · by_cases hb : b = p
    · subst hb; rw [upd_same] at e ⊢; exact e
    · rw [upd_ne hb] at e ⊢; exact h b x e
  · rw [upd_ne (ne_of_none e n)]

/-- no list or dict at the root -/
def flatRoot : D → Bool
  | .list _ => false
  | .dict _ => false
  | _ => true
/-- readable: settled, or a thing that may change -/
def RB (K : PySem.W.Frag) (H0 H : Hp) (v : V) (d : D) : Prop := Dd K H0 v d ∨ ∃ a, v = .ref a ∧ MO K H0 H a d
/-- the answer of an expression that is no name: settled, or new -/
def RS (n : Bool) (K : PySem.W.Frag) (H H0' H' : Hp) (v : V) (d : D) : Prop := (Dd K H0' v d ∧ (n = true → flatRoot d = true)) ∨ ∃ a, v = .ref a ∧ MO K H0' H' a d ∧ H a = none
theorem RS.rb {n : Bool} {K : PySem.W.Frag} {H H0' H' : Hp} {v : V} {d : D} (h : RS n K H H0' H' v d) : RB K H0' H' v d := by
  rcases h with ⟨h, _⟩ | ⟨a, e, m, _⟩
  · exact .inl h
  · exact .inr ⟨a, e, m⟩
theorem RB.mono {K : PySem.W.Frag} {H0 H H0' H' : Hp} {v : V} {d : D} (e : Ext H0 H H0' H') (h : RB K H0 H v d) : RB K H0' H' v d := by
  rcases h with h | ⟨a, q, m⟩
  · exact .inl (h.mono e.s0)
  · exact .inr ⟨a, q, m.mono e⟩
/-- what is new may be settled -/
theorem RS.settle {n : Bool} {K : PySem.W.Frag} {H0 H H0' H' : Hp} {v : V} {d : D} (e : Ext H0 H H0' H') (h : RS n K H H0' H' v d) (hd : ∀ kvs, d ≠ .dict kvs) : ∃ H0'', Ext H0 H H0'' H' ∧ Ext H0' H' H0' H' ∧ Same H0' H0'' ∧ (∀ b o, H b = some o → H0'' b = H0' b) ∧ Dd K H0'' v d := by
  rcases h with ⟨h, _⟩ | ⟨a, q, m, n⟩
  · exact ⟨H0', e, Ext.refl e.sub, Same.refl _, fun _ _ _ => rfl, h⟩
  · subst q
    have key : ∀ o, H' a = some o → H0' a = none → (Ext H0 H (upd H0' a o) H' ∧ Same H0' (upd H0' a o) ∧ (∀ b u, H b = some u → upd H0' a o b = H0' b)) := by
      intro o ho n0
      have s1 : Same H0' (upd H0' a o) := fun b x q => by rw [upd_ne (ne_of_none q n0)]; exact q
      refine ⟨⟨e.s0.trans s1, e.s, fun b x q => ?_, fun b x q => ?_⟩, s1, fun b x q => ?_⟩
      · by_cases hb : b = a
        · subst hb; rw [upd_same] at q; cases q; exact ho
        · rw [upd_ne hb] at q; exact e.sub b x q
      · rw [upd_ne (ne_of_none q n)]; exact e.new b x q
      · rw [upd_ne (ne_of_none q n)]
    cases m with
    | lst h1 h2 h3 =>
      obtain ⟨k1, k2, k3⟩ := key _ h2 h1
      exact ⟨_, k1, Ext.refl e.sub, k2, k3, .lst (.inl upd_same) (h3.mono k2)⟩
    | dic h1 h2 h3 => exact absurd rfl (hd _)
    | kd h1 h2 h3 h4 => exact absurd rfl (hd _)

/-- a new dict is settled by being locked, or as it is -/
theorem lock_new {K : PySem.W.Frag} {H0 H H0' H' : Hp} {a : Addr} {ds : List (D × D)} (e : Ext H0 H H0' H') (m : MO K H0' H' a (.dict ds)) (n : H a = none) :
    (∃ kvs, H' a = some (.dK kvs) ∧ ∀ od, ∃ H0'', Ext H0 H H0'' (upd H' a (.frz od (.dK kvs))) ∧ Dd K H0'' (.ref a) (.dict ds)) ∨ ∃ H0'', Ext H0 H H0'' H' ∧ Dd K H0'' (.ref a) (.dict ds) := by
  cases m with
  | dic h1 h2 h3 =>
    rename_i kvs
    refine .inl ⟨kvs, h2, fun od => ⟨upd H0' a (.frz od (.dK kvs)), ?_, ?_⟩⟩
    · have s1 : Same H0' (upd H0' a (.frz od (.dK kvs))) := fun b x q => by rw [upd_ne (ne_of_none q h1)]; exact q
      refine ⟨e.s0.trans s1, fun b x q => ?_, fun b x q => ?_, fun b x q => ?_⟩
      · rw [upd_ne (ne_of_none q n)]; exact e.s b x q
      · by_cases hb : b = a
        · subst hb; rw [upd_same] at q ⊢; exact q
        · rw [upd_ne hb] at q ⊢; exact e.sub b x q
      · rw [upd_ne (ne_of_none q n)]; exact e.new b x q
    · exact .dic upd_same (h3.mono fun b x q => by rw [upd_ne (ne_of_none q h1)]; exact q)
  | kd h1 h2 h3 h4 =>
    rename_i oc xs
    have s1 : Same H0' (upd H0' a (KO a oc)) := fun b x q => by rw [upd_ne (ne_of_none q h1)]; exact q
    refine .inr ⟨upd H0' a (KO a oc), ⟨e.s0.trans s1, e.s, fun b x q => ?_, fun b x q => ?_⟩, .kd upd_same h3 (h4.mono s1)⟩
    · by_cases hb : b = a
      · subst hb; rw [upd_same] at q; cases q; exact h2
      · rw [upd_ne hb] at q; exact e.sub b x q
    · rw [upd_ne (ne_of_none q n)]; exact e.new b x q

section
variable {K : PySem.W.Frag} {H0 H : Hp} {v : V}
theorem RB.none (h : RB K H0 H v .none) : v = .non := by
  rcases h with h | ⟨a, _, m⟩
  · cases h; rfl
  · cases m
theorem RB.bool {b : Bool} (h : RB K H0 H v (.bool b)) : v = .bl b := by
  rcases h with h | ⟨a, _, m⟩
  · cases h; rfl
  · cases m
theorem RB.int {i : Int} (h : RB K H0 H v (.int i)) : v = .int i := by
  rcases h with h | ⟨a, _, m⟩
  · cases h; rfl
  · cases m
theorem RB.str {x : Str} (h : RB K H0 H v (.str x)) : v = .str x := by
  rcases h with h | ⟨a, _, m⟩
  · cases h; rfl
  · cases m
theorem RB.list {ds : List D} (s : Same H0 H) (h : RB K H0 H v (.list ds)) : ∃ a xs, v = .ref a ∧ Rd H a (.lst xs) ∧ Dds K H0 xs ds := by
  rcases h with h | ⟨a, e, m⟩
  · cases h with
    | lst h r => exact ⟨_, _, rfl, same_rd s h, r⟩
  · cases m with
    | lst h1 h2 h3 => exact ⟨a, _, e, .inl h2, h3⟩
theorem RB.tuple {ds : List D} (s : Same H0 H) (h : RB K H0 H v (.tuple ds)) : ∃ a xs, v = .ref a ∧ Rd H a (.tup xs) ∧ Dds K H0 xs ds := by
  rcases h with h | ⟨a, e, m⟩
  · cases h with
    | tup h z r => exact ⟨_, _, rfl, .inr ⟨_, s _ _ h⟩, r⟩
  · cases m
theorem RB.dict {ds : List (D × D)} (s : Same H0 H) (h : RB K H0 H v (.dict ds)) : (∃ a kvs, v = .ref a ∧ Rd H a (.dK kvs) ∧ Ddk K H0 kvs ds) ∨ ∃ a oc xs, v = .ref a ∧ H a = some (KO a oc) ∧ KFx a oc xs ∧ Kdk K H0 xs ds := by
  rcases h with h | ⟨a, e, m⟩
  · cases h with
    | dic h r => exact .inl ⟨_, _, rfl, .inr ⟨_, s _ _ h⟩, r⟩
    | kd h f r => exact .inr ⟨_, _, _, rfl, s _ _ h, f, r⟩
  · cases m with
    | dic h1 h2 h3 => exact .inl ⟨a, _, e, .inl h2, h3⟩
    | kd h1 h2 h3 h4 => exact .inr ⟨a, _, _, e, h2, h3, h4⟩
end

mutual
/-- no dict within -/
def noDict : D → Bool
  | .none => true
  | .bool _ => true
  | .int _ => true
  | .str _ => true
  | .list ds => noDicts ds
  | .tuple ds => noDicts ds
  | .dict _ => false
def noDicts : List D → Bool
  | [] => true
  | d :: ds => noDict d && noDicts ds
end
mutual
theorem Dd.dp {K : PySem.W.Frag} {H : Hp} : ∀ {v : V} {d : D}, Dd K H v d → noDict d = true → Dp K H v d
  | _, _, .non, _ => .non
  | _, _, .bl b, _ => .bl b
  | _, _, .int i, _ => .int i
  | _, _, .str x, _ => .str x
  | _, _, .lst h r, n => .lst (.inl h) (Dds.dp r (by unfold noDict at n; exact n))
  | _, _, .tup h z r, n => .tup (.inl (.inr ⟨_, h⟩)) (Dds.dp r (by unfold noDict at n; exact n))
  | _, _, .dic _ _, n => by unfold noDict at n; cases n
  | _, _, .kd _ _ _, n => by unfold noDict at n; cases n
theorem Dds.dp {K : PySem.W.Frag} {H : Hp} : ∀ {vs : List V} {ds : List D}, Dds K H vs ds → noDicts ds = true → DpAll K H vs ds
  | _, _, .nil, _ => .nil
  | _, _, .cons h r, n => by
    unfold noDicts at n
    rw [Bool.and_eq_true] at n
    exact .cons (Dd.dp h n.1) (Dds.dp r n.2)
end
theorem RB.dp {K : PySem.W.Frag} {H0 H : Hp} {v : V} {d : D} (s : Same H0 H) (h : RB K H0 H v d) (n : noDict d = true) : Dp K H v d := by
  rcases h with h | ⟨a, e, m⟩
  · exact (h.mono s).dp n
  · subst e
    cases m with
    | lst h1 h2 h3 => exact .lst (SqL.of h2) ((h3.mono s).dp (by unfold noDict at n; exact n))
    | dic h1 h2 h3 => unfold noDict at n; cases n
    | kd h1 h2 h3 h4 => unfold noDict at n; cases n
/-- all but one -/
def del (H : Hp) (a : Addr) : Hp := fun b => if b = a then none else H b
theorem del_ne {H : Hp} {a b : Addr} (h : b ≠ a) : del H a b = H b := by unfold del; rw [if_neg h]
theorem del_same {H : Hp} {a : Addr} : del H a a = none := by unfold del; rw [if_pos rfl]
theorem del_some {H : Hp} {a b : Addr} {o : HO} (h : del H a b = some o) : b ≠ a ∧ H b = some o := by
  unfold del at h
  split at h
  · cases h
  · rename_i hb
    exact ⟨hb, h⟩
theorem MO.del {K : PySem.W.Frag} {H0 H : Hp} {a b : Addr} {d : D} (h : MO K H0 H b d) (hb : b ≠ a) : MO K H0 (del H a) b d := by
  cases h with
  | lst h1 h2 h3 => exact .lst h1 (by rw [del_ne hb]; exact h2) h3
  | dic h1 h2 h3 => exact .dic h1 (by rw [del_ne hb]; exact h2) h3
  | kd h1 h2 h3 h4 => exact .kd h1 (by rw [del_ne hb]; exact h2) h3 h4
/-- a row of zip or enumerate: a tuple of settled things, or what is settled -/
def Ddt (K : PySem.W.Frag) (H : Hp) (v : V) (d : D) : Prop := Dd K H v d ∨ ∃ a xs ds, v = .ref a ∧ d = .tuple ds ∧ H a = some (.tup xs) ∧ Dds K H xs ds
def Dm (m : Bool) (K : PySem.W.Frag) (H : Hp) (v : V) (d : D) : Prop := match m with
  | false => Dd K H v d
  | true => Ddt K H v d
theorem Dm.of {m : Bool} {K : PySem.W.Frag} {H : Hp} {v : V} {d : D} (h : Dd K H v d) : Dm m K H v d := by
  cases m with
  | false => exact h
  | true => exact .inl h
/-- a tuple's plain object -/
def tob (its : List Value) : Obj := { cls := .type "tuple", data := .seq its.toArray }
theorem inv_tnew {X : Cx} {pins : List (Addr × Obj)} {σ : L2.St} {H : Hp} {s : Shared} {ys : List V} {its : List Value} {t' : Nat} (I : Inv X pins σ H s) (hv : Vals ys its) (hz : ys.length ≤ sizeLine) :
    Inv X pins σ (upd H s.heap.objs.size (.frz (tob its) (.tup ys))) { s with heap := s.heap.push (tob its), toks := t' } := by
  have hg : (s.heap.push (tob its)).get? s.heap.objs.size = some (tob its) := Heap.get?_push_size _ rfl
  exact I.laid (fun b u e => Heap.get?_push_of_some _ e) (Nat.le_refl _) ⟨hg, hz, its, hv, ⟨_, hg, rfl, _, rfl⟩⟩
theorem Ddk.length {K : PySem.W.Frag} {H : Hp} : ∀ {kvs : List (Key × V)} {ds : List (D × D)}, Ddk K H kvs ds → kvs.length = ds.length
  | _, _, .nil => rfl
  | _, _, .cons _ r => by rw [List.length_cons, List.length_cons, Ddk.length r]
theorem Ddk.key {K : PySem.W.Frag} {H : Hp} : ∀ {kvs : List (Key × V)} {ds : List (D × D)}, Ddk K H kvs ds → ∀ (i : Nat) d, (ds.map (·.1))[i]? = some d → ∃ q v, kvs[i]? = some (q, v) ∧ d = keyD q
  | _, _, .nil, i, d, h => by simp at h
  | _, _, .cons _ r, 0, d, h => by simp at h; exact ⟨_, _, rfl, h.symm⟩
  | _, _, .cons _ r, i + 1, d, h => by
    simp only [List.map_cons, List.getElem?_cons_succ] at h ⊢
    exact Ddk.key r i d h
/-- a dict's look-up and store as data -/
def dgetL (ds : List (D × D)) (k : D) : Option D := (ds.find? fun kv => PyData.eqv kv.1 k).map (·.2)
def dputL (ds : List (D × D)) (k v : D) : List (D × D) := if (ds.any fun kv => PyData.eqv kv.1 k) = true then ds.map (fun kv => if PyData.eqv kv.1 k = true then (kv.1, v) else kv) else ds ++ [(k, v)]
theorem eqv_key (k k' : Key) : PyData.eqv (keyD k) (keyD k') = decide (k = k') := by
  cases k with
  | inl i =>
    cases k' with
    | inl j =>
      show (i == j) = _
      by_cases h : i = j
      · subst h; simp
      · rw [beq_eq_false_iff_ne.mpr h, decide_eq_false (fun e => h (Sum.inl.inj e))]
    | inr y => simp [keyD, PyData.eqv]
  | inr x =>
    cases k' with
    | inl j => simp [keyD, PyData.eqv]
    | inr y =>
      show (x == y) = _
      by_cases h : x = y
      · subst h; simp
      · rw [beq_eq_false_iff_ne.mpr h, decide_eq_false (fun e => h (Sum.inr.inj e))]
theorem Ddk.get {K : PySem.W.Frag} {H : Hp} (k : Key) : ∀ {kvs : List (Key × V)} {ds : List (D × D)}, Ddk K H kvs ds → (∀ d, dgetL ds (keyD k) = some d → ∃ v, valV kvs k = some v ∧ Dd K H v d) ∧ (dgetL ds (keyD k) = none → valV kvs k = none)
  | _, _, .nil => ⟨fun d h => by simp [dgetL] at h, fun _ => rfl⟩
  | _, _, .cons (k := q) (v := v) (d := d0) (r := r) (s := s) h t => by
    obtain ⟨h1, h2⟩ := Ddk.get k t
    unfold dgetL valV
    rw [List.find?_cons, List.find?_cons]
    dsimp only
    rw [eqv_key]
    by_cases e : q = k
    · rw [decide_eq_true e]
      exact ⟨fun d hd => by cases hd; exact ⟨v, rfl, h⟩, fun hd => by cases hd⟩
    · rw [decide_eq_false e]
      exact ⟨h1, h2⟩
theorem Ddk.any {K : PySem.W.Frag} {H : Hp} (k : Key) : ∀ {kvs : List (Key × V)} {ds : List (D × D)}, Ddk K H kvs ds → (ds.any fun kv => PyData.eqv kv.1 (keyD k)) = kvs.any fun kv => decide (kv.1 = k)
  | _, _, .nil => rfl
  | _, _, .cons h t => by
    rw [List.any_cons, List.any_cons, Ddk.any k t]
    dsimp only
    rw [eqv_key]
theorem Ddk.mapPut {K : PySem.W.Frag} {H : Hp} (k : Key) {v : V} {d : D} (hv : Dd K H v d) : ∀ {kvs : List (Key × V)} {ds : List (D × D)}, Ddk K H kvs ds →
    Ddk K H (kvs.map fun kv => if kv.1 = k then (kv.1, v) else kv) (ds.map fun kv => if PyData.eqv kv.1 (keyD k) = true then (kv.1, d) else kv)
  | _, _, .nil => .nil
  | _, _, .cons (k := q) h t => by
    rw [List.map_cons, List.map_cons]
    dsimp only
    rw [eqv_key]
    by_cases e : q = k
    · rw [if_pos e, if_pos (decide_eq_true e)]
      exact .cons hv (Ddk.mapPut k hv t)
    · rw [if_neg e, if_neg (by rw [decide_eq_false e]; exact Bool.false_ne_true)]
      exact .cons h (Ddk.mapPut k hv t)
theorem Ddk.snoc {K : PySem.W.Frag} {H : Hp} (k : Key) {v : V} {d : D} (hv : Dd K H v d) : ∀ {kvs : List (Key × V)} {ds : List (D × D)}, Ddk K H kvs ds → Ddk K H (kvs ++ [(k, v)]) (ds ++ [(keyD k, d)])
  | _, _, .nil => .cons hv .nil
  | _, _, .cons h t => .cons h (Ddk.snoc k hv t)
theorem Ddk.put {K : PySem.W.Frag} {H : Hp} (k : Key) {v : V} {d : D} (hv : Dd K H v d) {kvs : List (Key × V)} {ds : List (D × D)} (h : Ddk K H kvs ds) : Ddk K H (putK kvs k v) (dputL ds (keyD k) d) := by
  unfold putK dputL
  rw [h.any k]
  split
  · exact h.mapPut k hv
  · exact h.snoc k hv
def dkey : D → Option Key
  | .int i => some (.inl i)
  | .str x => some (.inr x)
  | _ => none
/-! ### dicts whose keys are tuples -/
mutual
theorem keyN_hash (w w' : World) : ∀ {d : D} {k : NestedKey}, keyN d = some k → k.hash w = k.hash w'
  | .int i, _, h => by unfold keyN at h; cases h; rfl
  | .tuple ds, _, h => by
    unfold keyN at h
    cases e : keyNs ds with
    | none => rw [e] at h; cases h
    | some ks =>
      rw [e] at h
      cases h
      unfold NestedKey.hash
      rw [keyNs_hash w w' e]
  | .none, _, h => by unfold keyN at h; cases h
  | .bool _, _, h => by unfold keyN at h; cases h
  | .str _, _, h => by unfold keyN at h; cases h
  | .list _, _, h => by unfold keyN at h; cases h
  | .dict _, _, h => by unfold keyN at h; cases h
theorem keyNs_hash (w w' : World) : ∀ {ds : List D} {ks : List NestedKey}, keyNs ds = some ks → NestedKey.hashes w ks = NestedKey.hashes w' ks
  | [], _, h => by unfold keyNs at h; cases h; rfl
  | d :: ds, _, h => by
    unfold keyNs at h
    cases e : keyN d with
    | none => rw [e] at h; cases h
    | some k =>
      rw [e] at h
      dsimp only at h
      cases e2 : keyNs ds with
      | none => rw [e2] at h; cases h
      | some ks =>
        rw [e2] at h
        cases h
        unfold NestedKey.hashes
        rw [keyN_hash w w' e, keyNs_hash w w' e2]
end
mutual
theorem eqv_keyN : ∀ {d d' : D} {k k' : NestedKey}, keyN d = some k → keyN d' = some k' → PyData.eqv d d' = NestedKey.beq k k'
  | .int i, .int j, _, _, h, h' => by
    unfold keyN at h h'
    cases h; cases h'
    show (i == j) = decide (i = j)
    by_cases q : i = j
    · subst q; simp
    · rw [beq_eq_false_iff_ne.mpr q, decide_eq_false q]
  | .int i, .tuple ds, _, _, h, h' => by
    unfold keyN at h h'
    cases e : keyNs ds with
    | none => rw [e] at h'; cases h'
    | some ks => rw [e] at h'; cases h; cases h'; rfl
  | .tuple ds, .int i, _, _, h, h' => by
    unfold keyN at h h'
    cases e : keyNs ds with
    | none => rw [e] at h; cases h
    | some ks => rw [e] at h; cases h; cases h'; rfl
  | .tuple ds, .tuple es, _, _, h, h' => by
    unfold keyN at h h'
    cases e : keyNs ds with
    | none => rw [e] at h; cases h
    | some ks =>
      rw [e] at h
      cases e' : keyNs es with
      | none => rw [e'] at h'; cases h'
      | some ks' =>
        rw [e'] at h'
        cases h; cases h'
        show PyData.eqvAll ds es = NestedKey.beqAll ks ks'
        exact eqv_keyNs e e'
  | .none, _, _, _, h, _ => by unfold keyN at h; cases h
  | .bool _, _, _, _, h, _ => by unfold keyN at h; cases h
  | .str _, _, _, _, h, _ => by unfold keyN at h; cases h
  | .list _, _, _, _, h, _ => by unfold keyN at h; cases h
  | .dict _, _, _, _, h, _ => by unfold keyN at h; cases h
  | .int _, .none, _, _, _, h => by unfold keyN at h; cases h
  | .int _, .bool _, _, _, _, h => by unfold keyN at h; cases h
  | .int _, .str _, _, _, _, h => by unfold keyN at h; cases h
  | .int _, .list _, _, _, _, h => by unfold keyN at h; cases h
  | .int _, .dict _, _, _, _, h => by unfold keyN at h; cases h
  | .tuple _, .none, _, _, _, h => by unfold keyN at h; cases h
  | .tuple _, .bool _, _, _, _, h => by unfold keyN at h; cases h
  | .tuple _, .str _, _, _, _, h => by unfold keyN at h; cases h
  | .tuple _, .list _, _, _, _, h => by unfold keyN at h; cases h
  | .tuple _, .dict _, _, _, _, h => by unfold keyN at h; cases h
theorem eqv_keyNs : ∀ {ds es : List D} {ks ks' : List NestedKey}, keyNs ds = some ks → keyNs es = some ks' → PyData.eqvAll ds es = NestedKey.beqAll ks ks'
  | [], [], _, _, h, h' => by unfold keyNs at h h'; cases h; cases h'; rfl
  | [], e :: es, _, _, h, h' => by
    unfold keyNs at h h'
    cases h
    cases q : keyN e with
    | none => rw [q] at h'; cases h'
    | some k =>
      rw [q] at h'
      dsimp only at h'
      cases q2 : keyNs es with
      | none => rw [q2] at h'; cases h'
      | some ks => rw [q2] at h'; cases h'; rfl
  | d :: ds, [], _, _, h, h' => by
    unfold keyNs at h h'
    cases h'
    cases q : keyN d with
    | none => rw [q] at h; cases h
    | some k =>
      rw [q] at h
      dsimp only at h
      cases q2 : keyNs ds with
      | none => rw [q2] at h; cases h
      | some ks => rw [q2] at h; cases h; rfl
  | d :: ds, e :: es, _, _, h, h' => by
    unfold keyNs at h h'
    cases q : keyN d with
    | none => rw [q] at h; cases h
    | some k =>
      rw [q] at h
      dsimp only at h
      cases q2 : keyNs ds with
      | none => rw [q2] at h; cases h
      | some ks =>
        rw [q2] at h
        cases q3 : keyN e with
        | none => rw [q3] at h'; cases h'
        | some k' =>
          rw [q3] at h'
          dsimp only at h'
          cases q4 : keyNs es with
          | none => rw [q4] at h'; cases h'
          | some ks' =>
            rw [q4] at h'
            cases h; cases h'
            show (PyData.eqv d e && PyData.eqvAll ds es) = (NestedKey.beq k k' && NestedKey.beqAll ks ks')
            rw [eqv_keyN q q3, eqv_keyNs q2 q4]
end
theorem eqv_keyT {d d' : D} {k k' : NestedKey} (h : keyT d = some k) (h' : keyT d' = some k') : PyData.eqv d d' = decide (k = k') := by
  rw [eqv_keyN (keyT_N h).1 (keyT_N h').1, NestedKey.decide_eq]
theorem Kdk.length {K : PySem.W.Frag} {H : Hp} : ∀ {xs : List (NestedKey × Addr × Value)} {ds : List (D × D)}, Kdk K H xs ds → xs.length = ds.length
  | _, _, .nil => rfl
  | _, _, .cons _ _ _ _ r => by rw [List.length_cons, List.length_cons, Kdk.length r]
theorem Kdk.get {K : PySem.W.Frag} {H : Hp} {kd : D} {k : NestedKey} (hk : keyT kd = some k) : ∀ {xs : List (NestedKey × Addr × Value)} {ds : List (D × D)}, Kdk K H xs ds → (∀ d, dgetL ds kd = some d → ∃ b u v, atKey xs k = some (b, u) ∧ RelV v u ∧ Dd K H v d) ∧ (dgetL ds kd = none → atKey xs k = none)
  | _, _, .nil => ⟨fun d h => by simp [dgetL] at h, fun _ => rfl⟩
  | _, _, .cons (k := q) (kd := qd) h1 h2 h3 h4 t => by
    obtain ⟨g1, g2⟩ := Kdk.get hk t
    unfold dgetL atKey
    rw [List.find?_cons, List.find?_cons]
    dsimp only
    rw [eqv_keyT h2 hk]
    by_cases e : q = k
    · rw [decide_eq_true e]
      exact ⟨fun d hd => by cases hd; exact ⟨_, _, _, rfl, h3, h4⟩, fun hd => by cases hd⟩
    · rw [decide_eq_false e]
      exact ⟨g1, g2⟩
theorem Kdk.some_eq {K : PySem.W.Frag} {H : Hp} {kd : D} {k : NestedKey} (hk : keyT kd = some k) {xs : List (NestedKey × Addr × Value)} {ds : List (D × D)} (h : Kdk K H xs ds) : (atKey xs k).isSome = (dgetL ds kd).isSome := by
  obtain ⟨g1, g2⟩ := h.get hk
  cases e : dgetL ds kd with
  | none => rw [g2 e]; rfl
  | some d =>
    obtain ⟨b, u, v, g, _⟩ := g1 d e
    rw [g]
    rfl
theorem any_find {α : Type} (p : α → Bool) : ∀ l : List α, l.any p = (l.find? p).isSome
  | [] => rfl
  | a :: l => by
    rw [List.any_cons, List.find?_cons, any_find p l]
    cases p a <;> rfl
theorem Kdk.any {K : PySem.W.Frag} {H : Hp} {kd : D} {k : NestedKey} (hk : keyT kd = some k) {xs : List (NestedKey × Addr × Value)} {ds : List (D × D)} (h : Kdk K H xs ds) : (ds.any fun kv => PyData.eqv kv.1 kd) = (atKey xs k).isSome := by
  rw [h.some_eq hk]
  unfold dgetL
  rw [Option.isSome_map, any_find]
theorem Kdk.snoc {K : PySem.W.Frag} {H : Hp} {kd d : D} {k : NestedKey} {b : Addr} {u : Value} {v : V} (h1 : Dd K H (.ref b) kd) (h2 : keyT kd = some k) (h3 : RelV v u) (h4 : Dd K H v d) : ∀ {xs : List (NestedKey × Addr × Value)} {ds : List (D × D)}, Kdk K H xs ds → Kdk K H (xs ++ [(k, b, u)]) (ds ++ [(kd, d)])
  | _, _, .nil => .cons h1 h2 h3 h4 .nil
  | _, _, .cons g1 g2 g3 g4 r => .cons g1 g2 g3 g4 (Kdk.snoc h1 h2 h3 h4 r)
theorem Kdk.mapPut {K : PySem.W.Frag} {H : Hp} {kd d : D} {k : NestedKey} {u : Value} {v : V} (h2 : keyT kd = some k) (h3 : RelV v u) (h4 : Dd K H v d) : ∀ {xs : List (NestedKey × Addr × Value)} {ds : List (D × D)}, Kdk K H xs ds → Kdk K H (xs.map (putAt k u)) (ds.map fun kv => if PyData.eqv kv.1 kd = true then (kv.1, d) else kv)
  | _, _, .nil => .nil
  | _, _, .cons (k := q) (b := qb) (u := qu) (kd := qd) g1 g2 g3 g4 r => by
    rw [List.map_cons, List.map_cons]
    have e := eqv_keyT g2 h2
    by_cases q1 : q = k
    · rw [decide_eq_true q1] at e
      dsimp only
      rw [e, if_pos rfl]
      unfold putAt
      dsimp only
      rw [if_pos q1]
      exact .cons g1 g2 h3 h4 (Kdk.mapPut h2 h3 h4 r)
    · rw [decide_eq_false q1] at e
      dsimp only
      rw [e, if_neg Bool.false_ne_true]
      unfold putAt
      dsimp only
      rw [if_neg q1]
      exact .cons g1 g2 g3 g4 (Kdk.mapPut h2 h3 h4 r)
theorem Kdk.put {K : PySem.W.Frag} {H : Hp} {kd d : D} {k : NestedKey} {b : Addr} {u : Value} {v : V} (h1 : Dd K H (.ref b) kd) (h2 : keyT kd = some k) (h3 : RelV v u) (h4 : Dd K H v d) {xs : List (NestedKey × Addr × Value)} {ds : List (D × D)} (h : Kdk K H xs ds) : Kdk K H (storedH xs k b u) (dputL ds kd d) := by
  unfold storedH dputL
  rw [h.any h2]
  split
  · exact h.mapPut h2 h3 h4
  · exact h.snoc h1 h2 h3 h4
/-- such a dict's keys are all tuples -/
def isK : List (D × D) → Bool
  | (.tuple _, _) :: _ => true
  | _ => false
def tupK (ds : List (D × D)) : Bool := ds.all fun p => (match p.1 with
  | .tuple _ => true
  | _ => false)
theorem keyT_tup {d : D} {k : NestedKey} (h : keyT d = some k) : ∃ es, d = .tuple es := by
  cases d with
  | tuple es => exact ⟨es, rfl⟩
  | _ => cases h
theorem Kdk.isK {K : PySem.W.Frag} {H : Hp} {xs : List (NestedKey × Addr × Value)} {ds : List (D × D)} (h : Kdk K H xs ds) (ne : xs ≠ []) : DD.isK ds = true := by
  cases h with
  | nil => exact absurd rfl ne
  | cons h1 h2 h3 h4 r =>
    obtain ⟨es, rfl⟩ := keyT_tup h2
    rfl
theorem Ddk.notK {K : PySem.W.Frag} {H : Hp} {xs : List (Key × V)} {ds : List (D × D)} (h : Ddk K H xs ds) (t : tupK ds = true) : xs = [] ∧ ds = [] := by
  cases h with
  | nil => exact ⟨rfl, rfl⟩
  | cons h1 r =>
    rename_i k v d r s
    unfold tupK at t
    rw [List.all_cons, Bool.and_eq_true] at t
    cases k <;> exact absurd t.1 Bool.false_ne_true
theorem Kdk.noPlain {K : PySem.W.Frag} {H : Hp} {d : D} {k : Key} (hk : dkey d = some k) : ∀ {xs : List (NestedKey × Addr × Value)} {ds : List (D × D)}, Kdk K H xs ds → dgetL ds d = none
  | _, _, .nil => rfl
  | _, _, .cons h1 h2 h3 h4 r => by
    obtain ⟨es, rfl⟩ := keyT_tup h2
    have ih := Kdk.noPlain hk r
    unfold dgetL at ih ⊢
    rw [List.find?_cons]
    have e : PyData.eqv (.tuple es) d = false := by
      cases d with
      | int i => rfl
      | str x => rfl
      | _ => cases hk
    rw [e]
    exact ih
theorem dkey_some {d : D} {k : Key} (h : dkey d = some k) : d = keyD k := by
  cases d <;> first | (cases h; rfl) | cases h
/-- at a stands such a dict, or an empty one -/
def KdAt (K : PySem.W.Frag) (H : Hp) (a : Addr) (xs : List (NestedKey × Addr × Value)) (ds : List (D × D)) : Prop := Kdk K H xs ds ∧ ((∃ oc, H a = some (KO a oc) ∧ KFx a oc xs) ∨ (Rd H a (.dK []) ∧ xs = []))
theorem RB.kdict {K : PySem.W.Frag} {H0 H : Hp} {v : V} {ds : List (D × D)} (s : Same H0 H) (h : RB K H0 H v (.dict ds)) (t : tupK ds = true) : ∃ a xs, v = .ref a ∧ KdAt K H a xs ds ∧ Kdk K H0 xs ds := by
  rcases h.dict s with ⟨a, kvs, rfl, r, k⟩ | ⟨a, oc, xs, rfl, e, f, k⟩
  · obtain ⟨rfl, rfl⟩ := k.notK t
    exact ⟨a, [], rfl, ⟨.nil, .inr ⟨r, rfl⟩⟩, .nil⟩
  · exact ⟨a, xs, rfl, ⟨k.mono s, .inl ⟨oc, e, f⟩⟩, k⟩
theorem Kdk.listed {K : PySem.W.Frag} {H : Hp} : ∀ {xs : List (NestedKey × Addr × Value)} {ds : List (D × D)}, Kdk K H xs ds → Dds K H (xs.map fun x => V.ref x.2.1) (ds.map (·.1))
  | _, _, .nil => .nil
  | _, _, .cons h1 _ _ _ r => .cons h1 (Kdk.listed r)
def rListK (K : PySem.W.Frag) : List V → Hp → VK → Prop := fun xs H Q => ∃ (a : Addr) (ys : List (NestedKey × Addr × Value)) (ds : List (D × D)), xs = [.ref a] ∧ KdAt K H a ys ds ∧ ∀ p, H p = none → Q (.ref p) (upd H p (.lst (ys.map fun x => V.ref x.2.1)))
end DD

namespace DD
open PySem PySem.Spec PyProof.Rows L2

inductive Fl where
  | own | bor | dat | io
  deriving DecidableEq
/-- what may be changed -/
def Fl.mut : Fl → Bool
  | .own => true
  | .io => true
  | _ => false
abbrev Rho := List (Option (Fl × D))
/-- the entry of a def: what was settled, what stood -/
structure Ent where
  H0 : Hp
  H : Hp
  n : Nat
  /-- the thing that the caller lends to be changed -/
  io : Option Addr
inductive Res where
  | ok (d : D)
  | exc (c : Nat) (p : Option D)

def SlotOk (K : PySem.W.Frag) (en : Ent) (H0 H : Hp) : Fl → V → D → Prop
  | .own, v, d => ∃ a, v = .ref a ∧ MO K H0 H a d ∧ en.H a = none ∧ en.io ≠ some a
  | .bor, v, d => Dd K H0 v d ∨ ∃ a, v = .ref a ∧ MO K H0 H a d ∧ ∃ o, en.H a = some o
  | .dat, v, d => Dd K H0 v d
  | .io, v, d => ∃ a, v = .ref a ∧ MO K H0 H a d ∧ en.H a = none ∧ en.io = some a
structure R (K : PySem.W.Frag) (en : Ent) (ρ : Rho) (H0 : Hp) (σ : L2.St) (H : Hp) : Prop where
  sub : Same H0 H
  len : σ.length = ρ.length
  slot : ∀ (i : Nat) fl d, ρ[i]? = some (some (fl, d)) → ∃ v, σ[i]? = some (some v) ∧ SlotOk K en H0 H fl v d
  apart : ∀ (i j : Nat) fi fj di dj (v : V), i ≠ j → fi.mut = true → fj.mut = true → ρ[i]? = some (some (fi, di)) → ρ[j]? = some (some (fj, dj)) → σ[i]? = some (some v) → σ[j]? ≠ some (some v)
  lent : ∀ a, en.io = some a → ∃ o, H a = some o
  e1 : Same en.H H
  e2 : Same en.H0 H0
  e3 : ∀ b o, en.H b = some o → H0 b = en.H0 b
  hn : ρ.length = en.n
theorem R.hl {K : PySem.W.Frag} {en : Ent} {ρ : Rho} {H0 H : Hp} {σ : L2.St} (r : R K en ρ H0 σ H) : σ.length = en.n := r.len.trans r.hn

theorem SlotOk.mono {K : PySem.W.Frag} {en : Ent} {H0 H H0' H' : Hp} {fl : Fl} {v : V} {d : D} (e : Ext H0 H H0' H') (h : SlotOk K en H0 H fl v d) : SlotOk K en H0' H' fl v d := by
  cases fl with
  | own => obtain ⟨a, e1, m, n⟩ := h; exact ⟨a, e1, m.mono e, n⟩
  | bor =>
    rcases h with h | ⟨a, e1, m, n⟩
    · exact .inl (h.mono e.s0)
    · exact .inr ⟨a, e1, m.mono e, n⟩
  | dat => exact Dd.mono e.s0 h
  | io => obtain ⟨a, e1, m, n⟩ := h; exact ⟨a, e1, m.mono e, n⟩
theorem R.mono {K : PySem.W.Frag} {en : Ent} {ρ : Rho} {H0 H H0' H' : Hp} {σ : L2.St} (r : R K en ρ H0 σ H) (e : Ext H0 H H0' H') : R K en ρ H0' σ H' where
  sub := e.sub
  len := r.len
  slot := fun i fl d h => by
    obtain ⟨v, h1, h2⟩ := r.slot i fl d h
    exact ⟨v, h1, h2.mono e⟩
  apart := r.apart
  lent := fun a h => by
    obtain ⟨o, ho⟩ := r.lent a h
    exact ⟨o, e.s _ _ ho⟩
  e1 := r.e1.trans e.s
  e2 := r.e2.trans e.s0
  e3 := fun b o h => (e.new b o (r.e1 b o h)).trans (r.e3 b o h)
  hn := r.hn

/-- where an answer comes from: new if it is a list or dict; settled or new; what a slot holds -/
inductive Src where
  | new | any | slot (i : Nat)
/-- the answer of an expression -/
def Rz (K : PySem.W.Frag) (src : Src) (σ : L2.St) (H H0' H' : Hp) (v : V) (d : D) : Prop := match src with
  | .new => RS true K H H0' H' v d
  | .any => RS false K H H0' H' v d
  | .slot i => Dd K H0' v d ∨ ∃ a, v = .ref a ∧ MO K H0' H' a d ∧ σ[i]? = some (some (.ref a))
theorem Rz.rb {K : PySem.W.Frag} {src : Src} {σ : L2.St} {H H0' H' : Hp} {v : V} {d : D} (h : Rz K src σ H H0' H' v d) : RB K H0' H' v d := by
  cases src with
  | new => exact RS.rb h
  | any => exact RS.rb h
  | slot i =>
    rcases h with h | ⟨a, e, m, _⟩
    · exact .inl h
    · exact .inr ⟨a, e, m⟩
def Src.nw : Bool → Src
  | true => .new
  | false => .any
theorem RS.weak {n : Bool} {K : PySem.W.Frag} {H H0' H' : Hp} {v : V} {d : D} (h : RS n K H H0' H' v d) : RS false K H H0' H' v d := by
  rcases h with ⟨h, _⟩ | h
  · exact .inl ⟨h, fun e => nomatch e⟩
  · exact .inr h
theorem RS.rz {n : Bool} {K : PySem.W.Frag} {σ : L2.St} {H1 H H0' H' : Hp} {v : V} {d : D} (s : Same H1 H) (h : RS n K H H0' H' v d) : Rz K (Src.nw n) σ H1 H0' H' v d := by
  have h' : RS n K H1 H0' H' v d := by
    rcases h with h | ⟨a, e, m, n⟩
    · exact .inl h
    · exact .inr ⟨a, e, m, s.free n⟩
  cases n with
  | true => exact h'
  | false => exact h'
theorem Rz.rs {K : PySem.W.Frag} {src : Src} {σ : L2.St} {H H0' H' : Hp} {v : V} {d : D} (hs : ∀ i, src ≠ .slot i) (h : Rz K src σ H H0' H' v d) : RS false K H H0' H' v d := by
  cases src with
  | new => exact RS.weak h
  | any => exact h
  | slot i => exact absurd rfl (hs i)

/-- an exception of the class number c, with its line -/
def ExcIs (K : PySem.W.Frag) (mg : Str → Option Value) (excs : List Str) (c : Nat) (p : Option D) (cls : Value) (dd : Option Addr) (H0 H : Hp) : Prop :=
  ∃ x C, excs[c]? = some x ∧ mg x = some (.ref C) ∧ cls = .ref C ∧
    match p with
    | none => dd = none
    | some d => ∃ q v, dd = some q ∧ H q = some (.xd [(("line" : Str), v)]) ∧ Dd K H0 v d

section
variable (K : PySem.W.Frag) (mg : Str → Option Value) (xs : List Str) (W : WX)
def PostR (src : Src) (σ : L2.St) (H0 H : Hp) (Q : VK) : Option Res → Prop
  | none => False
  | some (.ok d) => ∀ v H0' H', Ext H0 H H0' H' → Rz K src σ H H0' H' v d → Q v H'
  | some (.exc c p) => ∀ cls dd H0' H', Ext H0 H H0' H' → ExcIs K mg xs c p cls dd H0' H' → W cls dd σ H'
def Tau (src : Src) (m : Rho → Option Res) : TE := fun σ H Q => ∃ en ρ H0, R K en ρ H0 σ H ∧ PostR K mg xs W src σ H0 H Q (m ρ)
/-- settled answers -/
def PostD (σ : L2.St) (H0 H : Hp) (Q : VK) : Option Res → Prop
  | none => False
  | some (.ok d) => ∀ v H0' H', Ext H0 H H0' H' → Dd K H0' v d → Q v H'
  | some (.exc c p) => ∀ cls dd H0' H', Ext H0 H H0' H' → ExcIs K mg xs c p cls dd H0' H' → W cls dd σ H'
def TauD (m : Rho → Option Res) : TE := fun σ H Q => ∃ en ρ H0, R K en ρ H0 σ H ∧ PostD K mg xs W σ H0 H Q (m ρ)
end

inductive ResL where
  | ok (ds : List D)
  | exc (c : Nat) (p : Option D)
inductive ResB where
  | ok (b : Bool)
  | exc (c : Nat) (p : Option D)
def RBs (K : PySem.W.Frag) (H0 H : Hp) : List V → List D → Prop := Paired (RB K H0 H)
theorem RBs.mono {K : PySem.W.Frag} {H0 H H0' H' : Hp} (e : Ext H0 H H0' H') : ∀ {vs : List V} {ds : List D}, RBs K H0 H vs ds → RBs K H0' H' vs ds
  | _, _, .nil => .nil
  | _, _, .cons h r => .cons (h.mono e) (RBs.mono e r)
section
variable (K : PySem.W.Frag) (mg : Str → Option Value) (xs : List Str) (W : WX)
def PostA (σ : L2.St) (H0 H : Hp) (Q : List V → Hp → Prop) : Option ResL → Prop
  | none => False
  | some (.ok ds) => ∀ vs H0' H', Ext H0 H H0' H' → RBs K H0' H' vs ds → Q vs H'
  | some (.exc c p) => ∀ cls dd H0' H', Ext H0 H H0' H' → ExcIs K mg xs c p cls dd H0' H' → W cls dd σ H'
def TauA (m : Rho → Option ResL) : TA := fun σ H Q => ∃ en ρ H0, R K en ρ H0 σ H ∧ PostA K mg xs W σ H0 H Q (m ρ)
def PostAD (σ : L2.St) (H0 H : Hp) (Q : List V → Hp → Prop) : Option ResL → Prop
  | none => False
  | some (.ok ds) => ∀ vs H0' H', Ext H0 H H0' H' → Dds K H0' vs ds → Q vs H'
  | some (.exc c p) => ∀ cls dd H0' H', Ext H0 H H0' H' → ExcIs K mg xs c p cls dd H0' H' → W cls dd σ H'
def TauAD (m : Rho → Option ResL) : TA := fun σ H Q => ∃ en ρ H0, R K en ρ H0 σ H ∧ PostAD K mg xs W σ H0 H Q (m ρ)
def PostB (σ : L2.St) (H0 H : Hp) (Q : Bool → Hp → Prop) : Option ResB → Prop
  | none => False
  | some (.ok b) => ∀ H0' H', Ext H0 H H0' H' → Q b H'
  | some (.exc c p) => ∀ cls dd H0' H', Ext H0 H H0' H' → ExcIs K mg xs c p cls dd H0' H' → W cls dd σ H'
def TauB (m : Rho → Option ResB) : TT := fun σ H Q => ∃ en ρ H0, R K en ρ H0 σ H ∧ PostB K mg xs W σ H0 H Q (m ρ)
end

/-! ### the judgements -/
section
variable (X : Cx) (xs : List Str) (W : WX)
def JE (e : Expr) (src : Src) (m : Rho → Option Res) : Prop := PE X e (Tau X.K X.mg xs W src m)
def JD (e : Expr) (m : Rho → Option Res) : Prop := PE X e (TauD X.K X.mg xs W m)
def JA (es : List Expr) (m : Rho → Option ResL) : Prop := PA X es (TauA X.K X.mg xs W m)
def JAD (es : List Expr) (m : Rho → Option ResL) : Prop := PA X es (TauAD X.K X.mg xs W m)
def JT (e : Expr) (m : Rho → Option ResB) : Prop := PT X e (TauB X.K X.mg xs W m)
end
theorem pe_of {X : Cx} {e : Expr} {t t' : TE} (h : PE X e t) (i : ∀ σ H Q, t' σ H Q → t σ H Q) : PE X e t' := ⟨fun pins s σ H Q I q => h.run pins s σ H Q I (i σ H Q q)⟩
theorem pt_of {X : Cx} {e : Expr} {t t' : TT} (h : PT X e t) (i : ∀ σ H Q, t' σ H Q → t σ H Q) : PT X e t' := ⟨fun pins s σ H Q I q => h.run pins s σ H Q I (i σ H Q q)⟩
theorem pw_of {X : Cx} {e : Expr} {t t' : TT} (h : PW X e t) (i : ∀ σ H Q, t' σ H Q → t σ H Q) : PW X e t' := ⟨fun w pins s σ H Q I q => h.run w pins s σ H Q I (i σ H Q q)⟩
theorem pa_of {X : Cx} {e : List Expr} {t t' : TA} (h : PA X e t) (i : ∀ σ H Q, t' σ H Q → t σ H Q) : PA X e t' := ⟨fun p pins s σ H Q I q => h.run p pins s σ H Q I (i σ H Q q)⟩
theorem ps_of {X : Cx} {e : Stmt} {t t' : TS} (h : PS X e t) (i : ∀ D σ H, t' D σ H → t D σ H) : PS X e t' := ⟨fun pins s σ H D I q => h.run pins s σ H D I (i D σ H q)⟩
theorem pss_of {X : Cx} {e : List Stmt} {t t' : TS} (h : PSs X e t) (i : ∀ D σ H, t' D σ H → t D σ H) : PSs X e t' := ⟨fun pins s σ H D I q => h.run pins s σ H D I (i D σ H q)⟩
theorem pi_of {X : Cx} {tg e : Expr} {t t' : TI} (h : PI X tg e t) (i : ∀ σ H R, t' σ H R → t σ H R) : PI X tg e t' := ⟨fun pins s σ H R I q => h.run pins s σ H R I (i σ H R q)⟩

/-! ### the semantics of the parts -/
def slotVal (ρ : Rho) (i : Nat) : Option Res := match ρ[i]? with
  | some (some (_, d)) => some (.ok d)
  | _ => none
def lift1 (f : D → Option D) (ma : Rho → Option Res) : Rho → Option Res := fun ρ => match ma ρ with
  | some (.ok d) => (f d).map .ok
  | some (.exc c p) => some (.exc c p)
  | none => none
def lift2 (f : D → D → Option D) (ma mb : Rho → Option Res) : Rho → Option Res := fun ρ => match ma ρ with
  | some (.ok d) => (match mb ρ with
    | some (.ok e) => (f d e).map .ok
    | some (.exc c p) => some (.exc c p)
    | none => none)
  | some (.exc c p) => some (.exc c p)
  | none => none
def liftA (f : List D → Option D) (ma : Rho → Option ResL) : Rho → Option Res := fun ρ => match ma ρ with
  | some (.ok d) => (f d).map .ok
  | some (.exc c p) => some (.exc c p)
  | none => none
def consA (ma : Rho → Option Res) (mb : Rho → Option ResL) : Rho → Option ResL := fun ρ => match ma ρ with
  | some (.ok d) => (match mb ρ with
    | some (.ok e) => some (.ok (d :: e))
    | some (.exc c p) => some (.exc c p)
    | none => none)
  | some (.exc c p) => some (.exc c p)
  | none => none
def keepV (ρ : Rho) (i : Nat) : Option Res := match ρ[i]? with
  | some (some (fl, d)) => if fl = .dat ∨ flatRoot d = true then some (.ok d) else none
  | _ => none
def keep (src : Src) (m : Rho → Option Res) : Rho → Option Res := fun ρ => match src with
  | .slot i => keepV ρ i
  | _ => m ρ

/-- an operation over settled and changing things -/
def Op1Ok (n : Bool) (K : PySem.W.Frag) (r : V → Hp → VK → Prop) (f : D → Option D) : Prop := ∀ (H0 H : Hp) (x : V) (d1 d : D) (Q : VK), Same H0 H → RB K H0 H x d1 → f d1 = some d →
  (∀ v H0' H', Ext H0 H H0' H' → RS n K H H0' H' v d → Q v H') → r x H Q
def Op2Ok (n : Bool) (K : PySem.W.Frag) (r : R2) (f : D → D → Option D) : Prop := ∀ (H0 H : Hp) (x y : V) (d1 d2 d : D) (Q : VK), Same H0 H → RB K H0 H x d1 → RB K H0 H y d2 → f d1 d2 = some d →
  (∀ v H0' H', Ext H0 H H0' H' → RS n K H H0' H' v d → Q v H') → r x y H Q
def OpAOk (n : Bool) (K : PySem.W.Frag) (r : List V → Hp → VK → Prop) (f : List D → Option D) : Prop := ∀ (H0 H : Hp) (xs : List V) (ds : List D) (d : D) (Q : VK), Same H0 H → RBs K H0 H xs ds → f ds = some d →
  (∀ v H0' H', Ext H0 H H0' H' → RS n K H H0' H' v d → Q v H') → r xs H Q

section
variable {X : Cx} {xs : List Str} {W : WX} {a b : Expr} {sa sb : Src} {n : Bool} {ma mb : Rho → Option Res} {pos : Pos}
theorem je_var {i : Nat} {x : Str} (hN : X.N[i]? = some x) (hv : Vis X.env.scope x) (hd : (x == ("__debug__" : Str)) = false) (hcd : (x == ("__classdict__" : Str)) = false) : JE X xs W (.Name x pos) (.slot i) (fun ρ => slotVal ρ i) := by
  refine pe_of (pe_var hN hv hd hcd) fun σ H Q h => ?_
  obtain ⟨en, ρ, H0, r, p⟩ := h
  show ∃ v, σ[i]? = some (some v) ∧ Q v H
  unfold slotVal at p
  dsimp only at p
  split at p
  · rename_i fl d e
    obtain ⟨v, h1, h2⟩ := r.slot i fl d e
    refine ⟨v, h1, p v H0 H (Ext.refl r.sub) ?_⟩
    cases fl with
    | own => obtain ⟨a, e1, m, n⟩ := h2; subst e1; exact .inr ⟨a, rfl, m, h1⟩
    | io => obtain ⟨a, e1, m, n⟩ := h2; subst e1; exact .inr ⟨a, rfl, m, h1⟩
    | bor =>
      rcases h2 with h2 | ⟨a, e1, m, n⟩
      · exact .inl h2
      · subst e1; exact .inr ⟨a, rfl, m, h1⟩
    | dat => exact .inl h2
  · exact p.elim
theorem je_val {e : Expr} {v : V} {d : D} (h : PE X e (tC v)) (hd : ∀ H0, Dd X.K H0 v d) (hf : flatRoot d = true) : JE X xs W e .new (fun _ => some (.ok d)) := by
  refine pe_of h fun σ H Q h => ?_
  obtain ⟨en, ρ, H0, r, p⟩ := h
  exact p v H0 H (Ext.refl r.sub) (.inl ⟨hd H0, fun _ => hf⟩)
theorem je_un {op : UnaryOp} {r : V → Hp → VK → Prop} {f : D → Option D} (ho : UnR X (unaryOp op) r) (hf : Op1Ok n X.K r f) (ha : JE X xs W a sa ma) : JE X xs W (.UnaryOp op a pos) (Src.nw n) (lift1 f ma) := by
  refine pe_of (pe_un ho ha) fun σ H Q h => ?_
  obtain ⟨en, ρ, H0, rr, p⟩ := h
  refine ⟨en, ρ, H0, rr, ?_⟩
  unfold lift1 at p
  cases e1 : ma ρ with
  | none => rw [e1] at p; exact p.elim
  | some r1 =>
    rw [e1] at p
    cases r1 with
    | exc c q => exact p
    | ok d1 =>
      intro v H0' H' x1 z1
      simp only at p
      cases e3 : f d1 with
      | none => rw [e3] at p; exact p.elim
      | some d =>
        rw [e3] at p
        exact hf H0' H' v d1 d Q x1.sub z1.rb e3 fun v3 H3 H4 x3 z3 => p v3 H3 H4 (x1.trans x3) (z3.rz x1.s)
/-- two in a row, then an operation -/
theorem tau_two {σ : L2.St} {H : Hp} {Q : VK} {r : R2} {f : D → D → Option D} {K : PySem.W.Frag} {mg : Str → Option Value} (hf : Op2Ok n K r f) (h : Tau K mg xs W (Src.nw n) (lift2 f ma mb) σ H Q) :
    Tau K mg xs W sa ma σ H fun x H1 => Tau K mg xs W sb mb σ H1 fun y H2 => r x y H2 Q := by
  obtain ⟨en, ρ, H0, rr, p⟩ := h
  refine ⟨en, ρ, H0, rr, ?_⟩
  unfold lift2 at p
  cases e1 : ma ρ with
  | none => rw [e1] at p; exact p.elim
  | some r1 =>
    rw [e1] at p
    cases r1 with
    | exc c q => exact p
    | ok d1 =>
      intro v H0' H' x1 z1
      refine ⟨en, ρ, H0', rr.mono x1, ?_⟩
      simp only at p
      cases e2 : mb ρ with
      | none => rw [e2] at p; exact p.elim
      | some r2 =>
        rw [e2] at p
        cases r2 with
        | exc c q => exact fun cls dd A B x2 z2 => p cls dd A B (x1.trans x2) z2
        | ok d2 =>
          intro v2 H02 H2 x2 z2
          simp only at p
          cases e3 : f d1 d2 with
          | none => rw [e3] at p; exact p.elim
          | some d =>
            rw [e3] at p
            exact hf H02 H2 v v2 d1 d2 d Q x2.sub (z1.rb.mono x2) z2.rb e3 fun v3 H3 H4 x3 z3 => p v3 H3 H4 (x1.trans (x2.trans x3)) (z3.rz (x1.s.trans x2.s))
theorem je_op {op : Operator} {r : R2} {f : D → D → Option D} (ho : OpR X (binaryOp op) r) (hf : Op2Ok n X.K r f) (ha : JE X xs W a sa ma) (hb : JE X xs W b sb mb) : JE X xs W (.BinOp a op b pos) (Src.nw n) (lift2 f ma mb) :=
  pe_of (pe_op ho ha hb) fun σ H Q h => tau_two hf h
theorem je_cmp {op : CmpOp} {r : R2} {f : D → D → Option D} (ho : OpR X (compareOp op) r) (hf : Op2Ok n X.K r f) (hm : behindInMarks op b = false) (ha : JE X xs W a sa ma) (hb : JE X xs W b sb mb) : JE X xs W (.Compare a [op] [b] pos) (Src.nw n) (lift2 f ma mb) :=
  pe_of (pe_cmpR ho ha hb hm) fun σ H Q h => tau_two hf h
theorem je_ix {r : R2} {f : D → D → Option D} (ho : IxR X r) (hf : Op2Ok n X.K r f) (hs : PlainIx b) (ha : JE X xs W a sa ma) (hb : JE X xs W b sb mb) : JE X xs W (.Subscript a b pos) (Src.nw n) (lift2 f ma mb) :=
  pe_of (pe_ix ho ha hb hs) fun σ H Q h => tau_two hf h
/-- the answer may be locked -/
theorem pe_lockR {e : Expr} {t : TE} (h : PE X e t) : PE X e (fun σ H Q => t σ H fun v H1 => Q v H1 ∨ ∃ d u, v = .ref d ∧ H1 d = some u ∧ Mut (some u) ∧ ∀ od, Q v (upd H1 d (.frz od u))) := by
  refine ⟨fun pins s σ H Q I q => thn (h.run pins s σ H _ I q) fun v s1 ⟨x, H1, I1, r1, q1⟩ => ?_⟩
  rcases q1 with q1 | ⟨d, u, rfl, hd, mu, q1⟩
  · exact ⟨x, H1, I1, r1, q1⟩
  · obtain ⟨od, I2⟩ := I1.lock hd mu
    exact ⟨_, _, I2, r1, q1 od⟩
def isDict : D → Bool
  | .dict _ => true
  | _ => false
theorem not_dict {d : D} (h : isDict d = false) : ∀ kvs, d ≠ .dict kvs := by
  intro kvs e
  subst e
  cases h
/-- a settled answer from any -/
theorem jd_of (ha : JE X xs W a sa ma) (hs : ∀ i, sa = .slot i → ma = fun ρ => slotVal ρ i) : JD X xs W a (keep sa ma) := by
  refine pe_of (pe_lockR ha) fun σ H Q h => ?_
  obtain ⟨en, ρ, H0, rr, p⟩ := h
  refine ⟨en, ρ, H0, rr, ?_⟩
  unfold keep at p
  have plain : (∀ i, sa ≠ .slot i) → PostD X.K X.mg xs W σ H0 H Q (ma ρ) → PostR X.K X.mg xs W sa σ H0 H (fun v H1 => Q v H1 ∨ ∃ d u, v = .ref d ∧ H1 d = some u ∧ Mut (some u) ∧ ∀ od, Q v (upd H1 d (.frz od u))) (ma ρ) := by
    intro hn p
    cases e1 : ma ρ with
    | none => rw [e1] at p; exact p.elim
    | some r1 =>
      rw [e1] at p
      cases r1 with
      | exc c q => exact p
      | ok d1 =>
        intro v H0' H' x1 z1
        cases hd : isDict d1 with
        | false =>
          obtain ⟨H02, k1, _, _, _, k5⟩ := RS.settle x1 (z1.rs hn) (not_dict hd)
          exact .inl (p v H02 H' k1 k5)
        | true =>
          cases d1 with
          | dict ds =>
            rcases z1.rs hn with ⟨z, _⟩ | ⟨a, rfl, m, n⟩
            · exact .inl (p v H0' H' x1 z)
            · rcases lock_new x1 m n with ⟨kvs, g1, g2⟩ | ⟨H0'', g3, g4⟩
              · refine .inr ⟨a, _, rfl, g1, trivial, fun od => ?_⟩
                obtain ⟨H0'', g3, g4⟩ := g2 od
                exact p _ H0'' _ g3 g4
              · exact .inl (p _ H0'' _ g3 g4)
          | _ => cases hd
  cases sa with
  | new => exact plain (fun i e => nomatch e) p
  | any => exact plain (fun i e => nomatch e) p
  | slot i =>
    simp only at p
    rw [hs i rfl]
    unfold keepV at p
    unfold slotVal
    dsimp only
    split at p
    · rename_i fl d e
      intro v H0' H' x1 z1
      refine .inl ?_
      split at p
      · rename_i c
        refine p v H0' H' x1 ?_
        rcases z1 with z1 | ⟨a1, q, m, z⟩
        · exact z1
        · rcases c with c | c
          · subst c
            obtain ⟨w, h1, h2⟩ := rr.slot i _ _ e
            have h2' : Dd X.K H0 w d := h2
            subst q
            have z' : σ[i]? = some (some (.ref a1)) := z
            rw [h1] at z'
            cases z'
            exact h2'.mono x1.s0
          · cases m <;> simp [flatRoot] at c
      · exact p.elim
    · exact p.elim

/-! ### argument lists -/
theorem ja_nil : JA X xs W [] (fun _ => some (.ok [])) := by
  refine pa_of pa_nil fun σ H Q h => ?_
  obtain ⟨en, ρ, H0, r, p⟩ := h
  exact p [] H0 H (Ext.refl r.sub) .nil
theorem ja_cons {e : Expr} {es : List Expr} {m : Rho → Option Res} {ms : Rho → Option ResL} (he : JE X xs W e sa m) (hr : JA X xs W es ms)
    (hs : starEach (e :: es) X.env = (false, eval e X.env) :: starEach es X.env) : JA X xs W (e :: es) (consA m ms) := by
  refine pa_of (pa_cons he hr hs) fun σ H Q h => ?_
  obtain ⟨en, ρ, H0, rr, p⟩ := h
  refine ⟨en, ρ, H0, rr, ?_⟩
  unfold consA at p
  cases e1 : m ρ with
  | none => rw [e1] at p; exact p.elim
  | some r1 =>
    rw [e1] at p
    cases r1 with
    | exc c q => exact p
    | ok d1 =>
      intro v H0' H' x1 z1
      refine ⟨en, ρ, H0', rr.mono x1, ?_⟩
      simp only at p
      cases e2 : ms ρ with
      | none => rw [e2] at p; exact p.elim
      | some r2 =>
        rw [e2] at p
        cases r2 with
        | exc c q => exact fun cls dd A B x2 z2 => p cls dd A B (x1.trans x2) z2
        | ok d2 => exact fun vs H02 H2 x2 z2 => p (v :: vs) H02 H2 (x1.trans x2) (.cons (z1.rb.mono x2) z2)
theorem jad_nil : JAD X xs W [] (fun _ => some (.ok [])) := by
  refine pa_of pa_nil fun σ H Q h => ?_
  obtain ⟨en, ρ, H0, r, p⟩ := h
  exact p [] H0 H (Ext.refl r.sub) .nil
theorem jad_cons {e : Expr} {es : List Expr} {m : Rho → Option Res} {ms : Rho → Option ResL} (he : JD X xs W e m) (hr : JAD X xs W es ms)
    (hs : starEach (e :: es) X.env = (false, eval e X.env) :: starEach es X.env) : JAD X xs W (e :: es) (consA m ms) := by
  refine pa_of (pa_cons he hr hs) fun σ H Q h => ?_
  obtain ⟨en, ρ, H0, rr, p⟩ := h
  refine ⟨en, ρ, H0, rr, ?_⟩
  unfold consA at p
  cases e1 : m ρ with
  | none => rw [e1] at p; exact p.elim
  | some r1 =>
    rw [e1] at p
    cases r1 with
    | exc c q => exact p
    | ok d1 =>
      intro v H0' H' x1 z1
      refine ⟨en, ρ, H0', rr.mono x1, ?_⟩
      simp only at p
      cases e2 : ms ρ with
      | none => rw [e2] at p; exact p.elim
      | some r2 =>
        rw [e2] at p
        cases r2 with
        | exc c q => exact fun cls dd A B x2 z2 => p cls dd A B (x1.trans x2) z2
        | ok d2 => exact fun vs H02 H2 x2 z2 => p (v :: vs) H02 H2 (x1.trans x2) (.cons (z1.mono x2.s0) z2)
/-- displays (at most a million items are written) -/
def okSize (ds : List D) : Bool := decide (ds.length ≤ 16777216)
def tTupP (t : TA) : TE := fun σ H Q => t σ H fun ys H1 => ys.length ≤ sizeLine ∧ ∀ p o, H1 p = none → o.dict = none → Q (.ref p) (upd H1 p (.frz o (.tup ys)))
theorem pe_tupP {es : List Expr} {t : TA} {x1 : Nat} (h : PA X es t) : PE X (.Tuple es x1 pos) (tTupP t) := by
  constructor
  intro pins s σ H Q I hq
  refine wpAny_Tuple_spliced (thn (h.run pos pins s σ H _ I hq) fun us s1 ⟨ys, H1, I1, rr, hz, q⟩ => ⟨by rw [← rr.length]; exact hz, ?_⟩)
  exact ⟨.ref s1.heap.objs.size, _, inv_tnew (t' := s1.toks) I1 rr hz, rfl, q _ _ (I1.hok.fresh (Nat.le_refl _)) rfl⟩
theorem je_tup {es : List Expr} {x1 : Nat} {ms : Rho → Option ResL} (h : JAD X xs W es ms) : JE X xs W (.Tuple es x1 pos) .new (liftA (fun ds => if okSize ds then some (.tuple ds) else none) ms) := by
  refine pe_of (pe_tupP h) fun σ H Q h => ?_
  obtain ⟨en, ρ, H0, rr, p⟩ := h
  refine ⟨en, ρ, H0, rr, ?_⟩
  unfold liftA at p
  cases e1 : ms ρ with
  | none => rw [e1] at p; exact p.elim
  | some r1 =>
    rw [e1] at p
    cases r1 with
    | exc c q => exact p
    | ok d1 =>
      intro v H0' H' x1 z1
      simp only at p
      split at p
      · rename_i hz
        unfold okSize at hz
        have hz := of_decide_eq_true hz
        refine ⟨by rw [z1.length, sizeLine_eq]; exact hz, fun q o nq no => ?_⟩
        have x2 := ext_newS (o := .frz o (.tup v)) x1.sub nq
        exact p (.ref q) _ _ (x1.trans x2) (.inl ⟨.tup upd_same no (z1.mono x2.s0), fun _ => rfl⟩)
      · exact p.elim
theorem je_lst {es : List Expr} {ms : Rho → Option ResL} (h : JAD X xs W es ms) : JE X xs W (.List es pos) .new (liftA (fun ds => if okSize ds then some (.list ds) else none) ms) := by
  refine pe_of (pe_lst h) fun σ H Q h => ?_
  obtain ⟨en, ρ, H0, rr, p⟩ := h
  refine ⟨en, ρ, H0, rr, ?_⟩
  unfold liftA at p
  cases e1 : ms ρ with
  | none => rw [e1] at p; exact p.elim
  | some r1 =>
    rw [e1] at p
    cases r1 with
    | exc c q => exact p
    | ok d1 =>
      intro v H0' H' x1 z1
      simp only at p
      split at p
      · rename_i hz
        unfold okSize at hz
        have hz := of_decide_eq_true hz
        refine ⟨by rw [z1.length, sizeLine_eq]; exact hz, fun q nq => ?_⟩
        have x2 := ext_new (o := .lst v) x1.sub nq
        exact p (.ref q) _ _ (x1.trans x2) (.inr ⟨q, rfl, .lst (not_settled x1.sub nq) upd_same z1, x1.s.free nq⟩)
      · exact p.elim
/-- a built-in by its name -/
theorem tau_args {σ : L2.St} {H : Hp} {Q : VK} {r : List V → Hp → VK → Prop} {f : List D → Option D} {K : PySem.W.Frag} {mg : Str → Option Value} {ms : Rho → Option ResL} (hf : OpAOk n K r f) (h : Tau K mg xs W (Src.nw n) (liftA f ms) σ H Q) :
    TauA K mg xs W ms σ H fun vs H1 => r vs H1 Q := by
  obtain ⟨en, ρ, H0, rr, p⟩ := h
  refine ⟨en, ρ, H0, rr, ?_⟩
  unfold liftA at p
  cases e1 : ms ρ with
  | none => rw [e1] at p; exact p.elim
  | some r1 =>
    rw [e1] at p
    cases r1 with
    | exc c q => exact p
    | ok d1 =>
      intro v H0' H' x1 z1
      simp only at p
      cases e3 : f d1 with
      | none => rw [e3] at p; exact p.elim
      | some d =>
        rw [e3] at p
        exact hf H0' H' v d1 d Q x1.sub z1 e3 fun v3 H3 H4 x3 z3 => p v3 H3 H4 (x1.trans x3) (z3.rz x1.s)
theorem je_callB {id : String} {x : Str} {p : Pos} {e : Expr} {es : List Expr} {r : List V → Hp → VK → Prop} {f : List D → Option D} {ms : Rho → Option ResL} (hc : CallR X (.builtin id) r) (hf : OpAOk n X.K r f) (hg : Gl X x) (hm : X.mg x = none) (hv : bootBuiltins x = some (.builtin id)) (ha : JA X xs W (e :: es) ms)
    (hn : x ≠ "__name__") (hdb : (x == ("__debug__" : Str)) = false) (he : starEach (e :: es) X.env = (false, eval e X.env) :: starEach es X.env) (hpl : (backTo pos (starEach es X.env)).any (·.1) = false) :
    JE X xs W (.Call (.Name x p) (e :: es) [] pos) (Src.nw n) (liftA f ms) :=
  pe_of (pe_callB hc hg hm hv ha hn hdb he hpl) fun σ H Q h => tau_args hf h
theorem je_callTy {T : String} {x : Str} {p : Pos} {e : Expr} {es : List Expr} {r : List V → Hp → VK → Prop} {f : List D → Option D} {ms : Rho → Option ResL} (hc : CallR X (.type T) r) (hf : OpAOk n X.K r f) (hg : Gl X x) (hm : X.mg x = none) (hv : bootBuiltins x = some (.type T)) (ha : JA X xs W (e :: es) ms)
    (hn : x ≠ "__name__") (hdb : (x == ("__debug__" : Str)) = false) (he : starEach (e :: es) X.env = (false, eval e X.env) :: starEach es X.env) (hpl : (backTo pos (starEach es X.env)).any (·.1) = false) :
    JE X xs W (.Call (.Name x p) (e :: es) [] pos) (Src.nw n) (liftA f ms) :=
  pe_of (pe_callTy hc hg hm hv ha hn hdb he hpl) fun σ H Q h => tau_args hf h

/-! ### a def's promise -/
/-- what a def keeps whose answer is the function phi of its arguments -/
def spOf (nw : Bool) (K : PySem.W.Frag) (mg : Str → Option Value) (xs : List Str) (n : Nat) (phi : List D → Option Res) : Sp := fun vs H Q E => vs.length = n ∧ ∃ (H0 : Hp) (ds : List D), Same H0 H ∧ RBs K H0 H vs ds ∧
  match phi ds with
  | none => False
  | some (.ok d) => ∀ v H0' H', Ext H0 H H0' H' → RS nw K H H0' H' v d → Q v H'
  | some (.exc c p) => ∀ cls dd H0' H', Ext H0 H H0' H' → ExcIs K mg xs c p cls dd H0' H' → E cls dd H'
def callF (f : List D → Option Res) (ma : Rho → Option ResL) : Rho → Option Res := fun ρ => match ma ρ with
  | some (.ok d) => f d
  | some (.exc c p) => some (.exc c p)
  | none => none
theorem RBs.length {K : PySem.W.Frag} {H0 H : Hp} : ∀ {vs : List V} {ds : List D}, RBs K H0 H vs ds → vs.length = ds.length := Paired.length
theorem je_call {k : Nat} {f : Addr} {fd : FuncData} {ps : List Str} {x : Str} {p : Pos} {e : Expr} {es : List Expr} {phi : List D → Option Res} {ms : Rho → Option ResL} (tk : Takes X W)
    (F : FnOk X.prog X.w X.K X.mg X.base (L2.CX X.prog X.w) k f fd ps (spOf n X.K X.mg xs ps.length phi)) (hr : Room k X.A) (hg : Gl X x) (hm : X.mg x = some (.ref f)) (hk : PySem.W.keepIn X.K (.ref f) = true) (hb : Binds X.K fd ps [])
    (ha : JA X xs W (e :: es) ms) (hl : ∀ ρ ds, ms ρ = some (.ok ds) → ds.length = ps.length) (hdb : (x == ("__debug__" : Str)) = false) (he : starEach (e :: es) X.env = (false, eval e X.env) :: starEach es X.env) (hpl : (backTo pos (starEach es X.env)).any (·.1) = false) :
    JE X xs W (.Call (.Name x p) (e :: es) [] pos) (Src.nw n) (callF phi ms) := by
  refine pe_of (pe_callS F hr hg hm hk hb (fun σ => passAt tk σ) ha hdb he hpl) fun σ H Q h => ?_
  obtain ⟨en, ρ, H0, rr, p⟩ := h
  refine ⟨en, ρ, H0, rr, ?_⟩
  unfold callF at p
  cases e1 : ms ρ with
  | none => rw [e1] at p; exact p.elim
  | some r1 =>
    rw [e1] at p
    cases r1 with
    | exc c q => exact p
    | ok d1 =>
      intro v H0' H' x1 z1
      simp only at p
      refine ⟨by rw [z1.length]; exact hl ρ d1 e1, H0', d1, x1.sub, z1, ?_⟩
      cases e3 : phi d1 with
      | none => rw [e3] at p; exact p.elim
      | some r3 =>
        rw [e3] at p
        cases r3 with
        | exc c q => exact fun cls dd A B x2 z2 => p cls dd A B (x1.trans x2) z2
        | ok d => exact fun v3 H3 H4 x3 z3 => p v3 H3 H4 (x1.trans x3) (z3.rz x1.s)

/-! ### tests -/
def truthD : D → Option Bool
  | .none => some false
  | .bool b => some b
  | .int i => some (i != 0)
  | .list ds => some (!ds.isEmpty)
  | .tuple ds => some (!ds.isEmpty)
  | _ => none
def tstB (ma : Rho → Option Res) : Rho → Option ResB := fun ρ => match ma ρ with
  | some (.ok d) => (truthD d).map .ok
  | some (.exc c p) => some (.exc c p)
  | none => none
theorem truV_of {K : PySem.W.Frag} {H0 H : Hp} {v : V} {d : D} {b : Bool} (s : Same H0 H) (h : RB K H0 H v d) (e : truthD d = some b) : TruV K v H b := by
  cases d with
  | none => cases h.none; cases e; rfl
  | bool b => cases h.bool; cases e; rfl
  | int i => cases h.int; cases e; rfl
  | str x => cases e
  | dict x => cases e
  | list ds =>
    obtain ⟨a, ys, rfl, h1, h2⟩ := h.list s
    cases e
    refine .inl ⟨ys, .inl h1, ?_⟩
    have := h2.length
    cases ys <;> cases ds <;> simp_all
  | tuple ds =>
    obtain ⟨a, ys, rfl, h1, h2⟩ := h.tuple s
    cases e
    refine .inr (.inl ⟨ys, .inl h1, ?_⟩)
    have := h2.length
    cases ys <;> cases ds <;> simp_all
theorem jt_truth (ha : JE X xs W a sa ma) (he : ∀ whole, isTrue a X.env whole = (do let v ← whole; standAt a.pos; holding [v] (truthy v))) : JT X xs W a (tstB ma) := by
  refine pt_of (pt_truth ha he) fun σ H Q h => ?_
  obtain ⟨en, ρ, H0, rr, p⟩ := h
  refine ⟨en, ρ, H0, rr, ?_⟩
  unfold tstB at p
  cases e1 : ma ρ with
  | none => rw [e1] at p; exact p.elim
  | some r1 =>
    rw [e1] at p
    cases r1 with
    | exc c q => exact p
    | ok d1 =>
      intro v H0' H' x1 z1
      simp only at p
      cases e3 : truthD d1 with
      | none => rw [e3] at p; exact p.elim
      | some b =>
        rw [e3] at p
        exact ⟨b, truV_of x1.sub z1.rb e3, p H0' H' x1⟩
/-- a comparison as a test: its answer is a bool -/
theorem jt_cmp {op : CmpOp} {r : R2} {f : D → D → Option D} (ho : OpR X (compareOp op) r) (hf : Op2Ok n X.K r f) (hfb : ∀ d e z, f d e = some z → ∃ b, z = .bool b) (hm : behindInMarks op b = false) (ha : JE X xs W a sa ma) (hb : JE X xs W b sb mb) :
    JT X xs W (.Compare a [op] [b] pos) (tstB (lift2 f ma mb)) := by
  refine pt_of (pt_cmpR ho ha hb hm) fun σ H Q h => ?_
  refine tau_two (mg := X.mg) (Q := fun x H' => ∃ k, x = .bl k ∧ Q k H') hf ?_
  obtain ⟨en, ρ, H0, rr, p⟩ := h
  refine ⟨en, ρ, H0, rr, ?_⟩
  unfold tstB at p
  have hb : ∀ d, lift2 f ma mb ρ = some (.ok d) → ∃ b, d = .bool b := by
    intro d hd
    unfold lift2 at hd
    split at hd
    · split at hd
      · rename_i d1 _ _ d2 _
        cases e : f d1 d2 with
        | none => rw [e] at hd; cases hd
        | some z =>
          rw [e] at hd
          cases hd
          exact hfb _ _ _ e
      · cases hd
      · cases hd
    · cases hd
    · cases hd
  cases e1 : lift2 f ma mb ρ with
  | none => rw [e1] at p; exact p.elim
  | some r1 =>
    rw [e1] at p
    cases r1 with
    | exc c q => exact p
    | ok d =>
      obtain ⟨k, rfl⟩ := hb d e1
      intro v H0' H' x1 z1
      cases z1.rb.bool
      exact ⟨k, rfl, p H0' H' x1⟩
def notB (m : Rho → Option ResB) : Rho → Option ResB := fun ρ => match m ρ with
  | some (.ok b) => some (.ok (!b))
  | some (.exc c p) => some (.exc c p)
  | none => none
def andB (m n : Rho → Option ResB) : Rho → Option ResB := fun ρ => match m ρ with
  | some (.ok true) => n ρ
  | some (.ok false) => some (.ok false)
  | some (.exc c p) => some (.exc c p)
  | none => none
def orB (m n : Rho → Option ResB) : Rho → Option ResB := fun ρ => match m ρ with
  | some (.ok true) => some (.ok true)
  | some (.ok false) => n ρ
  | some (.exc c p) => some (.exc c p)
  | none => none
theorem jt_not {m : Rho → Option ResB} (h : JT X xs W a m) : JT X xs W (.UnaryOp .Not a pos) (notB m) := by
  refine pt_of (pt_not h) fun σ H Q h => ?_
  obtain ⟨en, ρ, H0, rr, p⟩ := h
  refine ⟨en, ρ, H0, rr, ?_⟩
  unfold notB at p
  cases e1 : m ρ with
  | none => rw [e1] at p; exact p.elim
  | some r1 =>
    rw [e1] at p
    cases r1 with
    | exc c q => exact p
    | ok b => exact fun H0' H' x1 => p H0' H' x1
def JW (X : Cx) (xs : List Str) (W : WX) (e : Expr) (m : Rho → Option ResB) : Prop := PW X e (TauB X.K X.mg xs W m)
theorem jw_and1 {m : Rho → Option ResB} (h : JT X xs W a m) : JW X xs W (.BoolOp .And [a] pos) m := pw_and1 h
theorem jw_or1 {m : Rho → Option ResB} (h : JT X xs W a m) : JW X xs W (.BoolOp .Or [a] pos) m := pw_or1 h
theorem jw_and {rest : List Expr} {m n : Rho → Option ResB} (h : JT X xs W a m) (h2 : JW X xs W (.BoolOp .And (b :: rest) pos) n) : JW X xs W (.BoolOp .And (a :: b :: rest) pos) (andB m n) := by
  refine pw_of (pw_and h h2) fun σ H Q h => ?_
  obtain ⟨en, ρ, H0, rr, p⟩ := h
  refine ⟨en, ρ, H0, rr, ?_⟩
  unfold andB at p
  cases e1 : m ρ with
  | none => rw [e1] at p; exact p.elim
  | some r1 =>
    rw [e1] at p
    cases r1 with
    | exc c q => exact p
    | ok b =>
      intro H0' H' x1
      cases b with
      | false => exact iteF (p H0' H' x1)
      | true =>
        refine iteT ⟨en, ρ, H0', rr.mono x1, ?_⟩
        simp only at p
        cases e2 : n ρ with
        | none => rw [e2] at p; exact p.elim
        | some r2 =>
          rw [e2] at p
          cases r2 with
          | exc c q => exact fun cls dd A B x2 z2 => p cls dd A B (x1.trans x2) z2
          | ok b => exact fun H02 H2 x2 => p H02 H2 (x1.trans x2)
theorem jw_or {rest : List Expr} {m n : Rho → Option ResB} (h : JT X xs W a m) (h2 : JW X xs W (.BoolOp .Or (b :: rest) pos) n) : JW X xs W (.BoolOp .Or (a :: b :: rest) pos) (orB m n) := by
  refine pw_of (pw_or h h2) fun σ H Q h => ?_
  obtain ⟨en, ρ, H0, rr, p⟩ := h
  refine ⟨en, ρ, H0, rr, ?_⟩
  unfold orB at p
  cases e1 : m ρ with
  | none => rw [e1] at p; exact p.elim
  | some r1 =>
    rw [e1] at p
    cases r1 with
    | exc c q => exact p
    | ok b =>
      intro H0' H' x1
      cases b with
      | true => exact iteT (p H0' H' x1)
      | false =>
        refine iteF ⟨en, ρ, H0', rr.mono x1, ?_⟩
        simp only at p
        cases e2 : n ρ with
        | none => rw [e2] at p; exact p.elim
        | some r2 =>
          rw [e2] at p
          cases r2 with
          | exc c q => exact fun cls dd A B x2 z2 => p cls dd A B (x1.trans x2) z2
          | ok b => exact fun H02 H2 x2 => p H02 H2 (x1.trans x2)
end
end DD

namespace DD
open PySem PySem.Spec PyProof.Rows L2

/-! ### rules of the layer, for things that are known too -/
section
variable {X : Cx} {pins : List (Addr × Obj)} {σ : L2.St} {H : Hp} {s : Shared} {l : Addr} {xs : List V}
theorem inv_lstR (I : Inv X pins σ H s) (hH : Rd H l (.lst xs)) : xs.length ≤ sizeLine ∧ ∃ (its : List Value) (n : Nat), Vals xs its ∧ xs.length = its.length ∧ s.heap.get? l = some { cls := .type "list", data := .seq its.toArray n } := by
  obtain ⟨z, its, n, r, e⟩ := hH.ok I.hok
  exact ⟨z, its, n, r, r.length, e⟩
end
section
variable {X : Cx}
def rCatL : R2 := fun x y H Q => ∃ l b xs zs, x = .ref l ∧ y = .ref b ∧ Rd H l (.lst xs) ∧ Rd H b (.lst zs) ∧ xs.length + zs.length ≤ sizeLine ∧ ∀ p, H p = none → Q (.ref p) (upd H p (.lst (xs ++ zs)))
theorem op_catL : OpR X (binaryOp .Add) rCatL := by
  intro pins s σ H x y v u Q I rx ry h
  obtain ⟨l, b, xs, zs, rfl, rfl, hH, hB, hz, q⟩ := h
  cases rx
  cases ry
  obtain ⟨z, its, n, r, hl, e⟩ := inv_lstR I hH
  obtain ⟨z2, its2, n2, r2, hl2, e2⟩ := inv_lstR I hB
  refine PySem.P.add_list e e2 ?_ (by rw [List.size_toArray, List.size_toArray]; omega)
  have ea : its.toArray ++ its2.toArray = (its ++ its2).toArray := by simp
  rw [ea]
  exact ⟨.ref _, _, I.lnew (t' := s.toks) (r.append r2) (by rw [List.length_append]; omega), rfl, q _ I.fresh⟩
def rRepL : R2 := fun x y H Q => ∃ l k xs, x = .ref l ∧ y = .int k ∧ Rd H l (.lst xs) ∧ -(2 ^ 63) ≤ k ∧ k < 2 ^ 63 ∧ xs.length * k.toNat ≤ sizeLine ∧
  ∀ p, H p = none → Q (.ref p) (upd H p (.lst (List.replicate k.toNat xs).flatten))
theorem op_repL : OpR X (binaryOp .Mult) rRepL := by
  intro pins s σ H x y v u Q I rx ry h
  obtain ⟨l, k, xs, rfl, rfl, hH, h1, h2, hz, q⟩ := h
  cases rx
  obtain ⟨t, rfl⟩ := ry
  obtain ⟨z, its, n, r, hl, e⟩ := inv_lstR I hH
  have hlen : its.toArray.size * k.toNat ≤ sizeLine := by rw [List.size_toArray, ← hl]; exact hz
  have hcap : ¬ its.toArray.size * k.toNat > (2 ^ 63 - 1) / 8 := by
    have : (sizeLine : Nat) ≤ (2 ^ 63 - 1) / 8 := by decide
    omega
  have hfit : ¬ (!Builtin.List.listFitsIndex k) = true := by
    rw [fitsIndex_both h1 h2]
    exact Bool.false_ne_true
  have hlong : ¬ Builtin.List.listTooLong (its.toArray.size * k.toNat) = true := by
    rw [notLongL hlen]
    exact Bool.false_ne_true
  have hnew : List.foldl (fun x1 x2 => x1 ++ x2) #[] (List.replicate (if its.toArray.isEmpty = true then 0 else k.toNat) its.toArray) = (List.replicate k.toNat its).flatten.toArray := by
    have f0 : ∀ m : Nat, List.foldl (fun x1 x2 => x1 ++ x2) #[] (List.replicate m its.toArray) = (List.replicate m its).flatten.toArray := fun m => by
      have := foldl_rep its m []
      rw [List.nil_append] at this
      exact this
    rw [f0]
    cases its with
    | nil => simp
    | cons a r' => rw [if_neg (by simp)]
  refine wpAny_binaryOp_repeat_ref (T := "list") (U := "int") (by decide) ⟨_, e, rfl⟩ (fun s' => typeIs_int s' k t) noFill_list_mul F.fills_int_mul F.slot_int_rmul repeat_list F.slot_int_index.lookup
    (call_meets F.slot_int_rmul (typeIs_int s k t) F.entry_int_rmul (F.args_int_rmul_2 _ _) (int___rmul___int_list k t l its.toArray n)
      ⟨e, rfl, ⟨_, e, rfl⟩, call_meets F.slot_list_mul ⟨_, e, rfl⟩ F.entry_list_mul (F.args_list_mul_2 _ _) (AutoListH.list___mul___list_int_3 l its.toArray n k t hfit hcap hlong) ⟨e, ?_⟩⟩)
  rw [hnew]
  exact ⟨.ref _, _, I.lnew (t' := s.toks) (r.rep k.toNat) (by rw [PyProof.Rows.lm_len_rep_flat, Nat.mul_comm]; exact hz), rfl, q _ I.fresh⟩
theorem sum_rawT {prog : Program} {w : World} {A : Around} {E : Value → Shared → Prop} {s : Shared} {l : Addr} {its : List Value} {ns : List Int} {Q : Value → Shared → Prop} (hh : A.handled = none) (hl : s.heap.IsTuple l its.toArray) (hi : IntsAre its ns)
    (h : ∀ h' tk t', (∀ b o, s.heap.get? b = some o → h'.get? b = some o) → Q (.int ns.sum t') { s with heap := h', toks := tk }) : wpAny (model prog w) A (call (.builtin "sum") [.ref l]) Q E s := by
  obtain ⟨xs, e⟩ := hi.allInts.items
  have hn : numsOf (intItems xs).toList = ns := by rw [← e]; exact hi.numsOf
  rw [nums_intItems] at hn
  rw [e] at hl
  have hlt : l < s.heap.objs.size := by
    obtain ⟨o, ho, _⟩ := hl
    exact Heap.lt_size ho
  refine call_sum_walkG (wpAny_pyIter_tuple hl ?_)
  refine ⟨_, [s.heap.objs.size, l], [s.heap.objs.size], _, _, _, numAt xs, rfl, Walks.tuple (A := A.in1) hh _ l (Nat.ne_of_lt hlt) (intItems xs), ⟨⟨_, Heap.get?_push_size _ rfl, rfl, rfl⟩, ?_⟩, fun b hb => ?_, (fun _ _ => intItems_at), fun h' tk t' hk => ?_⟩
  · obtain ⟨o, ho, h1⟩ := hl
    exact ⟨o, Heap.get?_push_of_some _ ho, h1⟩
  · rw [Heap.size_push]
    simp only [List.mem_cons, List.not_mem_nil, or_false] at hb
    rcases hb with rfl | rfl
    · exact Nat.lt_succ_self _
    · exact Nat.lt_succ_of_lt hlt
  · have := h h' tk t' (fun b o e => hk b o (by
      simp only [List.mem_cons, List.not_mem_nil, or_false]
      exact Nat.ne_of_lt (Heap.lt_size e)) (Heap.get?_push_of_some _ e))
    have e2 : preSum (numAt xs) (intItems xs).size = ns.sum := by
      rw [preSum_eq, List.take_of_length_le (by simp [intItems]), hn]
    rw [e2]
    exact this
def rSumT (K : PySem.W.Frag) : List V → Hp → VK → Prop := fun vs H Q => ∃ (a : Addr) (ns : List Int), vs = [V.ref a] ∧ SqT K H a (ns.map V.int) ∧ Q (.int ns.sum) H
theorem cr_sumT (hc : X.calm = true) : CallR X (.builtin "sum") (rSumT X.K) := by
  intro pins s σ H xs us Q I r h
  obtain ⟨a, ns, rfl, hq, q⟩ := h
  cases Vals.ref1 r
  obtain ⟨its, rv, p, hz⟩ := I.tuple hq
  exact sum_rawT (I.ok.hd hc) p (Vals.ints rv) fun h' tk t' hk => ⟨.int ns.sum, H, I.kept hk, ⟨_, rfl⟩, q⟩
end

/-! ### new tuples, known to be plain -/
section
variable {X : Cx}
def rCatP (K : PySem.W.Frag) : R2 := fun x y H Q => ∃ a b us ws, x = .ref a ∧ y = .ref b ∧ SqT K H a us ∧ SqT K H b ws ∧ us.length + ws.length ≤ sizeLine ∧
  (us = [] → Q (.ref b) H) ∧ (us ≠ [] → ws = [] → Q (.ref a) H) ∧ (us ≠ [] → ws ≠ [] → ∀ p o, H p = none → o.dict = none → Q (.ref p) (upd H p (.frz o (.tup (us ++ ws)))))
theorem op_catP : OpR X (binaryOp .Add) (rCatP X.K) := by
  intro pins s σ H x y v u Q I rx ry ⟨a, b, us, ws, ex, ey, ha, hb, hz, q0, q1, q2⟩
  subst ex ey
  cases rx; cases ry
  obtain ⟨ia, ra, pa, _⟩ := I.tuple ha
  obtain ⟨ib, rb, pb, _⟩ := I.tuple hb
  by_cases h0 : us = []
  · subst h0
    cases ra
    exact cat_tup0 pa pb ⟨.ref b, H, I, rfl, q0 rfl⟩
  · refine HT.cat_tup pa pb (fun e => h0 (ra.nil_iff.mp e)) (fun e => ⟨.ref a, H, I, rfl, q1 h0 (rb.nil_iff.mp e)⟩) (fun e => ?_) (by rw [← ra.length, ← rb.length]; exact hz)
    have J := inv_tnew (t' := s.toks) I (ra.append rb) (by rw [List.length_append]; exact hz)
    refine ⟨.ref s.heap.objs.size, _, ?_, rfl, q2 h0 (fun w => e (rb.nil_iff.mpr w)) _ (tob (ia ++ ib)) (I.hok.fresh (Nat.le_refl _)) rfl⟩
    have ee : ia.toArray ++ ib.toArray = (ia ++ ib).toArray := by simp
    first
      | exact J
      | (rw [ee]; exact J)
def rRepP (K : PySem.W.Frag) : R2 := fun x y H Q => ∃ l k us, x = .ref l ∧ y = .int k ∧ SqT K H l us ∧ us ≠ [] ∧ 2 ≤ k ∧ k ≤ 1000 ∧ us.length ≤ 1000 ∧
  ∀ p o, H p = none → o.dict = none → Q (.ref p) (upd H p (.frz o (.tup (List.replicate k.toNat us).flatten)))
theorem op_repP : OpR X (binaryOp .Mult) (rRepP X.K) := by
  intro pins s σ H x y v u Q I rx ry ⟨l, k, us, ex, ey, hT, hne, h1, h2, hz, q⟩
  subst ex ey
  cases rx
  obtain ⟨t, rfl⟩ := ry
  obtain ⟨its, r, ⟨⟨cls, dd, data, sl⟩, ho, hc, n, hd⟩, hs⟩ := I.tuple hT
  dsimp only at hc hd
  subst hc hd
  have el : its.length = us.length := r.length.symm
  have hn : its ≠ [] := fun e => hne (List.eq_nil_of_length_eq_zero (by rw [← el, e]; rfl))
  have hi : its.toArray.isEmpty = false := by cases its <;> first | exact absurd rfl hn | rfl
  have es : its.toArray.size = us.length := by rw [List.size_toArray, el]
  have hb : k.toNat * us.length ≤ 1000 * 1000 := Nat.mul_le_mul (by omega) hz
  have hm : ((its.toArray.size : Nat) : Int) * k ≤ 1000000 := by
    rw [es]
    have a1 : ((us.length : Nat) : Int) * k ≤ 1000 * k := Int.mul_le_mul_of_nonneg_right (by omega) (by omega)
    omega
  have fl : (List.replicate k.toNat its).flatten.length ≤ sizeLine := by
    rw [PyProof.Rows.lm_len_rep_flat, el, sizeLine_eq]; omega
  have fl2 : (List.replicate k.toNat us).flatten.length ≤ sizeLine := by
    rw [PyProof.Rows.lm_len_rep_flat, sizeLine_eq]; omega
  have c0 : (decide (k < -(2 ^ 63)) || decide (k ≥ 2 ^ 63)) = false := by rw [decide_eq_false (by omega), decide_eq_false (by omega)]; rfl
  have c1 : (its.toArray.isEmpty || k == 1) = false := by rw [hi, Bool.false_or]; exact beq_eq_false_iff_ne.mpr (by omega)
  have c2 : (decide (k ≤ 0) || its.toArray.isEmpty) = false := by rw [hi, Bool.or_false]; exact decide_eq_false (by omega)
  have c4 : Builtin.Tuple.tupleTooMany (((its.toArray.size : Nat) : Int) * k) = false := by
    unfold Builtin.Tuple.tupleTooMany; rw [sizeLine_eq]; exact decide_eq_false (by omega)
  have J := inv_tnew (t' := s.toks) I (r.rep k.toNat) fl2
  refine wpAny_binaryOp_repeat_ref (T := "tuple") (U := "int") (by decide) ⟨_, ho, rfl⟩ (fun s' => typeIs_int s' k t) noFill_tuple_mul F.fills_int_mul F.slot_int_rmul repeat_tuple F.slot_int_index.lookup (call_meets F.slot_int_rmul (typeIs_int s k t) F.entry_int_rmul (F.args_int_rmul_2 _ _) (int_rmul_tuple k t l its.toArray n dd sl) ⟨ho, rfl, ⟨_, ho, rfl⟩, call_meets F.slot_tuple_mul ⟨_, ho, rfl⟩ F.entry_tuple_mul (F.args_tuple_mul_2 _ _) (tuple_mulW l its.toArray n dd sl k t c0 c1 c2 (by omega) c4 (by rw [size_rep, List.size_toArray]; exact fl)) ⟨ho, ?_⟩⟩)
  rw [size_rep]
  exact ⟨.ref s.heap.objs.size, _, J, rfl, q _ _ (I.hok.fresh (Nat.le_refl _)) rfl⟩
def rSlP (K : PySem.W.Frag) : V → Option Int → Option Int → Hp → VK → Prop := fun x lo hi H Q => ∃ a us, x = .ref a ∧ SqT K H a us ∧
  (HT.sIx us.length 0 lo = 0 ∧ HT.sIx us.length us.length hi = us.length → Q (.ref a) H) ∧ (¬ (HT.sIx us.length 0 lo = 0 ∧ HT.sIx us.length us.length hi = us.length) → ∀ p o, H p = none → o.dict = none → Q (.ref p) (upd H p (.frz o (.tup (cutV us lo hi)))))
theorem sl_P : SlR X (rSlP X.K) := by
  intro pins s σ H x v vl vu lo hi sl Q I rx hs pl pu ⟨a, us, ex, hx, q1, q2⟩
  subst ex
  cases rx
  obtain ⟨its, r, ht, hz⟩ := I.tuple hx
  have hn : its.toArray.size = us.length := by rw [List.size_toArray]; exact r.length.symm
  refine ⟨"tuple", _, PyProof.Rows.slot_tuple_getitem.lookup, ht.typeIs, ?_⟩
  by_cases hw : HT.sIx us.length 0 lo = 0 ∧ HT.sIx us.length us.length hi = us.length
  · exact getItem_tuple_whole ht hs pl pu (by rw [hn]; exact hw) ⟨.ref a, H, I, rfl, q1 hw⟩
  · refine HT.getItem_tuple_cut ht hs pl pu (by rw [hn]; exact hw) ?_ (by rw [hn]; exact hz)
    rw [hn]
    have J := inv_tnew (t' := s.toks) I ((r.drop (HT.sIx us.length 0 lo)).take (HT.sIx us.length us.length hi - HT.sIx us.length 0 lo)) (Nat.le_trans (cutV_length us lo hi) hz)
    exact ⟨.ref s.heap.objs.size, _, J, rfl, q2 hw _ _ (I.hok.fresh (Nat.le_refl _)) rfl⟩
theorem call_tupP : CallR X (.type "tuple") (fun xs H Q => ∃ p ys, xs = [.ref p] ∧ ((SqL X.K H p ys ∧ ∀ l o, H l = none → o.dict = none → Q (.ref l) (upd H l (.frz o (.tup ys)))) ∨ (SqT X.K H p ys ∧ Q (.ref p) H))) := by
  intro pins s σ H xs us Q I r ⟨p, ys, ex, h⟩
  subst ex
  obtain ⟨u, rfl, rx⟩ := vals1 r
  cases rx
  rcases h with ⟨hq, q⟩ | ⟨hq, q⟩
  · obtain ⟨its, rv, pl, hz⟩ := I.list hq
    have hl := rv.length
    refine call_tuple_list pl.isList (fun h' kp => ?_) (by simp only [List.size_toArray]; omega)
    have I1 : Inv X pins σ H { s with heap := h' } := I.kept (t' := s.toks) kp
    exact ⟨.ref h'.objs.size, _, inv_tnew (t' := s.toks) I1 rv hz, rfl, q _ _ (I1.hok.fresh (Nat.le_refl _)) rfl⟩
  · obtain ⟨its, rv, pl, hz⟩ := I.tuple hq
    exact call_tuple_same pl ⟨.ref p, H, I, rfl, q⟩
end
/-! ### the operations on data -/
def addD : D → D → Option D
  | .int i, .int j => some (.int (i + j))
  | .str x, .str y => if x.length + y.length ≤ 16777216 then some (.str (x ++ y)) else none
  | .tuple a, .tuple b => if a.length + b.length ≤ 16777216 then some (.tuple (a ++ b)) else none
  | .list a, .list b => if a.length + b.length ≤ 16777216 then some (.list (a ++ b)) else none
  | _, _ => none
def subD : D → D → Option D
  | .int i, .int j => some (.int (i - j))
  | _, _ => none
/-! sealed bounds: the kernel shall not count down from them -/
theorem mulOk_ex : ∃ f : Int → Int → Bool, ∀ i j, f i j = decide ((-(2 ^ 64) < i ∧ i < 2 ^ 64) ∨ (-(2 ^ 64) < j ∧ j < 2 ^ 64)) := ⟨_, fun _ _ => rfl⟩
noncomputable def mulOk : Int → Int → Bool := Classical.choose mulOk_ex
theorem mulOk_eq (i j : Int) : mulOk i j = decide ((-(2 ^ 64) < i ∧ i < 2 ^ 64) ∨ (-(2 ^ 64) < j ∧ j < 2 ^ 64)) := Classical.choose_spec mulOk_ex i j
theorem repOk_ex : ∃ f : Int → Nat → Bool, ∀ k n, f k n = decide (-(2 ^ 63) ≤ k ∧ k < 2 ^ 63 ∧ n * k.toNat ≤ 16777216) := ⟨_, fun _ _ => rfl⟩
noncomputable def repOk : Int → Nat → Bool := Classical.choose repOk_ex
theorem repOk_eq (k : Int) (n : Nat) : repOk k n = decide (-(2 ^ 63) ≤ k ∧ k < 2 ^ 63 ∧ n * k.toNat ≤ 16777216) := Classical.choose_spec repOk_ex k n
theorem rngOk_ex : ∃ f : Int → Int → Bool, ∀ i j, f i j = decide (-16777216 ≤ i ∧ i ≤ 16777216 ∧ -16777216 ≤ j ∧ j ≤ 16777216 ∧ j - i ≤ 16777216) := ⟨_, fun _ _ => rfl⟩
noncomputable def rngOk : Int → Int → Bool := Classical.choose rngOk_ex
theorem rngOk_eq (i j : Int) : rngOk i j = decide (-16777216 ≤ i ∧ i ≤ 16777216 ∧ -16777216 ≤ j ∧ j ≤ 16777216 ∧ j - i ≤ 16777216) := Classical.choose_spec rngOk_ex i j
noncomputable def mulD : D → D → Option D
  | .int i, .int j => if mulOk i j = true then some (.int (i * j)) else none
  | .list a, .int k => if repOk k a.length = true then some (.list (List.replicate k.toNat a).flatten) else none
  | .tuple a, .int k => if a ≠ [] ∧ 2 ≤ k ∧ k ≤ 1000 ∧ a.length ≤ 1000 then some (.tuple (List.replicate k.toNat a).flatten) else none
  | _, _ => none
def fdivD : D → D → Option D
  | .int i, .int j => if 0 < j ∧ j < 1073741824 then some (.int (i / j)) else none
  | _, _ => none
def modD : D → D → Option D
  | .int i, .int j => if 0 < j then some (.int (i % j)) else none
  | _, _ => none
def powD : D → D → Option D
  | .int i, .int j => if 0 ≤ j ∧ j ≤ 1000000 ∧ i.natAbs < 2 ^ 64 then some (.int (i ^ j.toNat)) else none
  | _, _ => none
def eqD (d e : D) : Option D := if SeqAt.shaped d = true ∧ SeqAt.shaped e = true ∧ noDict d = true ∧ noDict e = true then some (.bool (PyData.eqv d e)) else none
def neD (d e : D) : Option D := if SeqAt.shaped d = true ∧ SeqAt.shaped e = true ∧ noDict d = true ∧ noDict e = true then some (.bool (!PyData.eqv d e)) else none
def ltD : D → D → Option D
  | .int i, .int j => some (.bool (decide (i < j)))
  | _, _ => none
def leD : D → D → Option D
  | .int i, .int j => some (.bool (decide (i ≤ j)))
  | _, _ => none
def gtD : D → D → Option D
  | .int i, .int j => some (.bool (decide (j < i)))
  | _, _ => none
def geD : D → D → Option D
  | .int i, .int j => some (.bool (decide (j ≤ i)))
  | _, _ => none
def flatD : D → Bool
  | .none => true
  | .bool _ => true
  | .int _ => true
  | .str _ => true
  | _ => false
def memD (x : D) (ds : List D) : Bool := ds.any fun z => PyData.eqv z x
def inD (x : D) : D → Option Bool
  | .tuple ds => if flatD x = true ∧ ds.all flatD = true then some (memD x ds) else none
  | .list ds => if flatD x = true ∧ ds.all flatD = true then some (memD x ds) else
      if SeqAt.shaped x = true ∧ SeqAt.shaped (.list ds) = true ∧ noDict x = true ∧ noDicts ds = true then some (memD x ds) else none
  | _ => none
def ixD : D → D → Option D
  | .list ds, .int i => atI ds i
  | .tuple ds, .int i => atI ds i
  | _, _ => none

section
variable {K : PySem.W.Frag}
theorem rs_flat {n : Bool} {H0 H : Hp} {v : V} {d : D} (s : Same H0 H) (h : Dd K H0 v d) {Q : VK} (q : ∀ v H0' H', Ext H0 H H0' H' → RS n K H H0' H' v d → Q v H') (f : n = true → flatRoot d = true := by intro _; rfl) : Q v H := q v H0 H (Ext.refl s) (.inl ⟨h, f⟩)
theorem rs_tup {n : Bool} {H0 H : Hp} {ys : List V} {ds : List D} {p : Addr} {o : Obj} (s : Same H0 H) (h : Dds K H0 ys ds) (np : H p = none) (no : o.dict = none) {Q : VK} (q : ∀ v H0' H', Ext H0 H H0' H' → RS n K H H0' H' v (.tuple ds) → Q v H') : Q (.ref p) (upd H p (.frz o (.tup ys))) :=
  q _ _ _ (ext_newS s np) (.inl ⟨.tup upd_same no (h.mono (ext_newS (o := .frz o (.tup ys)) s np).s0), fun _ => rfl⟩)
theorem rs_lst {n : Bool} {H0 H : Hp} {ys : List V} {ds : List D} {p : Addr} (s : Same H0 H) (h : Dds K H0 ys ds) (np : H p = none) {Q : VK} (q : ∀ v H0' H', Ext H0 H H0' H' → RS n K H H0' H' v (.list ds) → Q v H') : Q (.ref p) (upd H p (.lst ys)) :=
  q _ _ _ (ext_new s np) (.inr ⟨p, rfl, .lst (not_settled s np) upd_same h, np⟩)
def rAdd2 (K : PySem.W.Frag) : R2 := fun x y H Q => rI0 (fun i j => .int (i + j)) x y H Q ∨ (∃ i j, x = .str i ∧ y = .str j ∧ i.length + j.length ≤ sizeLine ∧ Q (.str (i ++ j)) H) ∨ rCatP K x y H Q ∨ rCatL x y H Q
theorem op_add2 {X : Cx} : OpR X (binaryOp .Add) (rAdd2 X.K) := op_add.or (op_add_str.or (op_catP.or op_catL))
theorem ok_add : Op2Ok true K (rAdd2 K) addD := by
  intro H0 H x y d1 d2 d Q s h1 h2 e q
  unfold addD at e
  split at e
  · cases e
    cases h1.int; cases h2.int
    exact .inl ⟨_, _, rfl, rfl, rs_flat s (.int _) q⟩
  · split at e
    · rename_i hz
      cases e
      cases h1.str; cases h2.str
      exact .inr (.inl ⟨_, _, rfl, rfl, by rw [sizeLine_eq]; exact hz, rs_flat s (.str _) q⟩)
    · cases e
  · split at e
    · rename_i hz
      cases e
      obtain ⟨a, xs, rfl, r1, k1⟩ := h1.tuple s
      obtain ⟨b, ys, rfl, r2, k2⟩ := h2.tuple s
      refine .inr (.inr (.inl ⟨a, b, xs, ys, rfl, rfl, .inl r1, .inl r2, by rw [k1.length, k2.length, sizeLine_eq]; exact hz, fun e => ?_, fun _ e => ?_, fun _ _ p o n no => ?_⟩))
      · subst e
        cases k1
        rw [List.nil_append] at q
        rcases h2 with h2 | ⟨c, _, m⟩
        · exact rs_flat s h2 q
        · cases m
      · subst e
        cases k2
        rw [List.append_nil] at q
        rcases h1 with h1 | ⟨c, _, m⟩
        · exact rs_flat s h1 q
        · cases m
      · exact rs_tup s (k1.append k2) n no q
    · cases e
  · split at e
    · rename_i hz
      cases e
      obtain ⟨a, xs, rfl, r1, k1⟩ := h1.list s
      obtain ⟨b, ys, rfl, r2, k2⟩ := h2.list s
      exact .inr (.inr (.inr ⟨a, b, xs, ys, rfl, rfl, r1, r2, by rw [k1.length, k2.length, sizeLine_eq]; exact hz, fun p n => rs_lst s (k1.append k2) n q⟩))
    · cases e
  · cases e
theorem ok_sub : Op2Ok true K (rI0 fun i j => .int (i - j)) subD := by
  intro H0 H x y d1 d2 d Q s h1 h2 e q
  unfold subD at e
  split at e
  · cases e
    cases h1.int; cases h2.int
    exact ⟨_, _, rfl, rfl, rs_flat s (.int _) q⟩
  · cases e
def rMul2 (K : PySem.W.Frag) : R2 := fun x y H Q => rI CMul (fun i j => .int (i * j)) x y H Q ∨ rRepL x y H Q ∨ rRepP K x y H Q
theorem op_mul2 {X : Cx} : OpR X (binaryOp .Mult) (rMul2 X.K) := op_mul.or (op_repL.or op_repP)
theorem ok_mul : Op2Ok true K (rMul2 K) mulD := by
  intro H0 H x y d1 d2 d Q s h1 h2 e q
  unfold mulD at e
  split at e
  · split at e
    · rename_i hz
      cases e
      cases h1.int; cases h2.int
      rw [mulOk_eq] at hz
      have hz2 := of_decide_eq_true hz
      exact .inl ⟨_, _, rfl, rfl, hz2, rs_flat s (.int _) q⟩
    · cases e
  · split at e
    · rename_i hz
      cases e
      obtain ⟨a, xs, rfl, r1, k1⟩ := h1.list s
      cases h2.int
      rw [repOk_eq] at hz
      have hz := of_decide_eq_true hz
      exact .inr (.inl ⟨a, _, xs, rfl, rfl, r1, hz.1, hz.2.1, by rw [k1.length, sizeLine_eq]; exact hz.2.2, fun p n => rs_lst s (k1.rep _) n q⟩)
    · cases e
  · split at e
    · rename_i hz
      cases e
      obtain ⟨a, xs, rfl, r1, k1⟩ := h1.tuple s
      cases h2.int
      refine .inr (.inr ⟨a, _, xs, rfl, rfl, .inl r1, fun e => ?_, hz.2.1, hz.2.2.1, by rw [k1.length]; exact hz.2.2.2, fun p o n no => rs_tup s (k1.rep _) n no q⟩)
      subst e
      cases k1
      exact hz.1 rfl
    · cases e
  · cases e
theorem ok_fdiv : Op2Ok true K (rI CDiv fun i j => .int (i / j)) fdivD := by
  intro H0 H x y d1 d2 d Q s h1 h2 e q
  unfold fdivD at e
  split at e
  · split at e
    · rename_i hz
      cases e
      cases h1.int; cases h2.int
      exact ⟨_, _, rfl, rfl, hz, rs_flat s (.int _) q⟩
    · cases e
  · cases e
theorem ok_mod : Op2Ok true K (rI (fun _ j => 0 < j) fun i j => .int (i % j)) modD := by
  intro H0 H x y d1 d2 d Q s h1 h2 e q
  unfold modD at e
  split at e
  · split at e
    · rename_i hz
      cases e
      cases h1.int; cases h2.int
      exact ⟨_, _, rfl, rfl, hz, rs_flat s (.int _) q⟩
    · cases e
  · cases e
theorem ok_pow : Op2Ok true K (rI CPow fun i j => .int (i ^ j.toNat)) powD := by
  intro H0 H x y d1 d2 d Q s h1 h2 e q
  unfold powD at e
  split at e
  · split at e
    · rename_i hz
      cases e
      cases h1.int; cases h2.int
      exact ⟨_, _, rfl, rfl, hz, rs_flat s (.int _) q⟩
    · cases e
  · cases e
theorem ok_eq : Op2Ok true K (rEqD K) eqD := by
  intro H0 H x y d1 d2 d Q s h1 h2 e q
  unfold eqD at e
  split at e
  · rename_i hz
    cases e
    exact ⟨d1, d2, h1.dp s hz.2.2.1, h2.dp s hz.2.2.2, hz.1, hz.2.1, rs_flat s (.bl _) q⟩
  · cases e
theorem ok_ne : Op2Ok true K (rNeD K) neD := by
  intro H0 H x y d1 d2 d Q s h1 h2 e q
  unfold neD at e
  split at e
  · rename_i hz
    cases e
    exact ⟨d1, d2, h1.dp s hz.2.2.1, h2.dp s hz.2.2.2, hz.1, hz.2.1, rs_flat s (.bl _) q⟩
  · cases e
theorem ok_lt : Op2Ok true K (rI0 fun i j => .bl (decide (i < j))) ltD := by
  intro H0 H x y d1 d2 d Q s h1 h2 e q
  unfold ltD at e
  split at e
  · cases e
    cases h1.int; cases h2.int
    exact ⟨_, _, rfl, rfl, rs_flat s (.bl _) q⟩
  · cases e
theorem ok_le : Op2Ok true K (rI0 fun i j => .bl (decide (i ≤ j))) leD := by
  intro H0 H x y d1 d2 d Q s h1 h2 e q
  unfold leD at e
  split at e
  · cases e
    cases h1.int; cases h2.int
    exact ⟨_, _, rfl, rfl, rs_flat s (.bl _) q⟩
  · cases e
theorem ok_gt : Op2Ok true K (rI0 fun i j => .bl (decide (j < i))) gtD := by
  intro H0 H x y d1 d2 d Q s h1 h2 e q
  unfold gtD at e
  split at e
  · cases e
    cases h1.int; cases h2.int
    exact ⟨_, _, rfl, rfl, rs_flat s (.bl _) q⟩
  · cases e
theorem ok_ge : Op2Ok true K (rI0 fun i j => .bl (decide (j ≤ i))) geD := by
  intro H0 H x y d1 d2 d Q s h1 h2 e q
  unfold geD at e
  split at e
  · cases e
    cases h1.int; cases h2.int
    exact ⟨_, _, rfl, rfl, rs_flat s (.bl _) q⟩
  · cases e
theorem flat_eqv {H0 : Hp} {x y : V} {d e : D} (h1 : Dd K H0 x d) (h2 : Dd K H0 y e) (f1 : flatD d = true) (f2 : flatD e = true) : eqV x y = PyData.eqv d e := by
  cases h1 <;> cases h2 <;> first | rfl | (simp [flatD] at f1; done) | (simp [flatD] at f2; done)
theorem flat_flatV {H0 : Hp} {x : V} {d : D} (h1 : Dd K H0 x d) (f1 : flatD d = true) : flatV x = true := by
  cases h1 <;> first | rfl | (simp [flatD] at f1; done)
theorem RB.flat {H0 H : Hp} {x : V} {d : D} (h : RB K H0 H x d) (f : flatD d = true) : Dd K H0 x d := by
  rcases h with h | ⟨a, _, m⟩
  · exact h
  · cases m <;> (simp [flatD] at f)
theorem flats_all {H0 : Hp} : ∀ {ys : List V} {ds : List D}, Dds K H0 ys ds → ds.all flatD = true → ys.all flatV = true
  | _, _, .nil, _ => rfl
  | _, _, .cons h r, f => by
    rw [List.all_cons, Bool.and_eq_true] at f ⊢
    exact ⟨flat_flatV h f.1, flats_all r f.2⟩
theorem inV_mem {H0 : Hp} {x : V} {d : D} (h : Dd K H0 x d) (f1 : flatD d = true) : ∀ {ys : List V} {ds : List D}, Dds K H0 ys ds → ds.all flatD = true → inV x ys = memD d ds
  | _, _, .nil, _ => rfl
  | _, _, .cons h2 r, f => by
    rw [List.all_cons, Bool.and_eq_true] at f
    unfold inV memD
    rw [List.any_cons, List.any_cons, flat_eqv h2 h f.1 f1]
    have := inV_mem h f1 r f.2
    unfold inV memD at this
    rw [this]
def rIn2 (K : PySem.W.Frag) : R2 := fun x y H Q => rIn K false x y H Q ∨ rInD K x y H Q
def rNotIn2 (K : PySem.W.Frag) : R2 := fun x y H Q => rIn K true x y H Q ∨ rNotInD K x y H Q
theorem ok_in : Op2Ok true K (rIn2 K) (fun x y => (inD x y).map .bool) := by
  intro H0 H x y d1 d2 d Q s h1 h2 e q
  cases d2 with
  | tuple ds =>
    unfold inD at e
    dsimp only at e
    split at e
    · rename_i hz
      cases e
      obtain ⟨b, ys, rfl, r2, k2⟩ := h2.tuple s
      have hx := h1.flat hz.1
      refine .inl ⟨b, ys, rfl, .inr (.inl r2), flat_flatV hx hz.1, flats_all k2 hz.2, ?_⟩
      rw [if_neg Bool.false_ne_true, inV_mem hx hz.1 k2 hz.2]
      exact rs_flat s (.bl _) q
    · cases e
  | list ds =>
    unfold inD at e
    dsimp only at e
    split at e
    · rename_i hz
      cases e
      obtain ⟨b, ys, rfl, r2, k2⟩ := h2.list s
      have hx := h1.flat hz.1
      refine .inl ⟨b, ys, rfl, .inl (.inl r2), flat_flatV hx hz.1, flats_all k2 hz.2, ?_⟩
      rw [if_neg Bool.false_ne_true, inV_mem hx hz.1 k2 hz.2]
      exact rs_flat s (.bl _) q
    · split at e
      · rename_i hz
        cases e
        exact .inr ⟨d1, ds, h1.dp s hz.2.2.1, h2.dp s (by unfold noDict; exact hz.2.2.2), hz.1, hz.2.1, rs_flat s (.bl _) q⟩
      · cases e
  | _ => cases e
theorem ok_notin : Op2Ok true K (rNotIn2 K) (fun x y => (inD x y).map fun b => .bool (!b)) := by
  intro H0 H x y d1 d2 d Q s h1 h2 e q
  cases d2 with
  | tuple ds =>
    unfold inD at e
    dsimp only at e
    split at e
    · rename_i hz
      cases e
      obtain ⟨b, ys, rfl, r2, k2⟩ := h2.tuple s
      have hx := h1.flat hz.1
      refine .inl ⟨b, ys, rfl, .inr (.inl r2), flat_flatV hx hz.1, flats_all k2 hz.2, ?_⟩
      rw [if_pos rfl, inV_mem hx hz.1 k2 hz.2]
      exact rs_flat s (.bl _) q
    · cases e
  | list ds =>
    unfold inD at e
    dsimp only at e
    split at e
    · rename_i hz
      cases e
      obtain ⟨b, ys, rfl, r2, k2⟩ := h2.list s
      have hx := h1.flat hz.1
      refine .inl ⟨b, ys, rfl, .inl (.inl r2), flat_flatV hx hz.1, flats_all k2 hz.2, ?_⟩
      rw [if_pos rfl, inV_mem hx hz.1 k2 hz.2]
      exact rs_flat s (.bl _) q
    · split at e
      · rename_i hz
        cases e
        exact .inr ⟨d1, ds, h1.dp s hz.2.2.1, h2.dp s (by unfold noDict; exact hz.2.2.2), hz.1, hz.2.1, rs_flat s (.bl _) q⟩
      · cases e
  | _ => cases e
theorem atI_dd {H0 : Hp} {ys : List V} {ds : List D} (k : Dds K H0 ys ds) {i : Int} {d : D} (e : atI ds i = some d) : ∃ v, atI ys i = some v ∧ Dd K H0 v d := by
  unfold atI at e ⊢
  rw [k.length]
  cases h : ixN ds.length i with
  | none => rw [h] at e; cases e
  | some j =>
    rw [h] at e
    exact k.get e
theorem ok_ix : Op2Ok false K (rIx K) ixD := by
  intro H0 H x y d1 d2 d Q s h1 h2 e q
  unfold ixD at e
  split at e
  · obtain ⟨a, ys, rfl, r1, k1⟩ := h1.list s
    cases h2.int
    obtain ⟨v, e1, e2⟩ := atI_dd k1 e
    exact .inl ⟨a, ys, _, v, rfl, rfl, .inl r1, e1, rs_flat s e2 q (fun z => nomatch z)⟩
  · obtain ⟨a, ys, rfl, r1, k1⟩ := h1.tuple s
    cases h2.int
    obtain ⟨v, e1, e2⟩ := atI_dd k1 e
    exact .inr (.inl ⟨a, ys, _, v, rfl, rfl, .inl r1, e1, rs_flat s e2 q (fun z => nomatch z)⟩)
  · cases e

/-! ### slices -/
def cutD (ds : List D) (lo hi : Option Int) : List D := (ds.drop (HT.sIx ds.length 0 lo)).take (HT.sIx ds.length ds.length hi - HT.sIx ds.length 0 lo)
theorem cut_dds {H0 : Hp} {ys : List V} {ds : List D} (k : Dds K H0 ys ds) (lo hi : Option Int) : Dds K H0 (cutV ys lo hi) (cutD ds lo hi) := by
  unfold cutV cutD
  rw [k.length]
  exact (k.drop _).take _
def slcD : D → Option Int → Option Int → Option D
  | .list ds, lo, hi => some (.list (cutD ds lo hi))
  | .tuple ds, lo, hi => some (.tuple (cutD ds lo hi))
  | _, _, _ => none
def rSl2 (K : PySem.W.Frag) : V → Option Int → Option Int → Hp → VK → Prop := fun x lo hi H Q => rSlL K x lo hi H Q ∨ rSlP K x lo hi H Q
theorem sl_2 {X : Cx} : SlR X (rSl2 X.K) := sl_list.or sl_P
theorem cutD_whole {ds : List D} {lo hi : Option Int} (h : HT.sIx ds.length 0 lo = 0 ∧ HT.sIx ds.length ds.length hi = ds.length) : cutD ds lo hi = ds := by
  unfold cutD
  rw [h.1, h.2]
  simp
theorem ok_slc {n : Bool} {H0 H : Hp} {x : V} {d1 d : D} {lo hi : Option Int} {Q : VK} (s : Same H0 H) (h1 : RB K H0 H x d1) (e : slcD d1 lo hi = some d) (q : ∀ v H0' H', Ext H0 H H0' H' → RS n K H H0' H' v d → Q v H') : rSl2 K x lo hi H Q := by
  unfold slcD at e
  split at e
  · cases e
    obtain ⟨a, ys, rfl, r1, k1⟩ := h1.list s
    exact .inl ⟨a, ys, rfl, .inl r1, fun p n => rs_lst s (cut_dds k1 lo hi) n q⟩
  · cases e
    obtain ⟨a, ys, rfl, r1, k1⟩ := h1.tuple s
    refine .inr ⟨a, ys, rfl, .inl r1, fun hw => ?_, fun hw p o n no => rs_tup s (cut_dds k1 lo hi) n no q⟩
    rw [k1.length] at hw
    rw [cutD_whole hw] at q
    rcases h1 with h1 | ⟨c, _, m⟩
    · exact rs_flat s h1 q
    · cases m
  · cases e

/-! ### built-ins -/
def lenD : List D → Option D
  | [.list ds] => some (.int ds.length)
  | [.tuple ds] => some (.int ds.length)
  | _ => none
theorem rbs1 {H0 H : Hp} {vs : List V} {d : D} (h : RBs K H0 H vs [d]) : ∃ v, vs = [v] ∧ RB K H0 H v d := by
  cases h with
  | cons h r => cases r; exact ⟨_, rfl, h⟩
theorem rbs2 {H0 H : Hp} {vs : List V} {d e : D} (h : RBs K H0 H vs [d, e]) : ∃ v w, vs = [v, w] ∧ RB K H0 H v d ∧ RB K H0 H w e := by
  cases h with
  | cons h r => cases r with
    | cons h2 r2 => cases r2; exact ⟨_, _, rfl, h, h2⟩
theorem ok_len : OpAOk true K (fun xs H Q => ∃ p ys, xs = [.ref p] ∧ (SqL K H p ys ∨ SqT K H p ys) ∧ Q (.int ys.length) H) lenD := by
  intro H0 H xs ds d Q s h e q
  unfold lenD at e
  split at e
  · cases e
    obtain ⟨v, rfl, h1⟩ := rbs1 h
    obtain ⟨a, ys, rfl, r1, k1⟩ := h1.list s
    exact ⟨a, ys, rfl, .inl (.inl r1), by rw [k1.length]; exact rs_flat s (.int _) q⟩
  · cases e
    obtain ⟨v, rfl, h1⟩ := rbs1 h
    obtain ⟨a, ys, rfl, r1, k1⟩ := h1.tuple s
    exact ⟨a, ys, rfl, .inr (.inl r1), by rw [k1.length]; exact rs_flat s (.int _) q⟩
  · cases e
/-- a list of ints -/
def intsOf : List D → Option (List Int)
  | [] => some []
  | .int i :: r => (intsOf r).map (i :: ·)
  | _ => none
theorem intsOf_eq : ∀ {ds : List D} {ns : List Int}, intsOf ds = some ns → ds = ns.map PyData.int
  | [], _, h => by cases h; rfl
  | .int i :: r, ns, h => by
    unfold intsOf at h
    cases e : intsOf r with
    | none => rw [e] at h; cases h
    | some m =>
      rw [e] at h
      cases h
      rw [List.map_cons, intsOf_eq e]
  | .none :: _, _, h => nomatch h
  | .bool _ :: _, _, h => nomatch h
  | .str _ :: _, _, h => nomatch h
  | .list _ :: _, _, h => nomatch h
  | .tuple _ :: _, _, h => nomatch h
  | .dict _ :: _, _, h => nomatch h
theorem intsOf_map : ∀ (ns : List Int), intsOf (ns.map PyData.int) = some ns
  | [] => rfl
  | n :: ns => by
    show (intsOf (ns.map PyData.int)).map (n :: ·) = _
    rw [intsOf_map ns]
    rfl
def sumD : List D → Option D
  | [.list ds] => (intsOf ds).map fun ns => .int ns.sum
  | [.tuple ds] => (intsOf ds).map fun ns => .int ns.sum
  | _ => none
theorem ok_sum : OpAOk true K (fun xs H Q => rSum K xs H Q ∨ rSumT K xs H Q) sumD := by
  intro H0 H xs ds d Q s h e q
  unfold sumD at e
  split at e
  · rename_i es
    cases e1 : intsOf es with
    | none => rw [e1] at e; cases e
    | some ns =>
      rw [e1] at e
      cases e
      obtain ⟨v, rfl, h1⟩ := rbs1 h
      obtain ⟨a, ys, rfl, r1, k1⟩ := h1.list s
      rw [intsOf_eq e1] at k1
      cases k1.ints
      exact .inl ⟨a, ns, rfl, .inl r1, rs_flat s (.int _) q⟩
  · rename_i es
    cases e1 : intsOf es with
    | none => rw [e1] at e; cases e
    | some ns =>
      rw [e1] at e
      cases e
      obtain ⟨v, rfl, h1⟩ := rbs1 h
      obtain ⟨a, ys, rfl, r1, k1⟩ := h1.tuple s
      rw [intsOf_eq e1] at k1
      cases k1.ints
      exact .inr ⟨a, ns, rfl, .inl r1, rs_flat s (.int _) q⟩
  · cases e
/-- the greatest and the least of a list that is not empty -/
def maxL : Int → List Int → Int
  | m, [] => m
  | m, x :: r => maxL (if x > m then x else m) r
def minL : Int → List Int → Int
  | m, [] => m
  | m, x :: r => minL (if x < m then x else m) r
theorem maxL_ge : ∀ (r : List Int) (m : Int), m ≤ maxL m r ∧ (∀ y ∈ r, y ≤ maxL m r) ∧ (maxL m r = m ∨ maxL m r ∈ r)
  | [], m => ⟨Int.le_refl _, by simp, .inl rfl⟩
  | x :: r, m => by
    obtain ⟨h1, h2, h3⟩ := maxL_ge r (if x > m then x else m)
    unfold maxL
    refine ⟨?_, fun y hy => ?_, ?_⟩
    · split at h1 <;> split <;> omega
    · rcases List.mem_cons.mp hy with rfl | hy
      · split at h1 <;> split <;> omega
      · exact h2 y hy
    · rcases h3 with h3 | h3
      · rw [h3]
        split
        · exact .inr List.mem_cons_self
        · exact .inl rfl
      · exact .inr (List.mem_cons_of_mem _ h3)
theorem minL_le : ∀ (r : List Int) (m : Int), minL m r ≤ m ∧ (∀ y ∈ r, minL m r ≤ y) ∧ (minL m r = m ∨ minL m r ∈ r)
  | [], m => ⟨Int.le_refl _, by simp, .inl rfl⟩
  | x :: r, m => by
    obtain ⟨h1, h2, h3⟩ := minL_le r (if x < m then x else m)
    unfold minL
    refine ⟨?_, fun y hy => ?_, ?_⟩
    · split at h1 <;> split <;> omega
    · rcases List.mem_cons.mp hy with rfl | hy
      · split at h1 <;> split <;> omega
      · exact h2 y hy
    · rcases h3 with h3 | h3
      · rw [h3]
        split
        · exact .inr List.mem_cons_self
        · exact .inl rfl
      · exact .inr (List.mem_cons_of_mem _ h3)
def maxD : List D → Option D
  | [.list ds] => (match intsOf ds with
    | some (n :: ns) => some (.int (maxL n ns))
    | _ => none)
  | [.int i, .int j] => some (.int (if j > i then j else i))
  | _ => none
def minD : List D → Option D
  | [.list ds] => (match intsOf ds with
    | some (n :: ns) => some (.int (minL n ns))
    | _ => none)
  | [.int i, .int j] => some (.int (if j < i then j else i))
  | _ => none
theorem ok_max : OpAOk true K (fun xs H Q => rMax K xs H Q ∨ ∃ i j, xs = [.int i, .int j] ∧ Q (.int (if j > i then j else i)) H) maxD := by
  intro H0 H xs ds d Q s h e q
  unfold maxD at e
  split at e
  · split at e
    · rename_i e1
      cases e
      obtain ⟨v, rfl, h1⟩ := rbs1 h
      obtain ⟨a, ys, rfl, r1, k1⟩ := h1.list s
      rw [intsOf_eq e1] at k1
      cases k1.ints
      refine .inl ⟨a, _, rfl, .inl r1, by simp, fun m hm hle => ?_⟩
      rename_i n ns
      obtain ⟨g1, g2, g3⟩ := maxL_ge ns n
      have e : m = maxL n ns := by
        have a1 : m ≤ maxL n ns := by
          rcases List.mem_cons.mp hm with rfl | hm
          · exact g1
          · exact g2 m hm
        have a2 : maxL n ns ≤ m := by
          rcases g3 with g3 | g3
          · rw [g3]; exact hle n List.mem_cons_self
          · exact hle _ (List.mem_cons_of_mem _ g3)
        omega
      rw [e]
      exact rs_flat s (.int _) q
    · cases e
  · cases e
    obtain ⟨v, w, rfl, h1, h2⟩ := rbs2 h
    cases h1.int; cases h2.int
    exact .inr ⟨_, _, rfl, rs_flat s (.int _) q⟩
  · cases e
theorem ok_min : OpAOk true K (fun xs H Q => rMin K xs H Q ∨ ∃ i j, xs = [.int i, .int j] ∧ Q (.int (if j < i then j else i)) H) minD := by
  intro H0 H xs ds d Q s h e q
  unfold minD at e
  split at e
  · split at e
    · rename_i e1
      cases e
      obtain ⟨v, rfl, h1⟩ := rbs1 h
      obtain ⟨a, ys, rfl, r1, k1⟩ := h1.list s
      rw [intsOf_eq e1] at k1
      cases k1.ints
      refine .inl ⟨a, _, rfl, .inl r1, by simp, fun m hm hle => ?_⟩
      rename_i n ns
      obtain ⟨g1, g2, g3⟩ := minL_le ns n
      have e : m = minL n ns := by
        have a1 : minL n ns ≤ m := by
          rcases List.mem_cons.mp hm with rfl | hm
          · exact g1
          · exact g2 m hm
        have a2 : m ≤ minL n ns := by
          rcases g3 with g3 | g3
          · rw [g3]; exact hle n List.mem_cons_self
          · exact hle _ (List.mem_cons_of_mem _ g3)
        omega
      rw [e]
      exact rs_flat s (.int _) q
    · cases e
  · cases e
    obtain ⟨v, w, rfl, h1, h2⟩ := rbs2 h
    cases h1.int; cases h2.int
    exact .inr ⟨_, _, rfl, rs_flat s (.int _) q⟩
  · cases e
def absD : List D → Option D
  | [.int i] => some (.int (if i < 0 then -i else i))
  | _ => none
theorem ok_abs : OpAOk true K (fun xs H Q => ∃ i, xs = [.int i] ∧ Q (.int (if i < 0 then -i else i)) H) absD := by
  intro H0 H xs ds d Q s h e q
  unfold absD at e
  split at e
  · cases e
    obtain ⟨v, rfl, h1⟩ := rbs1 h
    cases h1.int
    exact ⟨_, rfl, rs_flat s (.int _) q⟩
  · cases e
def intD : List D → Option D
  | [.int i] => some (.int i)
  | [.bool b] => some (.int (if b then 1 else 0))
  | _ => none
theorem ok_int : OpAOk true K (fun xs H Q => (∃ i, xs = [.int i] ∧ Q (.int i) H) ∨ ∃ k, xs = [.bl k] ∧ Q (.int (if k then 1 else 0)) H) intD := by
  intro H0 H xs ds d Q s h e q
  unfold intD at e
  split at e
  · cases e
    obtain ⟨v, rfl, h1⟩ := rbs1 h
    cases h1.int
    exact .inl ⟨_, rfl, rs_flat s (.int _) q⟩
  · cases e
    obtain ⟨v, rfl, h1⟩ := rbs1 h
    cases h1.bool
    exact .inr ⟨_, rfl, rs_flat s (.int _) q⟩
  · cases e
def listD : List D → Option D
  | [.list ds] => some (.list ds)
  | [.tuple ds] => some (.list ds)
  | [.dict ds] => if tupK ds = true then some (.list (ds.map (·.1))) else none
  | _ => none
theorem ok_list : OpAOk true K (fun xs H Q => (∃ p ys, xs = [.ref p] ∧ (SqL K H p ys ∨ SqT K H p ys) ∧ ∀ l, H l = none → Q (.ref l) (upd H l (.lst ys))) ∨ rListK K xs H Q) listD := by
  intro H0 H xs ds d Q s h e q
  unfold listD at e
  split at e
  · cases e
    obtain ⟨v, rfl, h1⟩ := rbs1 h
    obtain ⟨a, ys, rfl, r1, k1⟩ := h1.list s
    exact .inl ⟨a, ys, rfl, .inl (.inl r1), fun p n => rs_lst s k1 n q⟩
  · cases e
    obtain ⟨v, rfl, h1⟩ := rbs1 h
    obtain ⟨a, ys, rfl, r1, k1⟩ := h1.tuple s
    exact .inl ⟨a, ys, rfl, .inr (.inl r1), fun p n => rs_lst s k1 n q⟩
  · split at e
    · rename_i ht
      cases e
      obtain ⟨v, rfl, h1⟩ := rbs1 h
      obtain ⟨a, xs, rfl, ka, kk⟩ := h1.kdict s ht
      exact .inr ⟨a, xs, _, rfl, ka, fun p n => rs_lst s kk.listed n q⟩
    · cases e
  · cases e
def tupleD : List D → Option D
  | [.list ds] => some (.tuple ds)
  | [.tuple ds] => some (.tuple ds)
  | _ => none
theorem ok_tuple : OpAOk true K (fun xs H Q => ∃ p ys, xs = [.ref p] ∧ ((SqL K H p ys ∧ ∀ l o, H l = none → o.dict = none → Q (.ref l) (upd H l (.frz o (.tup ys)))) ∨ (SqT K H p ys ∧ Q (.ref p) H))) tupleD := by
  intro H0 H xs ds d Q s h e q
  unfold tupleD at e
  split at e
  · cases e
    obtain ⟨v, rfl, h1⟩ := rbs1 h
    obtain ⟨a, ys, rfl, r1, k1⟩ := h1.list s
    exact ⟨a, ys, rfl, .inl ⟨.inl r1, fun p o n no => rs_tup s k1 n no q⟩⟩
  · cases e
    obtain ⟨v, rfl, h1⟩ := rbs1 h
    obtain ⟨a, ys, rfl, r1, k1⟩ := h1.tuple s
    refine ⟨a, ys, rfl, .inr ⟨.inl r1, ?_⟩⟩
    rcases h1 with h1 | ⟨c, _, m⟩
    · exact rs_flat s h1 q
    · cases m
  · cases e
end
end DD

namespace DD
noncomputable section
open PySem PySem.Spec PyProof.Rows L2

section
variable {X : Cx} {xs : List Str} {W : WX} {a b c : Expr} {sa sb : Src} {n : Bool} {ma mb : Rho → Option Res} {pos : Pos}

/-! ### and, or, not, if as values -/
/-- what Tau asks, from a settled answer -/
theorem tau_D {K : PySem.W.Frag} {mg : Str → Option Value} {σ : L2.St} {H : Hp} {Q : VK} {m : Rho → Option Res} (h : Tau K mg xs W .any m σ H Q) : TauD K mg xs W m σ H Q := by
  obtain ⟨en, ρ, H0, rr, p⟩ := h
  refine ⟨en, ρ, H0, rr, ?_⟩
  cases e1 : m ρ with
  | none => rw [e1] at p; exact p.elim
  | some r1 =>
    rw [e1] at p
    cases r1 with
    | exc c q => exact p
    | ok d1 => exact fun v H0' H' x1 z1 => p v H0' H' x1 (.inl ⟨z1, fun e => nomatch e⟩)
theorem je_of_jd {m : Rho → Option Res} (h : JD X xs W a m) : JE X xs W a .any m := pe_of h fun σ H Q q => tau_D q
theorem postD_trans {K : PySem.W.Frag} {mg : Str → Option Value} {σ : L2.St} {H0 H H0' H' : Hp} {Q : VK} {r : Option Res} (x1 : Ext H0 H H0' H') (p : PostD K mg xs W σ H0 H Q r) : PostD K mg xs W σ H0' H' Q r := by
  cases r with
  | none => exact p
  | some r =>
    cases r with
    | exc c q => exact fun cls dd A B x2 z2 => p cls dd A B (x1.trans x2) z2
    | ok d => exact fun v A B x2 z2 => p v A B (x1.trans x2) z2
theorem jd_one {op : BoolOp} {m : Rho → Option Res} (h : JD X xs W a m) : JD X xs W (.BoolOp op [a] pos) m := pe_one h
def notV (ma : Rho → Option Res) : Rho → Option Res := fun ρ => match ma ρ with
  | some (.ok d) => (truthD d).map fun b => .ok (.bool (!b))
  | some (.exc c p) => some (.exc c p)
  | none => none
theorem jd_not (ha : JE X xs W a sa ma) : JD X xs W (.UnaryOp .Not a pos) (notV ma) := by
  refine pe_of (pe_notT ha) fun σ H Q h => ?_
  obtain ⟨en, ρ, H0, rr, p⟩ := h
  refine ⟨en, ρ, H0, rr, ?_⟩
  unfold notV at p
  cases e1 : ma ρ with
  | none => rw [e1] at p; exact p.elim
  | some r1 =>
    rw [e1] at p
    cases r1 with
    | exc c q => exact p
    | ok d1 =>
      intro v H0' H' x1 z1
      dsimp only at p
      cases e3 : truthD d1 with
      | none => rw [e3] at p; exact p.elim
      | some k =>
        rw [e3] at p
        exact ⟨k, truV_of x1.sub z1.rb e3, p _ _ _ x1 (.bl _)⟩
def ifV (mc : Rho → Option ResB) (ma mb : Rho → Option Res) : Rho → Option Res := fun ρ => match mc ρ with
  | some (.ok true) => ma ρ
  | some (.ok false) => mb ρ
  | some (.exc c p) => some (.exc c p)
  | none => none
theorem jd_if {mc : Rho → Option ResB} (hc : JT X xs W c mc) (ha : JD X xs W a ma) (hb : JD X xs W b mb) : JD X xs W (.IfExp c a b pos) (ifV mc ma mb) := by
  refine pe_of (pe_ifExp hc ha hb) fun σ H Q h => ?_
  obtain ⟨en, ρ, H0, rr, p⟩ := h
  refine ⟨en, ρ, H0, rr, ?_⟩
  unfold ifV at p
  cases e1 : mc ρ with
  | none => rw [e1] at p; exact p.elim
  | some r1 =>
    rw [e1] at p
    cases r1 with
    | exc c q => exact p
    | ok k =>
      intro H0' H' x1
      cases k with
      | true => exact iteT ⟨en, ρ, H0', rr.mono x1, postD_trans x1 p⟩
      | false => exact iteF ⟨en, ρ, H0', rr.mono x1, postD_trans x1 p⟩
/-! ### is None -/
def isNone : D → Bool
  | .none => true
  | _ => false
theorem rb_none {K : PySem.W.Frag} {H0 H : Hp} {v : V} {d : D} (h : RB K H0 H v d) : decide (v = .non) = isNone d := by
  rcases h with h | ⟨a, e, m⟩
  · cases h <;> rfl
  · subst e; cases m <;> rfl
theorem je_isN {j : Nat} {p : Pos} (ha : JE X xs W a sa ma) : JE X xs W (.Compare a [.Is] [.Constant .none j p] pos) .new (lift1 (fun d => some (.bool (isNone d))) ma) := by
  refine pe_of (pe_cmp (pc_isN ha) rfl) fun σ H Q h => ?_
  obtain ⟨en, ρ, H0, rr, p⟩ := h
  refine ⟨en, ρ, H0, rr, ?_⟩
  unfold lift1 at p
  cases e1 : ma ρ with
  | none => rw [e1] at p; exact p.elim
  | some r1 =>
    rw [e1] at p
    cases r1 with
    | exc c q => exact p
    | ok d1 =>
      intro v H0' H' x1 z1
      rw [rb_none z1.rb]
      exact p _ _ _ x1 (.inl ⟨.bl _, fun _ => rfl⟩)
theorem je_notN {j : Nat} {p : Pos} (ha : JE X xs W a sa ma) : JE X xs W (.Compare a [.IsNot] [.Constant .none j p] pos) .new (lift1 (fun d => some (.bool (!isNone d))) ma) := by
  refine pe_of (pe_cmp (pc_notN ha) rfl) fun σ H Q h => ?_
  obtain ⟨en, ρ, H0, rr, p⟩ := h
  refine ⟨en, ρ, H0, rr, ?_⟩
  unfold lift1 at p
  cases e1 : ma ρ with
  | none => rw [e1] at p; exact p.elim
  | some r1 =>
    rw [e1] at p
    cases r1 with
    | exc c q => exact p
    | ok d1 =>
      intro v H0' H' x1 z1
      rw [rb_none z1.rb]
      exact p _ _ _ x1 (.inl ⟨.bl _, fun _ => rfl⟩)
/-- a value that is a bool, as a test, where the test runs another road -/
theorem jt_isN {j : Nat} {p : Pos} (ha : JE X xs W a sa ma) : JT X xs W (.Compare a [.Is] [.Constant .none j p] pos) (tstB (lift1 (fun d => some (.bool (isNone d))) ma)) := by
  refine pt_of (pt_cmp (pc_isN ha) rfl) fun σ H Q h => ?_
  obtain ⟨en, ρ, H0, rr, p⟩ := h
  refine ⟨en, ρ, H0, rr, ?_⟩
  unfold tstB lift1 at p
  cases e1 : ma ρ with
  | none => rw [e1] at p; exact p.elim
  | some r1 =>
    rw [e1] at p
    cases r1 with
    | exc c q => exact p
    | ok d1 =>
      intro v H0' H' x1 z1
      dsimp only
      rw [rb_none z1.rb]
      exact ⟨_, rfl, p _ _ x1⟩
theorem jt_notN {j : Nat} {p : Pos} (ha : JE X xs W a sa ma) : JT X xs W (.Compare a [.IsNot] [.Constant .none j p] pos) (tstB (lift1 (fun d => some (.bool (!isNone d))) ma)) := by
  refine pt_of (pt_cmp (pc_notN ha) rfl) fun σ H Q h => ?_
  obtain ⟨en, ρ, H0, rr, p⟩ := h
  refine ⟨en, ρ, H0, rr, ?_⟩
  unfold tstB lift1 at p
  cases e1 : ma ρ with
  | none => rw [e1] at p; exact p.elim
  | some r1 =>
    rw [e1] at p
    cases r1 with
    | exc c q => exact p
    | ok d1 =>
      intro v H0' H' x1 z1
      dsimp only
      rw [rb_none z1.rb]
      exact ⟨_, rfl, p _ _ x1⟩
/-! ### isinstance(e, T), T a built-in class -/
def tyN : D → String
  | .none => "NoneType"
  | .bool _ => "bool"
  | .int _ => "int"
  | .str _ => "str"
  | .list _ => "list"
  | .tuple _ => "tuple"
  | .dict _ => "dict"
/-- a value's type, a dict with keys that are tuples as well -/
inductive TyY (K : PySem.W.Frag) (H : Hp) : V → Value → Prop where
  | x {v : V} {t : Value} : TyX K H v t → TyY K H v t
  | kd {a : Addr} {oc : Obj} : H a = some (KO a oc) → oc.cls = .type "dict" → TyY K H (.ref a) (.type "dict")
def rIsiY (K : PySem.W.Frag) : List V → Hp → VK → Prop := fun xs H Q => ∃ (x c : V) (t u : Value) (b : Bool), xs = [x, c] ∧ ClsV c u ∧ TyY K H x t ∧ PySem.W.kitOne K t u = some b ∧ Q (.bl b) H
theorem call_isiY {X : Cx} : CallR X (.builtin "isinstance") (rIsiY X.K) := by
  intro pins s σ H xs us Q I r h
  obtain ⟨x, c, t, u, b, rfl, k, ty, e, q⟩ := h
  obtain ⟨u1, u2, rfl, r1, r2⟩ := vals2 r
  have e2 := k.eq r2
  subst e2
  cases ty with
  | x ty =>
    obtain ⟨P, Z, p, hx⟩ := kit_of I r1 ty
    exact PySem.W.kia_one Z I.kIn p e hx fun tk => ⟨.bl b, H, I.tok tk, rfl, q⟩
  | kd ea ec =>
    rename_i a oc
    cases (show u1 = Value.ref a from r1)
    have h1 : s.heap.get? a = some oc := (I.hok a _ ea).1
    exact PySem.W.kia_one PySem.W.kitx_dict I.kIn ⟨oc, h1, ec⟩ e (fun z => nomatch z) fun tk => ⟨.bl b, H, I.tok tk, rfl, q⟩
theorem rb_ty {K : PySem.W.Frag} {H0 H : Hp} {v : V} {d : D} (s : Same H0 H) (h : RB K H0 H v d) : TyY K H v (.type (tyN d)) := by
  cases d with
  | none => cases h.none; exact .x <| .base .non
  | bool b => cases h.bool; exact .x <| .base (.bl b)
  | int i => cases h.int; exact .x <| .base (.int i)
  | str x => cases h.str; exact .x <| .base (.str x)
  | list ds =>
    obtain ⟨a, ys, rfl, r, _⟩ := h.list s
    rcases r with r | ⟨o, r⟩
    · exact .x <| .base (.lst r)
    · exact .x <| .base (.frz r)
  | tuple ds =>
    obtain ⟨a, ys, rfl, r, _⟩ := h.tuple s
    rcases r with r | ⟨o, r⟩
    · exact .x <| .base (.tup r)
    · exact .x <| .fTuple r
  | dict ds =>
    rcases h.dict s with ⟨a, ys, rfl, r, _⟩ | ⟨a, oc, xs, rfl, r, f, _⟩
    · rcases r with r | ⟨o, r⟩
      · exact .x <| .base (.dK r)
      · exact .x <| .fDict r
    · exact .kd r f.ex.1
def isiD (T : String) (d : D) : Option D := (kitB (tyN d) T).map .bool
theorem je_isi {p p2 : Pos} {T : Str} {tn : String} (hc : X.calm = true) (ha : JE X xs W a sa ma) (hg : Gl X "isinstance") (hm : X.mg "isinstance" = none) (hgT : Gl X T) (hmT : X.mg T = none) (hvT : bootBuiltins T = some (.type tn)) (hnT : T ≠ "__name__") (hdT : (T == ("__debug__" : Str)) = false)
    (he : starEach [a, .Name T p2] X.env = (false, eval a X.env) :: starEach [.Name T p2] X.env) :
    JE X xs W (.Call (.Name "isinstance" p) [a, .Name T p2] [] pos) .new (lift1 (isiD tn) ma) := by
  refine pe_of (pe_callB (call_isiY (X := X)) hg hm (by decide +kernel) (pa_cons ha (pa_cons (pe_bltn (v := .ty tn) hgT hmT hvT rfl hnT hdT) pa_nil rfl) he) (by decide) (by decide) he rfl) fun σ H Q h => ?_
  obtain ⟨en, ρ, H0, rr, p⟩ := h
  refine ⟨en, ρ, H0, rr, ?_⟩
  unfold lift1 at p
  cases e1 : ma ρ with
  | none => rw [e1] at p; exact p.elim
  | some r1 =>
    rw [e1] at p
    cases r1 with
    | exc c q => exact p
    | ok d1 =>
      intro v H0' H' x1 z1
      dsimp only at p
      unfold isiD at p
      cases e3 : kitB (tyN d1) tn with
      | none => rw [e3] at p; exact p.elim
      | some k =>
        rw [e3] at p
        exact ⟨v, .ty tn, _, _, k, rfl, .ty tn, rb_ty x1.sub z1.rb, kit_ty e3, p _ _ _ x1 (.inl ⟨.bl k, fun _ => rfl⟩)⟩
/-! ### slices -/
inductive ResO where
  | ok (i : Option Int)
  | exc (c : Nat) (p : Option D)
section
variable (K : PySem.W.Frag) (mg : Str → Option Value) (xs : List Str) (W : WX)
def PostO (σ : L2.St) (H0 H : Hp) (Q : Option Int → Hp → Prop) : Option ResO → Prop
  | none => False
  | some (.ok i) => ∀ H0' H', Ext H0 H H0' H' → Q i H'
  | some (.exc c p) => ∀ cls dd H0' H', Ext H0 H H0' H' → ExcIs K mg xs c p cls dd H0' H' → W cls dd σ H'
def TauO (m : Rho → Option ResO) : TO := fun σ H Q => ∃ en ρ H0, R K en ρ H0 σ H ∧ PostO K mg xs W σ H0 H Q (m ρ)
end
def JO (X : Cx) (xs : List Str) (W : WX) (e : Option Expr) (m : Rho → Option ResO) : Prop := PO X e (TauO X.K X.mg xs W m)
theorem po_of {X : Cx} {e : Option Expr} {t t' : TO} (h : PO X e t) (i : ∀ σ H Q, t' σ H Q → t σ H Q) : PO X e t' := ⟨fun pins s σ H Q I q => h.run pins s σ H Q I (i σ H Q q)⟩
theorem jo_none : JO X xs W none (fun _ => some (.ok none)) := by
  refine po_of po_none fun σ H Q h => ?_
  obtain ⟨en, ρ, H0, rr, p⟩ := h
  exact p H0 H (Ext.refl rr.sub)
def partV (ma : Rho → Option Res) : Rho → Option ResO := fun ρ => match ma ρ with
  | some (.ok (.int i)) => some (.ok (some i))
  | some (.exc c p) => some (.exc c p)
  | _ => none
theorem jo_some (ha : JE X xs W a sa ma) : JO X xs W (some a) (partV ma) := by
  refine po_of (po_some ha) fun σ H Q h => ?_
  obtain ⟨en, ρ, H0, rr, p⟩ := h
  refine ⟨en, ρ, H0, rr, ?_⟩
  unfold partV at p
  cases e1 : ma ρ with
  | none => rw [e1] at p; exact p.elim
  | some r1 =>
    rw [e1] at p
    cases r1 with
    | exc c q => exact p
    | ok d1 =>
      intro v H0' H' x1 z1
      cases d1 with
      | int i => cases z1.rb.int; exact ⟨i, rfl, p _ _ x1⟩
      | _ => exact p.elim
def slcV (ma : Rho → Option Res) (ml mh : Rho → Option ResO) : Rho → Option Res := fun ρ => match ma ρ with
  | some (.ok d) => (match ml ρ with
    | some (.ok lo) => (match mh ρ with
      | some (.ok hi) => (slcD d lo hi).map .ok
      | some (.exc c p) => some (.exc c p)
      | none => none)
    | some (.exc c p) => some (.exc c p)
    | none => none)
  | some (.exc c p) => some (.exc c p)
  | none => none
theorem je_slc {lo hi : Option Expr} {p2 : Pos} {ml mh : Rho → Option ResO} (ha : JE X xs W a sa ma) (hl : JO X xs W lo ml) (hh : JO X xs W hi mh) : JE X xs W (.Subscript a (.Slice lo hi none p2) pos) .new (slcV ma ml mh) := by
  refine pe_of (pe_slice sl_2 ha hl hh) fun σ H Q h => ?_
  obtain ⟨en, ρ, H0, rr, p⟩ := h
  refine ⟨en, ρ, H0, rr, ?_⟩
  unfold slcV at p
  cases e1 : ma ρ with
  | none => rw [e1] at p; exact p.elim
  | some r1 =>
    rw [e1] at p
    cases r1 with
    | exc c q => exact p
    | ok d1 =>
      intro v H0' H' x1 z1
      refine ⟨en, ρ, H0', rr.mono x1, ?_⟩
      dsimp only at p
      cases e2 : ml ρ with
      | none => rw [e2] at p; exact p.elim
      | some r2 =>
        rw [e2] at p
        cases r2 with
        | exc c q => exact fun cls dd A B x2 z2 => p cls dd A B (x1.trans x2) z2
        | ok i =>
          intro H02 H2 x2
          refine ⟨en, ρ, H02, (rr.mono x1).mono x2, ?_⟩
          dsimp only at p
          cases e3 : mh ρ with
          | none => rw [e3] at p; exact p.elim
          | some r3 =>
            rw [e3] at p
            cases r3 with
            | exc c q => exact fun cls dd A B x3 z3 => p cls dd A B (x1.trans (x2.trans x3)) z3
            | ok j =>
              intro H03 H3 x3
              dsimp only at p
              cases e4 : slcD d1 i j with
              | none => rw [e4] at p; exact p.elim
              | some d =>
                rw [e4] at p
                exact ok_slc (n := true) x3.sub ((z1.rb.mono x2).mono x3) e4 fun v4 H04 H4 x4 z4 => p v4 H04 H4 (x1.trans (x2.trans (x3.trans x4))) (z4.rz (x1.s.trans (x2.s.trans x3.s)))
end

/-! ### what is walked -/
/-- the walk J goes through these items -/
structure ItOk (m : Bool) (K : PySem.W.Frag) (en : Ent) (J : It) (items : List D) (Hs : Hp) : Prop where
  go : ∀ i d H0 H, items[i]? = some d → Same en.H H → Same Hs H0 → Same H0 H → J.go i H ∧ ∀ x H', J.yld i H x H' → ∃ H0', Ext H0 H H0' H' ∧ Dm m K H0' x d
  stop : ∀ i H0 H, i = items.length → Same en.H H → Same Hs H0 → Same H0 H → J.stop i H
section
variable (mm : Bool) (K : PySem.W.Frag) (mg : Str → Option Value) (xs : List Str) (W : WX)
def PostI (en : Ent) (σ : L2.St) (H0 H : Hp) (Rr : It → Hp → Prop) : Option ResL → Prop
  | none => False
  | some (.ok ds) => ∀ J H0' H', Ext H0 H H0' H' → ItOk mm K en J ds H0' → ds.length ≤ sizeLine → Rr J H'
  | some (.exc c p) => ∀ cls dd H0' H', Ext H0 H H0' H' → ExcIs K mg xs c p cls dd H0' H' → W cls dd σ H'
def TauI (m : Rho → Option ResL) : TI := fun σ H Rr => ∃ en ρ H0, R K en ρ H0 σ H ∧ PostI mm K mg xs W en σ H0 H Rr (m ρ)
end
def JI (mm : Bool) (X : Cx) (xs : List Str) (W : WX) (tg e : Expr) (m : Rho → Option ResL) : Prop := PI X tg e (TauI mm X.K X.mg xs W m)
/-- a list, a tuple or a locked dict, whichever it is, with its length -/
def SeqQ (K : PySem.W.Frag) (Rr : It → Hp → Prop) : V → Hp → Prop := fun x H1 => ∃ a, x = .ref a ∧ ((∃ ys, SqL K H1 a ys ∧ (ys.length ≤ sizeLine → Rr (Itl K a) H1)) ∨ (∃ ys, SqT K H1 a ys ∧ (ys.length ≤ sizeLine → Rr (Itt K a) H1)) ∨
  ∃ o kvs, H1 a = some (.frz o (.dK kvs)) ∧ (kvs.length ≤ sizeLine → Rr (Itk a o kvs) H1))
def iSeq (K : PySem.W.Frag) (tl : TE) : TI := fun σ H Rr => tl σ H (SeqQ K Rr)
theorem pi_seq {X : Cx} {tg l : Expr} {tl : TE} (hl : PE X l tl) : PI X tg l (iSeq X.K tl) := by
  refine ⟨fun pins s σ H Rr I h => ?_⟩
  refine thn (hl.run pins s σ H _ I h) fun v s1 ⟨x, H1, I1, r1, q1⟩ => ?_
  obtain ⟨a, e, q1⟩ := q1
  subst e
  cases r1
  rcases q1 with ⟨ys, hq, q⟩ | ⟨ys, hq, q⟩ | ⟨o, kvs, hd, q⟩
  · obtain ⟨its, rv, p, hz⟩ := I1.list hq
    refine wpAny_pyIter_list p.isList ?_
    refine ⟨s1.heap.objs.size, [s1.heap.objs.size], _, _, H1, rfl, I1.kept (t' := s1.toks) fun b o e => Heap.get?_push_of_some _ e, turn_list a _, ⟨_, Heap.get?_push_size _ rfl, rfl, rfl⟩, fun b hb => ?_, q hz⟩
    have e : b = s1.heap.objs.size := by simpa using hb
    subst e
    exact I1.fpOk (Nat.le_refl _) (I1.hok.fresh (Nat.le_refl _))
  · obtain ⟨its, rv, p, hz⟩ := I1.tuple hq
    refine wpAny_pyIter_tuple (show s1.heap.IsTuple a its.toArray from p) ?_
    refine ⟨s1.heap.objs.size, [s1.heap.objs.size], _, _, H1, rfl, I1.kept (t' := s1.toks) fun b o e => Heap.get?_push_of_some _ e, turn_tuple a _, ⟨_, Heap.get?_push_size _ rfl, rfl, rfl⟩, fun b hb => ?_, q hz⟩
    have e : b = s1.heap.objs.size := by simpa using hb
    subst e
    exact I1.fpOk (Nat.le_refl _) (I1.hok.fresh (Nat.le_refl _))
  · have hz : kvs.length ≤ sizeLine := (I1.hok a _ hd).2.1
    have P := pi_keys (X := X) (tg := tg) (e := l) (td := fun σ' H' Q => tl σ' H' fun x H2 => x = .ref a ∧ H2 = H1 ∧ Q x H2)
    obtain ⟨hs, hgd, hx, es, ep, vs, hdt, hsz, kv, hm⟩ := I1.frzK hd
    have K1 := I1.kept (t' := s1.toks) (h' := s1.heap) fun b u e => e
    refine iter_keys hs hgd hx hdt (pi_one (tk := s1.toks) I1 _ (turn_keys _ hdt) ⟨_, Heap.get?_push_size _ rfl, rfl, ?_⟩ (q hz))
    rw [hsz] <;> rfl
theorem itok_keys {mm : Bool} {K : PySem.W.Frag} {en : Ent} {a : Addr} {o : Obj} {kvs : List (Key × V)} {ds : List (D × D)} {Hs : Hp} (hd : Hs a = some (.frz o (.dK kvs))) (k : Ddk K Hs kvs ds) : ItOk mm K en (Itk a o kvs) (ds.map (·.1)) Hs where
  go := fun i d H0 H hi e1 e2 e3 => by
    obtain ⟨q, v, hk, rfl⟩ := k.key i d hi
    refine ⟨⟨e3 _ _ (e2 _ _ hd), ?_⟩, fun x H' hy => ?_⟩
    · by_cases hlt : i < kvs.length
      · exact hlt
      · rw [List.getElem?_eq_none (by omega)] at hk
        cases hk
    · obtain ⟨rfl, q', v', hk', rfl⟩ := hy
      rw [hk] at hk'
      cases hk'
      refine ⟨H0, Ext.refl e3, Dm.of ?_⟩
      cases q with
      | inl i => exact .int i
      | inr x => exact .str x
  stop := fun i H0 H hi e1 e2 e3 => by
    exact ⟨e3 _ _ (e2 _ _ hd), by rw [hi, List.length_map, ← k.length]; exact Nat.le_refl _⟩
theorem itok_list {mm : Bool} {K : PySem.W.Frag} {en : Ent} {a : Addr} {ys : List V} {ds : List D} {Hs : Hp} (st : ∀ H0 H, Same en.H H → Same Hs H0 → Same H0 H → Rd H a (.lst ys)) (k : Dds K Hs ys ds) : ItOk mm K en (Itl K a) ds Hs where
  go := fun i d H0 H hi e1 e2 e3 => by
    obtain ⟨v, hv, hd⟩ := k.get hi
    refine ⟨⟨ys, v, .inl (st H0 H e1 e2 e3), hv⟩, fun x H' hy => ?_⟩
    obtain ⟨rfl, hx⟩ := hy
    have e := hx ys (.inl (st H0 _ e1 e2 e3))
    rw [hv] at e
    cases e
    exact ⟨H0, Ext.refl e3, Dm.of (hd.mono e2)⟩
  stop := fun i H0 H hi e1 e2 e3 => ⟨ys, .inl (st H0 H e1 e2 e3), by rw [k.length]; exact Nat.le_of_eq hi.symm⟩
theorem itok_tup {mm : Bool} {K : PySem.W.Frag} {en : Ent} {a : Addr} {ys : List V} {ds : List D} {Hs : Hp} (st : ∀ H0 H, Same en.H H → Same Hs H0 → Same H0 H → Rd H a (.tup ys)) (k : Dds K Hs ys ds) : ItOk mm K en (Itt K a) ds Hs where
  go := fun i d H0 H hi e1 e2 e3 => by
    obtain ⟨v, hv, hd⟩ := k.get hi
    refine ⟨⟨ys, v, .inl (st H0 H e1 e2 e3), hv⟩, fun x H' hy => ?_⟩
    obtain ⟨rfl, hx⟩ := hy
    have e := hx ys (.inl (st H0 _ e1 e2 e3))
    rw [hv] at e
    cases e
    exact ⟨H0, Ext.refl e3, Dm.of (hd.mono e2)⟩
  stop := fun i H0 H hi e1 e2 e3 => ⟨ys, .inl (st H0 H e1 e2 e3), by rw [k.length]; exact Nat.le_of_eq hi.symm⟩
/-- what is walked -/
def itemsOf : D → Option (List D)
  | .list ds => some ds
  | .tuple ds => some ds
  | .dict kvs => if isK kvs = true then none else some (kvs.map (·.1))
  | _ => none
/-- the items of a list or tuple, the keys of a dict; a name's own list is not walked (it must be settled first) -/
def seqI (src : Src) (m : Rho → Option Res) : Rho → Option ResL := fun ρ =>
  match (match src with
    | .slot i => (match ρ[i]? with
      | some (some (.own, _)) => none
      | some (some (.io, _)) => none
      | some (some (.bor, .dict _)) => none
      | some (some (_, d)) => some (Res.ok d)
      | _ => none)
    | _ => m ρ) with
  | some (.ok d) => (match itemsOf d with
    | some ds => some (.ok ds)
    | none => none)
  | some (.exc c p) => some (.exc c p)
  | none => none
theorem seqQ_dd {mm : Bool} {K : PySem.W.Frag} {en : Ent} {H0 H H0' H' : Hp} {v : V} {d : D} {ds : List D} {Rr : It → Hp → Prop} (x1 : Ext H0 H H0' H') (hd : Dd K H0' v d) (e : itemsOf d = some ds)
    (q : ∀ J H0' H', Ext H0 H H0' H' → ItOk mm K en J ds H0' → ds.length ≤ sizeLine → Rr J H') : SeqQ K Rr v H' := by
  cases hd with
  | lst h1 h2 =>
    cases e
    exact ⟨_, rfl, .inl ⟨_, .inl (same_rd x1.sub h1), fun hz => q _ H0' H' x1 (itok_list (fun A B _ e2 e3 => same_rd e3 (same_rd e2 h1)) h2) (by rw [← h2.length]; exact hz)⟩⟩
  | tup h1 z h2 =>
    cases e
    exact ⟨_, rfl, .inr (.inl ⟨_, .inl (.inr ⟨_, x1.sub _ _ h1⟩), fun hz => q _ H0' H' x1 (itok_tup (fun A B _ e2 e3 => .inr ⟨_, e3 _ _ (e2 _ _ h1)⟩) h2) (by rw [← h2.length]; exact hz)⟩)⟩
  | kd h1 h2 h3 =>
    unfold itemsOf at e
    dsimp only at e
    rw [if_pos (h3.isK h2.ne)] at e
    cases e
  | dic h1 h2 =>
    unfold itemsOf at e
    dsimp only at e
    split at e
    · cases e
    cases e
    refine ⟨_, rfl, .inr (.inr ⟨_, _, x1.sub _ _ h1, fun hz => q _ H0' H' x1 (itok_keys h1 h2) ?_⟩)⟩
    rw [List.length_map, ← h2.length]
    exact hz
  | _ => cases e
theorem ji_seq {mm : Bool} {X : Cx} {xs : List Str} {W : WX} {tg l : Expr} {src : Src} {m : Rho → Option Res} (hl : JE X xs W l src m) (hs : ∀ i, src = .slot i → m = fun ρ => slotVal ρ i) : JI mm X xs W tg l (seqI src m) := by
  refine pi_of (pi_seq (pe_lockR hl)) fun σ H Rr h => ?_
  obtain ⟨en, ρ, H0, rr, p⟩ := h
  refine ⟨en, ρ, H0, rr, ?_⟩
  have plain : (∀ i, src ≠ .slot i) → PostI mm X.K X.mg xs W en σ H0 H Rr (match m ρ with
      | some (.ok d) => (match itemsOf d with
        | some ds => some (.ok ds)
        | none => none)
      | some (.exc c p) => some (.exc c p)
      | none => none) → PostR X.K X.mg xs W src σ H0 H (fun v H1 => SeqQ X.K Rr v H1 ∨ ∃ d u, v = .ref d ∧ H1 d = some u ∧ Mut (some u) ∧ ∀ od, SeqQ X.K Rr v (upd H1 d (.frz od u))) (m ρ) := by
    intro hn p
    cases e1 : m ρ with
    | none => rw [e1] at p; exact p.elim
    | some r1 =>
      rw [e1] at p
      cases r1 with
      | exc c q => exact p
      | ok d =>
        intro v H0' H' x1 z1
        dsimp only at p
        cases e2 : itemsOf d with
        | none => rw [e2] at p; exact p.elim
        | some ds =>
          rw [e2] at p
          cases hd : isDict d with
          | false =>
            obtain ⟨H02, k1, _, _, _, k5⟩ := RS.settle x1 (z1.rs hn) (not_dict hd)
            exact .inl (seqQ_dd k1 k5 e2 p)
          | true =>
            cases d with
            | dict kv =>
              rcases z1.rs hn with ⟨z, _⟩ | ⟨a, rfl, mo, n⟩
              · exact .inl (seqQ_dd x1 z e2 p)
              · rcases lock_new x1 mo n with ⟨kvs, g1, g2⟩ | ⟨H0'', g3, g4⟩
                · refine .inr ⟨a, _, rfl, g1, trivial, fun od => ?_⟩
                  obtain ⟨H0'', g3, g4⟩ := g2 od
                  exact seqQ_dd g3 g4 e2 p
                · exact .inl (seqQ_dd g3 g4 e2 p)
            | _ => cases hd
  cases src with
  | new => exact plain (fun i e => nomatch e) p
  | any => exact plain (fun i e => nomatch e) p
  | slot i =>
    rw [hs i rfl]
    unfold seqI at p
    dsimp only at p
    show PostR X.K X.mg xs W (.slot i) σ H0 H _ (slotVal ρ i)
    unfold slotVal
    cases e0 : ρ[i]? with
    | none => rw [e0] at p; exact p.elim
    | some s0 =>
      cases s0 with
      | none => rw [e0] at p; exact p.elim
      | some fd =>
        obtain ⟨fl, d⟩ := fd
        rw [e0] at p
        dsimp only
        intro v H0' H' x1 z1
        refine .inl ?_
        obtain ⟨w, h1, h2⟩ := rr.slot i fl d e0
        have kd : (fl = .dat ∨ (fl = .bor ∧ isDict d = false)) ∧ ∃ ds, itemsOf d = some ds := by
          cases fl with
          | own => exact p.elim
          | io => exact p.elim
          | dat =>
            refine ⟨.inl rfl, ?_⟩
            dsimp only at p
            cases e2 : itemsOf d with
            | none => rw [e2] at p; exact p.elim
            | some ds => exact ⟨ds, rfl⟩
          | bor => cases d <;> first | exact ⟨.inr ⟨rfl, rfl⟩, _, rfl⟩ | exact p.elim
        obtain ⟨kf, ds, e2⟩ := kd
        have q : ∀ J H0' H', Ext H0 H H0' H' → ItOk mm X.K en J ds H0' → ds.length ≤ sizeLine → Rr J H' := by
          rcases kf with rfl | ⟨rfl, hd⟩
          · dsimp only at p
            rw [e2] at p
            exact p
          · cases d with
            | list es => cases e2; exact p
            | tuple es => cases e2; exact p
            | dict es => cases hd
            | _ => cases e2
        rcases z1 with z1 | ⟨a, rfl, mo, z⟩
        · exact seqQ_dd x1 z1 e2 q
        · have z' : σ[i]? = some (some (.ref a)) := z
          rw [h1] at z'
          cases z'
          rcases kf with rfl | ⟨rfl, hd⟩
          · exact seqQ_dd x1 (Dd.mono x1.s0 h2) e2 q
          · rcases h2 with h2 | ⟨a', ea, mo', o, ho⟩
            · exact seqQ_dd x1 (Dd.mono x1.s0 h2) e2 q
            · cases ea
              cases mo' with
              | lst k1 k2 k3 =>
                rename_i ys ds'
                cases e2
                have eo : o = .lst ys := by
                  have := rr.e1 a o ho
                  rw [k2] at this
                  cases this
                  rfl
                subst eo
                exact ⟨a, rfl, .inl ⟨ys, .inl (.inl (x1.s _ _ k2)), fun hz => q _ H0' H' x1 (itok_list (fun A B e1 _ _ => .inl (e1 _ _ ho)) (k3.mono x1.s0)) (by rw [← k3.length]; exact hz)⟩⟩
              | dic k1 k2 k3 => cases hd
              | kd k1 k2 k3 k4 => cases hd
/-- range(n), range(a, b) -/
def rngL (a b : Int) : List D := (List.range (b - a).toNat).map fun (i : Nat) => PyData.int (a + i)
def rngI (m : Rho → Option ResL) : Rho → Option ResL := fun ρ => match m ρ with
  | some (.ok [.int j]) => if rngOk 0 j = true then some (.ok (rngL 0 j)) else none
  | some (.ok [.int i, .int j]) => if rngOk i j = true then some (.ok (rngL i j)) else none
  | some (.exc c p) => some (.exc c p)
  | _ => none
theorem itok_rng {mm : Bool} {K : PySem.W.Frag} {en : Ent} {a b : Int} {n : Nat} {Hs : Hp} (hn : n = (b - a).toNat) : ItOk mm K en (Itr a n) (rngL a b) Hs where
  go := fun i d H0 H hi e1 e2 e3 => by
    unfold rngL at hi
    rw [List.getElem?_map] at hi
    by_cases hl : i < (b - a).toNat
    · rw [List.getElem?_range hl] at hi
      cases hi
      refine ⟨by show i < n; omega, fun x H' hy => ?_⟩
      obtain ⟨rfl, rfl⟩ := hy
      exact ⟨H0, Ext.refl e3, Dm.of (.int _)⟩
    · rw [List.getElem?_eq_none (by rw [List.length_range]; omega)] at hi
      cases hi
  stop := fun i H0 H hi e1 e2 e3 => by
    unfold rngL at hi
    rw [List.length_map, List.length_range] at hi
    show n ≤ i
    omega
theorem rngL_length (a b : Int) : (rngL a b).length = (b - a).toNat := by
  unfold rngL
  rw [List.length_map, List.length_range]
theorem ji_rng1 {mm : Bool} {X : Cx} {xs : List Str} {W : WX} {tg a : Expr} {ms : Rho → Option ResL} {p pos : Pos} (hg : Gl X "range") (hm : X.mg "range" = none) (ha : JA X xs W [a] ms) (hs : starEach [a] X.env = [(false, eval a X.env)]) (h1 : ∀ ρ ds, ms ρ = some (.ok ds) → ds.length = 1) :
    JI mm X xs W tg (.Call (.Name "range" p) [a] [] pos) (rngI ms) := by
  refine pi_of (pi_range1 hg hm ha hs) fun σ H Rr h => ?_
  obtain ⟨en, ρ, H0, rr, p⟩ := h
  refine ⟨en, ρ, H0, rr, ?_⟩
  unfold rngI at p
  cases e1 : ms ρ with
  | none => rw [e1] at p; exact p.elim
  | some r1 =>
    rw [e1] at p
    cases r1 with
    | exc c q => exact p
    | ok ds =>
      intro vs H0' H' x1 z1
      have hl := h1 ρ ds e1
      match ds, hl with
      | [d], _ =>
        obtain ⟨v, rfl, hv⟩ := rbs1 z1
        cases d with
        | int j =>
          cases hv.int
          dsimp only at p
          split at p
          · rename_i hj
            rw [rngOk_eq] at hj
            have hj := of_decide_eq_true hj
            refine ⟨j, rfl, by omega, by omega, p _ H0' H' x1 (itok_rng (by omega)) ?_⟩
            rw [rngL_length, sizeLine_eq]
            omega
          · exact p.elim
        | _ => exact p.elim
theorem ji_rng2 {mm : Bool} {X : Cx} {xs : List Str} {W : WX} {tg a b : Expr} {ms : Rho → Option ResL} {p pos : Pos} (hg : Gl X "range") (hm : X.mg "range" = none) (ha : JA X xs W [a, b] ms) (hs : starEach [a, b] X.env = [(false, eval a X.env), (false, eval b X.env)]) (hs2 : starEach [b] X.env = [(false, eval b X.env)]) (h1 : ∀ ρ ds, ms ρ = some (.ok ds) → ds.length = 2) :
    JI mm X xs W tg (.Call (.Name "range" p) [a, b] [] pos) (rngI ms) := by
  refine pi_of (pi_range2 hg hm ha hs hs2) fun σ H Rr h => ?_
  obtain ⟨en, ρ, H0, rr, p⟩ := h
  refine ⟨en, ρ, H0, rr, ?_⟩
  unfold rngI at p
  cases e1 : ms ρ with
  | none => rw [e1] at p; exact p.elim
  | some r1 =>
    rw [e1] at p
    cases r1 with
    | exc c q => exact p
    | ok ds =>
      intro vs H0' H' x1 z1
      have hl := h1 ρ ds e1
      match ds, hl with
      | [d, e], _ =>
        obtain ⟨v, w, rfl, hv, hw⟩ := rbs2 z1
        cases d with
        | int i =>
          cases e with
          | int j =>
            cases hv.int
            cases hw.int
            dsimp only at p
            split at p
            · rename_i hj
              rw [rngOk_eq] at hj
              have hj := of_decide_eq_true hj
              refine ⟨i, j, rfl, ⟨by omega, by omega, by omega, by omega⟩, p _ H0' H' x1 (itok_rng rfl) ?_⟩
              rw [rngL_length, sizeLine_eq]
              omega
            · exact p.elim
          | _ => exact p.elim
        | _ => exact p.elim
end
end DD

namespace DD
open PySem PySem.Spec PyProof.Rows L2

/-! ### the slots -/
section
variable {K : PySem.W.Frag} {en : Ent} {ρ : Rho} {H0 H : Hp} {σ : L2.St}
theorem get_set {α : Type} {l : List α} {i j : Nat} {a : α} : (l.set i a)[j]? = if i = j then (if i < l.length then some a else none) else l[j]? := by
  rw [List.getElem?_set]
theorem R.set_dat {v : V} {d : D} {i : Nat} (r : R K en ρ H0 σ H) (h : Dd K H0 v d) : R K en (ρ.set i (some (.dat, d))) H0 (σ.set i (some v)) H where
  sub := r.sub
  len := by rw [List.length_set, List.length_set]; exact r.len
  slot := fun j fl e hj => by
    rw [get_set] at hj
    split at hj
    · rename_i hij
      subst hij
      split at hj
      · rename_i hl
        cases hj
        exact ⟨v, by rw [get_set, if_pos rfl, if_pos (by rw [r.len]; exact hl)], h⟩
      · cases hj
    · rename_i hij
      obtain ⟨w, h1, h2⟩ := r.slot j fl e hj
      exact ⟨w, by rw [get_set, if_neg hij]; exact h1, h2⟩
  apart := fun j k fj fk dj dk w hjk mj mk hj hk hv => by
    rw [get_set] at hj hk hv ⊢
    split at hj
    · split at hj <;> cases hj <;> cases mj
    · rename_i hij
      rw [if_neg hij] at hv
      split at hk
      · split at hk <;> cases hk <;> cases mk
      · rename_i hik
        rw [if_neg hik]
        exact r.apart j k fj fk dj dk w hjk mj mk hj hk hv
  lent := r.lent
  e1 := r.e1
  e2 := r.e2
  e3 := r.e3
  hn := by rw [List.length_set]; exact r.hn
theorem R.set_own {a : Addr} {d : D} {i : Nat} (r : R K en ρ H0 σ H) (h : MO K H0 H a d) (hn : en.H a = none) (hio : en.io ≠ some a) (ha : ∀ (j : Nat) fj dj, j ≠ i → fj.mut = true → ρ[j]? = some (some (fj, dj)) → σ[j]? ≠ some (some (.ref a))) :
    R K en (ρ.set i (some (.own, d))) H0 (σ.set i (some (.ref a))) H where
  sub := r.sub
  len := by rw [List.length_set, List.length_set]; exact r.len
  slot := fun j fl e hj => by
    rw [get_set] at hj
    split at hj
    · rename_i hij
      subst hij
      split at hj
      · rename_i hl
        cases hj
        exact ⟨_, by rw [get_set, if_pos rfl, if_pos (by rw [r.len]; exact hl)], a, rfl, h, hn, hio⟩
      · cases hj
    · rename_i hij
      obtain ⟨w, h1, h2⟩ := r.slot j fl e hj
      exact ⟨w, by rw [get_set, if_neg hij]; exact h1, h2⟩
  apart := fun j k fj fk dj dk w hjk mj mk hj hk hv => by
    rw [get_set] at hj hk hv ⊢
    split at hj
    · rename_i hij
      rw [if_pos hij] at hv
      by_cases hl : i < σ.length
      · rw [if_pos hl] at hv
        cases hv
        split at hk
        · rename_i hik; omega
        · rename_i hik
          rw [if_neg hik]
          exact ha k fk dk (fun e => hik e.symm) mk hk
      · rw [if_neg hl] at hv
        cases hv
    · rename_i hij
      rw [if_neg hij] at hv
      split at hk
      · rename_i hik
        rw [if_pos hik]
        by_cases hl : i < σ.length
        · rw [if_pos hl]
          intro e
          cases e
          exact ha j fj dj (fun e => hij e.symm) mj hj hv
        · rw [if_neg hl]
          intro e
          cases e
      · rename_i hik
        rw [if_neg hik]
        exact r.apart j k fj fk dj dk w hjk mj mk hj hk hv
  lent := r.lent
  e1 := r.e1
  e2 := r.e2
  e3 := r.e3
  hn := by rw [List.length_set]; exact r.hn
/-- the thing of an own slot is changed -/
theorem SlotOk.mut {fl : Fl} {v : V} {d : D} (h : SlotOk K en H0 H fl v d) (hm : fl.mut = true) : ∃ a, v = .ref a ∧ MO K H0 H a d ∧ en.H a = none := by
  cases fl with
  | own => obtain ⟨a, e, m, n, _⟩ := h; exact ⟨a, e, m, n⟩
  | io => obtain ⟨a, e, m, n, _⟩ := h; exact ⟨a, e, m, n⟩
  | bor => cases hm
  | dat => cases hm
/-- the same place, other content -/
theorem SlotOk.again {H0' H' : Hp} {fl : Fl} {a : Addr} {d d' : D} (h : SlotOk K en H0 H fl (.ref a) d) (hm : fl.mut = true) (m' : MO K H0' H' a d') : SlotOk K en H0' H' fl (.ref a) d' := by
  cases fl with
  | own => obtain ⟨b, e, m, n⟩ := h; cases e; exact ⟨a, rfl, m', n⟩
  | io => obtain ⟨b, e, m, n⟩ := h; cases e; exact ⟨a, rfl, m', n⟩
  | bor => cases hm
  | dat => cases hm
/-- what a slot tells where only the place a has changed -/
theorem SlotOk.but {H0' H' : Hp} {fl : Fl} {a : Addr} {v : V} {d : D} (e : Ext H0 (del H a) H0' H') (hna : en.H a = none) (h : SlotOk K en H0 H fl v d) (hv : fl.mut = true → v ≠ .ref a) : SlotOk K en H0' H' fl v d := by
  cases fl with
  | own =>
    obtain ⟨b, rfl, m, n⟩ := h
    exact ⟨b, rfl, (m.del fun z => hv rfl (by rw [z])).mono e, n⟩
  | io =>
    obtain ⟨b, rfl, m, n⟩ := h
    exact ⟨b, rfl, (m.del fun z => hv rfl (by rw [z])).mono e, n⟩
  | bor =>
    rcases h with h | ⟨b, rfl, m, o, n⟩
    · exact .inl (h.mono e.s0)
    · refine .inr ⟨b, rfl, (m.del fun z => ?_).mono e, o, n⟩
      subst z
      rw [hna] at n
      cases n
  | dat => exact Dd.mono e.s0 h
/-- the thing of a slot has changed (in a call, or by a store) -/
theorem R.wrote {i : Nat} {a : Addr} {fl : Fl} {d d' : D} {H0' H' : Hp} (r : R K en ρ H0 σ H) (hm : fl.mut = true) (hi : ρ[i]? = some (some (fl, d))) (hs : σ[i]? = some (some (.ref a))) (e : Ext H0 (del H a) H0' H') (hm' : MO K H0' H' a d') :
    R K en (ρ.set i (some (fl, d'))) H0' σ H' := by
  obtain ⟨v, h1, h2⟩ := r.slot i fl d hi
  rw [hs] at h1
  cases h1
  have hna : en.H a = none := by
    obtain ⟨b, e, m, n⟩ := h2.mut hm
    cases e
    exact n
  have back : ∀ (j : Nat) fj dj, (ρ.set i (some (fl, d')))[j]? = some (some (fj, dj)) → ∃ dj', ρ[j]? = some (some (fj, dj')) := fun j fj dj hj => by
    rw [get_set] at hj
    split at hj
    · rename_i hij
      subst hij
      split at hj
      · cases hj
        exact ⟨d, hi⟩
      · cases hj
    · exact ⟨dj, hj⟩
  refine ⟨e.sub, by rw [List.length_set]; exact r.len, fun j fj dj hj => ?_, fun j k fj fk dj dk w hjk mj mk hj hk hv => ?_, fun b hb => ?_, fun b x q => ?_, r.e2.trans e.s0, fun b x q => ?_, by rw [List.length_set]; exact r.hn⟩
  · rw [get_set] at hj
    split at hj
    · rename_i hij
      subst hij
      split at hj
      · cases hj
        exact ⟨_, hs, h2.again hm hm'⟩
      · cases hj
    · rename_i hij
      obtain ⟨w, k1, k2⟩ := r.slot j fj dj hj
      refine ⟨w, k1, k2.but e hna fun mj z => ?_⟩
      subst z
      exact r.apart i j fl fj d dj _ hij hm mj hi hj hs k1
  · obtain ⟨dj', hj'⟩ := back j fj dj hj
    obtain ⟨dk', hk'⟩ := back k fk dk hk
    exact r.apart j k fj fk dj' dk' w hjk mj mk hj' hk' hv
  · by_cases hb2 : b = a
    · subst hb2
      exact hm'.there
    · obtain ⟨o, ho⟩ := r.lent b hb
      exact ⟨o, e.s b o (by rw [del_ne hb2]; exact ho)⟩
  · have hb : b ≠ a := ne_of_none q hna
    exact e.s b x (by rw [del_ne hb]; exact r.e1 b x q)
  · have hb : b ≠ a := ne_of_none q hna
    rw [e.new b x (by rw [del_ne hb]; exact r.e1 b x q)]
    exact r.e3 b x q
theorem ext_upd {a : Addr} {o : HO} {d : D} (s : Same H0 H) (hm : MO K H0 H a d) : Ext H0 (del H a) H0 (upd H a o) := by
  have n0 := hm.no
  refine ⟨Same.refl _, fun b x e => ?_, fun b x e => ?_, fun _ _ _ => rfl⟩
  · obtain ⟨h1, h2⟩ := del_some e
    rw [upd_ne h1]
    exact h2
  · rw [upd_ne (ne_of_none e n0)]
    exact s b x e
theorem R.write {i : Nat} {a : Addr} {fl : Fl} {d d' : D} {o : HO} (r : R K en ρ H0 σ H) (hfm : fl.mut = true) (hi : ρ[i]? = some (some (fl, d))) (hs : σ[i]? = some (some (.ref a))) (hm : MO K H0 H a d) (hm' : MO K H0 (upd H a o) a d') :
    R K en (ρ.set i (some (fl, d'))) H0 σ (upd H a o) := r.wrote hfm hi hs (ext_upd r.sub hm) hm'
/-- an own slot's thing is settled -/
theorem R.settle {i : Nat} {ds : List D} (r : R K en ρ H0 σ H) (hi : ρ[i]? = some (some (.own, .list ds))) : ∃ H0', Same H0 H0' ∧ R K en (ρ.set i (some (.dat, .list ds))) H0' σ H := by
  generalize hd0 : PyData.list ds = d at hi ⊢
  obtain ⟨v, hs, a, e, m, hna, hio⟩ := r.slot i .own d hi
  subst e
  obtain ⟨o, ho⟩ := m.there
  have n0 := m.no
  have s1 : Same H0 (upd H0 a o) := fun b x e => by rw [upd_ne (ne_of_none e n0)]; exact e
  have hd : Dd K (upd H0 a o) (.ref a) d := by
    cases m with
    | lst k1 k2 k3 => rw [k2] at ho; cases ho; exact .lst (.inl upd_same) (k3.mono s1)
    | dic k1 k2 k3 => cases hd0
    | kd k1 k2 k3 k4 => cases hd0
  have key : ∀ b d, MO K H0 H b d → b ≠ a → MO K (upd H0 a o) H b d := fun b d m hb => by
    cases m with
    | lst k1 k2 k3 => exact .lst (by rw [upd_ne hb]; exact k1) k2 (k3.mono s1)
    | dic k1 k2 k3 => exact .dic (by rw [upd_ne hb]; exact k1) k2 (k3.mono s1)
    | kd k1 k2 k3 k4 => exact .kd (by rw [upd_ne hb]; exact k1) k2 k3 (k4.mono s1)
  refine ⟨upd H0 a o, s1, fun b x e => ?_, by rw [List.length_set]; exact r.len, fun j fl e hj => ?_, fun j k fj fk dj dk w hjk mj mk hj hk hv => ?_, r.lent, r.e1, r.e2.trans s1, fun b x e => ?_, by rw [List.length_set]; exact r.hn⟩
  · by_cases hb : b = a
    · subst hb; rw [upd_same] at e; cases e; exact ho
    · rw [upd_ne hb] at e; exact r.sub b x e
  · rw [get_set] at hj
    split at hj
    · rename_i hij
      subst hij
      split at hj
      · cases hj
        exact ⟨_, hs, hd⟩
      · cases hj
    · rename_i hij
      obtain ⟨w, h1, h2⟩ := r.slot j fl e hj
      refine ⟨w, h1, ?_⟩
      cases fl with
      | own =>
        obtain ⟨b, e1, m, n⟩ := h2
        subst e1
        refine ⟨b, rfl, key b e m fun z => ?_, n⟩
        subst z
        exact r.apart i j .own .own d e _ hij rfl rfl hi hj hs h1
      | io =>
        obtain ⟨b, e1, m, n⟩ := h2
        subst e1
        refine ⟨b, rfl, key b e m fun z => ?_, n⟩
        subst z
        exact r.apart i j .own .io d e _ hij rfl rfl hi hj hs h1
      | bor =>
        rcases h2 with h2 | ⟨b, e1, m, n⟩
        · exact .inl (h2.mono s1)
        · refine .inr ⟨b, e1, key b e m fun z => ?_, n⟩
          subst z
          obtain ⟨u, hu⟩ := n
          rw [hna] at hu
          cases hu
      | dat => exact Dd.mono s1 h2
  · rw [get_set] at hj hk
    split at hj
    · split at hj <;> cases hj <;> cases mj
    · split at hk
      · split at hk <;> cases hk <;> cases mk
      · exact r.apart j k fj fk dj dk w hjk mj mk hj hk hv
  · rw [upd_ne (ne_of_none e hna)]; exact r.e3 b x e
def wipeR (ρ : Rho) : List Nat → Rho
  | [] => ρ
  | v :: vs => (wipeR ρ vs).set v none
theorem R.none {i : Nat} (r : R K en ρ H0 σ H) : R K en (ρ.set i none) H0 (σ.set i none) H where
  sub := r.sub
  len := by rw [List.length_set, List.length_set]; exact r.len
  slot := fun j fl e hj => by
    rw [get_set] at hj
    split at hj
    · split at hj <;> cases hj
    · rename_i hij
      obtain ⟨w, h1, h2⟩ := r.slot j fl e hj
      exact ⟨w, by rw [get_set, if_neg hij]; exact h1, h2⟩
  apart := fun j k fj fk dj dk w hjk mj mk hj hk hv => by
    rw [get_set] at hj hk hv ⊢
    split at hj
    · split at hj <;> cases hj <;> cases mj
    · rename_i hij
      rw [if_neg hij] at hv
      split at hk
      · split at hk <;> cases hk <;> cases mk
      · rename_i hik
        rw [if_neg hik]
        exact r.apart j k fj fk dj dk w hjk mj mk hj hk hv
  lent := r.lent
  e1 := r.e1
  e2 := r.e2
  e3 := r.e3
  hn := by rw [List.length_set]; exact r.hn
theorem R.wipe (r : R K en ρ H0 σ H) : ∀ vs : List Nat, R K en (wipeR ρ vs) H0 (wipe σ vs) H
  | [] => r
  | v :: vs => (R.wipe r vs).none
/-- from the entry on -/
theorem R.ext (r : R K en ρ H0 σ H) : Ext en.H0 en.H H0 H := ⟨r.e2, r.e1, r.sub, r.e3⟩
end

/-! ### targets -/
mutual
inductive Tg where
  | one (i : Nat)
  | many (ts : Tgs)
inductive Tgs where
  | nil
  | cons (t : Tg) (ts : Tgs)
end
mutual
def Tg.bind : Tg → D → Rho → Option Rho
  | .one i, d, ρ => some (ρ.set i (some (.dat, d)))
  | .many ts, .tuple ds, ρ => ts.bind ds ρ
  | .many _, _, _ => none
def Tgs.bind : Tgs → List D → Rho → Option Rho
  | .nil, [], ρ => some ρ
  | .cons t ts, d :: ds, ρ => (match t.bind d ρ with
    | some ρ' => ts.bind ds ρ'
    | none => none)
  | _, _, _ => none
end
mutual
def Tg.slots : Tg → List Nat
  | .one i => [i]
  | .many ts => ts.slots
def Tgs.slots : Tgs → List Nat
  | .nil => []
  | .cons t ts => t.slots ++ ts.slots
end
def Tgs.len : Tgs → Nat
  | .nil => 0
  | .cons _ ts => ts.len + 1
theorem Tgs.bind_len : ∀ {ts : Tgs} {ds : List D} {ρ ρ' : Rho}, ts.bind ds ρ = some ρ' → ds.length = ts.len
  | .nil, [], _, _, _ => rfl
  | .nil, _ :: _, _, _, h => by unfold Tgs.bind at h; cases h
  | .cons _ _, [], _, _, h => by unfold Tgs.bind at h; cases h
  | .cons t ts, d :: ds, ρ, ρ', h => by
    unfold Tgs.bind at h
    split at h
    · rw [List.length_cons, Tgs.bind_len h]; rfl
    · cases h
/-- only these slots change -/
def Keeps (vs : List Nat) (σ σ' : L2.St) : Prop := σ'.length = σ.length ∧ ∀ j, j ∉ vs → σ'[j]? = σ[j]?
def TauG (mm : Bool) (K : PySem.W.Frag) (vs : List Nat) (b : D → Rho → Option Rho) : TG := fun v σ H Q => ∃ en ρ H0 d ρ', R K en ρ H0 σ H ∧ Dm mm K H0 v d ∧ b d ρ = some ρ' ∧ ∀ σ', R K en ρ' H0 σ' H → Keeps vs σ σ' → Q σ' H
def TauGs (K : PySem.W.Frag) (vs : List Nat) (b : List D → Rho → Option Rho) : TGs := fun ws σ H Q => ∃ en ρ H0 ds ρ', R K en ρ H0 σ H ∧ Dds K H0 ws ds ∧ b ds ρ = some ρ' ∧ ∀ σ', R K en ρ' H0 σ' H → Keeps vs σ σ' → Q σ' H
theorem pg_of {X : Cx} {tg : Expr} {t t' : TG} (h : PG X tg t) (i : ∀ v σ H Q, t' v σ H Q → t v σ H Q) : PG X tg t' := ⟨fun pins s σ H v u Q I r q => h.run pins s σ H v u Q I r (i v σ H Q q)⟩
theorem pgs_of {X : Cx} {tg : List Expr} {t t' : TGs} (h : PGs X tg t) (i : ∀ v σ H Q, t' v σ H Q → t v σ H Q) : PGs X tg t' := ⟨fun pins s σ H v u Q I r q => h.run pins s σ H v u Q I r (i v σ H Q q)⟩
section
variable {X : Cx} {pos : Pos}
theorem jg_one {i : Nat} {x : Str} (hN : X.N.Nodup) (hi : X.N[i]? = some x) (hx : Loc X.env.scope x) (hf : X.fn x = true ∨ X.env.scope.names.lookup x = some .local) : PG X (.Name x pos) (TauG false X.K [i] (Tg.one i).bind) := by
  refine pg_of (pg_name hN hi hx hf) fun v σ H Q h => ?_
  obtain ⟨en, ρ, H0, d, ρ', r, hd, hb, q⟩ := h
  unfold Tg.bind at hb
  cases hb
  refine q _ (r.set_dat hd) ⟨List.length_set, fun j hj => ?_⟩
  rw [get_set, if_neg (fun e => hj (by simp [e]))]
theorem jgs_nil : PGs X [] (TauGs X.K [] Tgs.nil.bind) := by
  refine pgs_of pgs_nil fun v σ H Q h => ?_
  obtain ⟨en, ρ, H0, d, ρ', r, hd, hb, q⟩ := h
  cases hd with
  | nil =>
    unfold Tgs.bind at hb
    cases hb
    exact ⟨rfl, q _ r ⟨rfl, fun _ _ => rfl⟩⟩
  | cons _ _ => unfold Tgs.bind at hb; cases hb
theorem jgs_cons {mm : Bool} {e : Expr} {es : List Expr} {t : Tg} {ts : Tgs} (h1 : PG X e (TauG mm X.K t.slots t.bind)) (h2 : PGs X es (TauGs X.K ts.slots ts.bind))
    (hs : (assignEach (e :: es) X.env).map (·.2) = assign e X.env :: (assignEach es X.env).map (·.2)) : PGs X (e :: es) (TauGs X.K (Tgs.cons t ts).slots (Tgs.cons t ts).bind) := by
  refine pgs_of (pgs_cons h1 h2 hs) fun v σ H Q h => ?_
  obtain ⟨en, ρ, H0, d, ρ', r, hd, hb, q⟩ := h
  cases hd with
  | nil => unfold Tgs.bind at hb; cases hb
  | cons hd hds =>
    unfold Tgs.bind at hb
    split at hb
    · rename_i ρ1 e1
      refine ⟨_, _, rfl, en, ρ, H0, _, ρ1, r, Dm.of hd, e1, fun σ1 r1 k1 => ⟨en, ρ1, H0, _, ρ', r1, hds, hb, fun σ2 r2 k2 => q σ2 r2 ⟨k2.1.trans k1.1, fun j hj => ?_⟩⟩⟩
      unfold Tgs.slots at hj
      rw [List.mem_append, not_or] at hj
      rw [k2.2 j hj.2, k1.2 j hj.1]
    · cases hb
theorem jg_many {es : List Expr} {k : Nat} {ts : Tgs} (hc : X.calm = true) (h : PGs X es (TauGs X.K ts.slots ts.bind)) (hn : (assignEach es X.env).length = ts.len) (hst : (assignEach es X.env).findIdx? (·.1) = none) :
    PG X (.Tuple es k pos) (TauG true X.K (Tg.many ts).slots (Tg.many ts).bind) := by
  refine pg_of (pg_tup hc h hn hst) fun v σ H Q h => ?_
  obtain ⟨en, ρ, H0, d, ρ', r, hd, hb, q⟩ := h
  rcases hd with hd | ⟨a, us, ds, rfl, rfl, h1, h2⟩
  · cases hd with
    | tup h1 z h2 =>
      unfold Tg.bind at hb
      refine ⟨_, _, rfl, .inl (.inr ⟨_, r.sub _ _ h1⟩), ?_, en, ρ, H0, _, ρ', r, h2, hb, q⟩
      rw [h2.length]
      exact Tgs.bind_len hb
    | _ => unfold Tg.bind at hb; cases hb
  · unfold Tg.bind at hb
    refine ⟨_, _, rfl, .inl (.inl (r.sub _ _ h1)), ?_, en, ρ, H0, _, ρ', r, h2, hb, q⟩
    rw [h2.length]
    exact Tgs.bind_len hb
end

/-! ### comprehensions -/
def compL (b : D → Rho → Option Rho) (mt : Rho → Option ResB) (me : Rho → Option Res) (ρ : Rho) : List D → Option (List D)
  | [] => some []
  | x :: r => (match b x ρ with
    | some ρ1 => (match mt ρ1 with
      | some (.ok true) => (match me ρ1 with
        | some (.ok d) => (compL b mt me ρ r).map (d :: ·)
        | _ => none)
      | some (.ok false) => compL b mt me ρ r
      | _ => none)
    | none => none)
def compV (mi : Rho → Option ResL) (vs : List Nat) (b : D → Rho → Option Rho) (mt : Rho → Option ResB) (me : Rho → Option Res) : Rho → Option Res := fun ρ => match mi ρ with
  | some (.ok items) => (compL b mt me (wipeR ρ vs) items).map fun ds => .ok (.list ds)
  | some (.exc c p) => some (.exc c p)
  | none => none
abbrev W0 : WX := fun _ _ _ _ => False
theorem wipe_get {σ : L2.St} : ∀ {vs : List Nat} {j : Nat}, (wipe σ vs)[j]? = if j ∈ vs then (if j < σ.length then some none else none) else σ[j]?
  | [], j => by simp [wipe]
  | v :: vs, j => by
    unfold wipe
    rw [get_set, wipe_get (vs := vs), wipe_length]
    by_cases h : v = j
    · subst h; simp
    · rw [if_neg h]
      by_cases h2 : j ∈ vs
      · rw [if_pos h2, if_pos (List.mem_cons_of_mem _ h2)]
      · rw [if_neg h2, if_neg (by simp only [List.mem_cons, not_or]; exact ⟨fun e => h e.symm, h2⟩)]
theorem wipe_keeps {σ σ2 : L2.St} {vs us : List Nat} (k : Keeps us (wipe σ vs) σ2) (h : ∀ i ∈ us, i ∈ vs) : wipe σ2 vs = wipe σ vs := by
  apply List.ext_getElem?
  intro j
  rw [wipe_get, wipe_get, k.1, wipe_length]
  by_cases hj : j ∈ vs
  · rw [if_pos hj, if_pos hj]
  · rw [if_neg hj, if_neg hj, k.2 j (fun z => hj (h j z)), wipe_get, if_neg hj]
section
variable {K : PySem.W.Frag} {mg : Str → Option Value} {xs : List Str} {W : WX}
theorem tau_lc {mm : Bool} {σ : L2.St} {H : Hp} {Q : VK} {mi : Rho → Option ResL} {vs us : List Nat} {b : D → Rho → Option Rho} {mt : Rho → Option ResB} {me : Rho → Option Res} (hu : ∀ i ∈ us, i ∈ vs)
    (h : Tau K mg xs W .new (compV mi vs b mt me) σ H Q) : tLc (TauI mm K mg xs W mi) (TauG mm K us b) (TauB K mg xs W0 mt) (TauD K mg xs W0 me) vs σ H Q := by
  obtain ⟨en, ρ, H0, rr, p⟩ := h
  refine ⟨en, ρ, H0, rr, ?_⟩
  unfold compV at p
  cases e1 : mi ρ with
  | none => rw [e1] at p; exact p.elim
  | some r1 =>
    rw [e1] at p
    cases r1 with
    | exc c q => exact p
    | ok items =>
      intro J H0' H1 x1 io hz Dn nD
      dsimp only at p
      cases e2 : compL b mt me (wipeR ρ vs) items with
      | none => rw [e2] at p; exact p.elim
      | some total =>
        rw [e2] at p
        have p : ∀ v H0' H', Ext H0 H H0' H' → RS true K H H0' H' v (.list total) → Q v H' := p
        have nD0 : H0' Dn = none := not_settled x1.sub nD
        have rr1 := rr.mono x1
        refine ⟨fun i m HH => m = items.length - i ∧ i ≤ items.length ∧ ∃ H0i acc out rest, Ext H0' H1 H0i HH ∧ HH Dn = some (.lst acc) ∧ H0i Dn = none ∧ Dds K H0i acc out ∧ compL b mt me (wipeR ρ vs) (items.drop i) = some rest ∧ total = out ++ rest ∧ out.length ≤ i,
          ⟨items.length, by simp, Nat.zero_le _, H0', [], [], total, ext_new x1.sub nD, upd_same, nD0, .nil, by simpa using e2, rfl, Nat.le_refl _⟩, ?_⟩
        rintro i m HH ⟨rfl, hi, H0i, acc, out, rest, x2, hD, nDi, k2, ec, et, hol⟩
        have rri := rr1.mono x2
        by_cases hlt : i < items.length
        · right
          have hg := List.getElem?_eq_getElem hlt
          have hdrop : items.drop i = items[i] :: items.drop (i + 1) := List.drop_eq_getElem_cons hlt
          rw [hdrop] at ec
          unfold compL at ec
          obtain ⟨go, yl⟩ := io.go i _ H0i HH hg rri.e1 x2.s0 x2.sub
          refine ⟨go, fun HH' => i + 1 ≤ items.length ∧ ∃ H0i acc out rest, Ext H0' H1 H0i HH' ∧ HH' Dn = some (.lst acc) ∧ H0i Dn = none ∧ Dds K H0i acc out ∧ compL b mt me (wipeR ρ vs) (items.drop (i + 1)) = some rest ∧ total = out ++ rest ∧ out.length ≤ i + 1, fun HH' hN => ⟨items.length - (i + 1), by omega, rfl, hN.1, hN.2⟩, fun x HH' hy => ?_⟩
          obtain ⟨H0y, x3, hd⟩ := yl x HH' hy
          cases eb : b items[i] (wipeR ρ vs) with
          | none => rw [eb] at ec; cases ec
          | some ρ1 =>
            rw [eb] at ec
            dsimp only at ec
            have rw1 := (rri.mono x3).wipe vs
            refine ⟨en, wipeR ρ vs, H0y, items[i], ρ1, rw1, hd, eb, fun σ2 r2 kk => ⟨wipe_keeps kk hu, ?_⟩⟩
            refine ⟨en, ρ1, H0y, r2, ?_⟩
            cases em : mt ρ1 with
            | none => rw [em] at ec; cases ec
            | some rm =>
              rw [em] at ec
              cases rm with
              | exc c q => cases ec
              | ok kb =>
                intro H0t Ht x4
                have x34 := x3.trans x4
                have x24 := x2.trans x34
                cases kb with
                | false =>
                  refine iteF ⟨hlt, H0t, acc, out, rest, x24, x34.s _ _ hD, by rw [x34.new _ _ hD]; exact nDi, k2.mono x34.s0, ec, et, by omega⟩
                | true =>
                  dsimp only at ec
                  refine iteT ⟨en, ρ1, H0t, r2.mono x4, ?_⟩
                  cases ee : me ρ1 with
                  | none => rw [ee] at ec; cases ec
                  | some re =>
                    rw [ee] at ec
                    cases re with
                    | exc c q => cases ec
                    | ok d =>
                      dsimp only at ec
                      intro y H0e He x5 hy2
                      have x35 := x34.trans x5
                      have hDe := x35.s _ _ hD
                      have nDe : H0e Dn = none := by rw [x35.new _ _ hD]; exact nDi
                      refine ⟨acc, hDe, ?_, hlt, ?_⟩
                      · rw [k2.length]; omega
                      · cases er : compL b mt me (wipeR ρ vs) (items.drop (i + 1)) with
                        | none => rw [er] at ec; cases ec
                        | some rest' =>
                          rw [er] at ec
                          cases ec
                          have x25 := x2.trans x35
                          refine ⟨H0e, acc ++ [y], out ++ [d], rest', ⟨x25.s0, fun c o e => ?_, fun c o e => ?_, x25.new⟩, upd_same, nDe, (k2.mono x35.s0).append (.cons hy2 .nil), rfl, ?_, ?_⟩
                          · rw [upd_ne (ne_of_none e nD)]; exact x25.s c o e
                          · rw [upd_ne (ne_of_none e nDe)]; exact x25.sub c o e
                          · rw [et]; simp
                          · rw [List.length_append]; simp; omega
        · left
          have hie : i = items.length := by omega
          subst hie
          refine ⟨io.stop _ H0i HH rfl rri.e1 x2.s0 x2.sub, ?_⟩
          rw [List.drop_length] at ec
          cases ec
          rw [List.append_nil] at et
          subst et
          exact p _ H0i HH (x1.trans x2) (.inr ⟨Dn, rfl, .lst nDi hD k2, x1.s.free nD⟩)
end
end DD

namespace DD
open PySem PySem.Spec PyProof.Rows L2

inductive Out where
  | next (ρ : Rho)
  | ret (d : D)
  | exc (c : Nat) (p : Option D)
/-- how a def hands back: new or not; the slot of the thing that its caller lends -/
structure Mo where
  nw : Bool
  io : Option Nat
section
variable (K : PySem.W.Frag) (mg : Str → Option Value) (xs : List Str) (W : WX) (nw : Mo)
/-- handed back: the answer and, if a thing was lent, what that holds now -/
def PostT (en : Ent) (Dn : Ends) (d : D) : Option Nat → Prop
  | none => ∀ v H0' H', Ext en.H0 en.H H0' H' → RS nw.nw K en.H H0' H' v d → Dn.rt v H'
  | some _ => ∃ a r x, en.io = some a ∧ d = .tuple [r, x] ∧ ∀ v H0' H', Ext en.H0 en.H H0' H' → Dd K H0' v r → MO K H0' H' a x → Dn.rt v H'
def PostS (en : Ent) (H0 : Hp) (Dn : Ends) : Option Out → Prop
  | none => False
  | some (.next ρ) => ∀ σ' H0' H', R K en ρ H0' σ' H' → Same H0 H0' → Dn.nx σ' H'
  | some (.ret d) => PostT K nw en Dn d nw.io
  | some (.exc c p) => ∀ σ' (_ : σ'.length = en.n) cls dd H0' H', Ext en.H0 en.H H0' H' → ExcIs K mg xs c p cls dd H0' H' → W cls dd σ' H'
def TauS (m : Rho → Option Out) : TS := fun Dn σ H => ∃ en ρ H0, R K en ρ H0 σ H ∧ PostS K mg xs W nw en H0 Dn (m ρ)
end
theorem postS_mono {K : PySem.W.Frag} {mg : Str → Option Value} {xs : List Str} {W : WX} {nw : Mo} {en : Ent} {H0 H0' : Hp} {Dn : Ends} {o : Option Out} (s : Same H0 H0') (p : PostS K mg xs W nw en H0 Dn o) : PostS K mg xs W nw en H0' Dn o := by
  cases o with
  | none => exact p
  | some o =>
    cases o with
    | next ρ => exact fun σ' A B r z => p σ' A B r (s.trans z)
    | ret d => exact p
    | exc c q => exact p
def JS (X : Cx) (xs : List Str) (W : WX) (nw : Mo) (st : Stmt) (m : Rho → Option Out) : Prop := PS X st (TauS X.K X.mg xs W nw m)
def JSs (X : Cx) (xs : List Str) (W : WX) (nw : Mo) (st : List Stmt) (m : Rho → Option Out) : Prop := PSs X st (TauS X.K X.mg xs W nw m)

/-- what an expression hands on to a statement -/
def thenS (m : Rho → Option Res) (k : Rho → D → Option Out) : Rho → Option Out := fun ρ => match m ρ with
  | some (.ok d) => k ρ d
  | some (.exc c p) => some (.exc c p)
  | none => none
def seqS (m n : Rho → Option Out) : Rho → Option Out := fun ρ => match m ρ with
  | some (.next ρ') => n ρ'
  | r => r
section
variable {X : Cx} {xs : List Str} {W : WX} {nw : Mo} {a b c : Expr} {sa sb : Src} {ma mb : Rho → Option Res} {pos : Pos} {st : Stmt} {sts : List Stmt} {m n : Rho → Option Out}
theorem jss_nil : JSs X xs W nw [] (fun ρ => some (.next ρ)) := by
  refine pss_of pss_nil fun Dn σ H h => ?_
  obtain ⟨en, ρ, H0, rr, p⟩ := h
  exact p σ H0 H rr (Same.refl _)
theorem jss_cons (h1 : JS X xs W nw st m) (h2 : JSs X xs W nw sts n) : JSs X xs W nw (st :: sts) (seqS m n) := by
  refine pss_of (pss_cons h1 h2) fun Dn σ H h => ?_
  obtain ⟨en, ρ, H0, rr, p⟩ := h
  refine ⟨en, ρ, H0, rr, ?_⟩
  unfold seqS at p
  cases e1 : m ρ with
  | none => rw [e1] at p; exact p.elim
  | some r1 =>
    rw [e1] at p
    cases r1 with
    | next ρ' => exact fun σ' H0' H' r' z => ⟨en, ρ', H0', r', postS_mono z p⟩
    | ret d => exact p
    | exc c q => exact p
/-- a slot's own thing is settled: nothing runs -/
def freezeS (i : Nat) : Rho → Option Out := fun ρ => match ρ[i]? with
  | some (some (.own, .list ds)) => some (.next (ρ.set i (some (.dat, .list ds))))
  | _ => none
theorem jss_freeze {i : Nat} (h : JSs X xs W nw sts n) : JSs X xs W nw sts (seqS (freezeS i) n) := by
  refine pss_of h fun Dn σ H h => ?_
  obtain ⟨en, ρ, H0, rr, p⟩ := h
  unfold seqS freezeS at p
  cases e : ρ[i]? with
  | none => rw [e] at p; exact p.elim
  | some s0 =>
    rw [e] at p
    cases s0 with
    | none => exact p.elim
    | some fd =>
      obtain ⟨fl, d⟩ := fd
      cases fl with
      | own =>
        cases d with
        | list ds =>
          obtain ⟨H0', z, r'⟩ := rr.settle e
          exact ⟨en, _, H0', r', postS_mono z p⟩
        | _ => exact p.elim
      | _ => exact p.elim
/-- from a statement that begins with an expression (no name) -/
theorem tau_then {σ : L2.St} {H : Hp} {Dn : Ends} {src : Src} {k : Rho → D → Option Out} {Q : VK} (h : TauS X.K X.mg xs W nw (thenS ma k) Dn σ H)
    (hq : ∀ en ρ H0 d v H0' H', R X.K en ρ H0 σ H → Ext H0 H H0' H' → Rz X.K src σ H H0' H' v d → ma ρ = some (.ok d) → PostS X.K X.mg xs W nw en H0 Dn (k ρ d) → Q v H') : Tau X.K X.mg xs W src ma σ H Q := by
  obtain ⟨en, ρ, H0, rr, p⟩ := h
  refine ⟨en, ρ, H0, rr, ?_⟩
  unfold thenS at p
  cases e1 : ma ρ with
  | none => rw [e1] at p; exact p.elim
  | some r1 =>
    rw [e1] at p
    cases r1 with
    | exc c q => exact fun cls dd A B x z => p σ rr.hl cls dd A B (rr.ext.trans x) z
    | ok d => exact fun v A B x z => hq en ρ H0 d v A B rr x z e1 p
theorem tauD_then {σ : L2.St} {H : Hp} {Dn : Ends} {k : Rho → D → Option Out} {Q : VK} (h : TauS X.K X.mg xs W nw (thenS ma k) Dn σ H)
    (hq : ∀ en ρ H0 d v H0' H', R X.K en ρ H0 σ H → Ext H0 H H0' H' → Dd X.K H0' v d → ma ρ = some (.ok d) → PostS X.K X.mg xs W nw en H0 Dn (k ρ d) → Q v H') : TauD X.K X.mg xs W ma σ H Q := by
  obtain ⟨en, ρ, H0, rr, p⟩ := h
  refine ⟨en, ρ, H0, rr, ?_⟩
  unfold thenS at p
  cases e1 : ma ρ with
  | none => rw [e1] at p; exact p.elim
  | some r1 =>
    rw [e1] at p
    cases r1 with
    | exc c q => exact fun cls dd A B x z => p σ rr.hl cls dd A B (rr.ext.trans x) z
    | ok d => exact fun v A B x z => hq en ρ H0 d v A B rr x z e1 p
/-! ### assignments to a name -/
def datK (i : Nat) : Rho → D → Option Out := fun ρ d => some (.next (ρ.set i (some (.dat, d))))
def ownK (i : Nat) : Rho → D → Option Out := fun ρ d => if flatRoot d = true then none else some (.next (ρ.set i (some (.own, d))))
theorem js_dat {i : Nat} {x : Str} {pos' : Pos} (hN : X.N.Nodup) (hi : X.N[i]? = some x) (hx : Loc X.env.scope x) (he : JD X xs W a ma) (hs : swapsWith a (some (.Name x pos')) pos.line X.env = pure false) (hf : X.fn x = true ∨ X.env.scope.names.lookup x = some .local) :
    JS X xs W nw (.Assign [.Name x pos'] a pos) (thenS ma (datK i)) :=
  ps_of (ps_set hN hi hx he hs hf) fun Dn σ H h => tauD_then h fun en ρ H0 d v H0' H' rr x1 z _ p => p _ _ _ ((rr.mono x1).set_dat z) x1.s0
theorem own_new {K : PySem.W.Frag} {en : Ent} {ρ : Rho} {H0 H H0' H' : Hp} {σ : L2.St} {v : V} {d : D} {i : Nat} (rr : R K en ρ H0 σ H) (x1 : Ext H0 H H0' H') (z : RS true K H H0' H' v d) (hf : ¬ flatRoot d = true) : R K en (ρ.set i (some (.own, d))) H0' (σ.set i (some v)) H' := by
  rcases z with ⟨_, z⟩ | ⟨a, rfl, m, n⟩
  · exact absurd (z rfl) hf
  · refine (rr.mono x1).set_own m (rr.e1.free n) (fun e => ?_) fun j fj dj hj mj hr hs => ?_
    · obtain ⟨o, ho⟩ := rr.lent a e
      rw [n] at ho
      cases ho
    · obtain ⟨w, h1, h2⟩ := rr.slot j fj dj hr
      obtain ⟨b, e, m', _⟩ := h2.mut mj
      rw [hs] at h1
      cases h1
      cases e
      obtain ⟨o, ho⟩ := m'.there
      rw [n] at ho
      cases ho
theorem js_own {i : Nat} {x : Str} {pos' : Pos} (hN : X.N.Nodup) (hi : X.N[i]? = some x) (hx : Loc X.env.scope x) (he : JE X xs W a .new ma) (hs : swapsWith a (some (.Name x pos')) pos.line X.env = pure false) (hf : X.fn x = true ∨ X.env.scope.names.lookup x = some .local) :
    JS X xs W nw (.Assign [.Name x pos'] a pos) (thenS ma (ownK i)) :=
  ps_of (ps_set hN hi hx he hs hf) fun Dn σ H h => tau_then h fun en ρ H0 d v H0' H' rr x1 z _ p => by
    unfold ownK at p
    split at p
    · exact p.elim
    · rename_i hf
      exact p _ _ _ (own_new rr x1 z hf) x1.s0
section
variable {i : Nat} {y : Str} {py : Pos} {elt tg iter : Expr} {ifs : List Expr} {scope : Scope} {own : List (Str × Nat)} {cpos spos : Pos} {mi : Rho → Option ResL} {us : List Nat} {bb : D → Rho → Option Rho} {mt : Rho → Option ResB} {me : Rho → Option Res}
theorem je_comp {mm : Bool} (hc : X.calm = true) (hN : X.N.Nodup) (hi : JI mm X xs W tg iter mi) (ok : BlkOk X.N X.env.scope scope own) (hu : ∀ i ∈ us, i ∈ own.map (·.2))
    (hg : ∀ (s : Shared) (H : Hp) (C : Addr) (cl : List (Str × Addr)) (fp : List Addr), PG (X.blk s H scope (compEnvC scope cl C X.env) fp) tg (TauG mm X.K us bb)) (ht : ∀ (s : Shared) (H : Hp) (C : Addr) (cl : List (Str × Addr)) (fp : List Addr), PTs (X.blk s H scope (compEnvC scope cl C X.env) fp) ifs (TauB X.K X.mg xs W0 mt))
    (he : ∀ (s : Shared) (H : Hp) (C : Addr) (cl : List (Str × Addr)) (fp : List Addr), JD (X.blk s H scope (compEnvC scope cl C X.env) fp) xs W0 elt me) (hs : ∀ x, foldedSetIterable iter X.env x = pure x) :
    JE X xs W (.ListComp elt [⟨tg, iter, ifs, 0⟩] scope pos) .new (compV mi (own.map (·.2)) bb mt me) :=
  pe_of (pe_lc (te := TauD X.K X.mg xs W0 me) hc hN hi ok hg ht he hs) fun σ H Q h => tau_lc hu h
theorem js_datLc {mm : Bool} (hc : X.calm = true) (hN : X.N.Nodup) (hy : X.N[i]? = some y) (hyl : X.env.scope.names.lookup y = some .local)
    (hsw : swapsWith (.ListComp elt [⟨tg, iter, ifs, 0⟩] scope cpos) (some (.Name y py)) spos.line X.env = pure true) (hi : JI mm X xs W tg iter mi) (ok : BlkOk X.N X.env.scope scope own) (hu : ∀ i ∈ us, i ∈ own.map (·.2))
    (hg : ∀ (s : Shared) (H : Hp) (C : Addr) (cl : List (Str × Addr)) (fp : List Addr), PG (X.blk s H scope (compEnvC scope cl C X.env) fp) tg (TauG mm X.K us bb)) (ht : ∀ (s : Shared) (H : Hp) (C : Addr) (cl : List (Str × Addr)) (fp : List Addr), PTs (X.blk s H scope (compEnvC scope cl C X.env) fp) ifs (TauB X.K X.mg xs W0 mt))
    (he : ∀ (s : Shared) (H : Hp) (C : Addr) (cl : List (Str × Addr)) (fp : List Addr), JD (X.blk s H scope (compEnvC scope cl C X.env) fp) xs W0 elt me) (hs : ∀ x, foldedSetIterable iter X.env x = pure x) :
    JS X xs W nw (.Assign [.Name y py] (.ListComp elt [⟨tg, iter, ifs, 0⟩] scope cpos) spos) (thenS (compV mi (own.map (·.2)) bb mt me) (datK i)) :=
  ps_of (ps_setLc (te := TauD X.K X.mg xs W0 me) hc hN hy hyl hsw hi ok hg ht he hs) fun Dn σ H h => tau_lc hu (tau_then (Q := fun x H1 => gName i x σ H1 Dn.nx) (src := .new) h fun en ρ H0 d v H0' H' rr x1 z ez p => by
    have nd : isDict d = false := by
      unfold compV at ez
      split at ez
      · rename_i items _
        cases ec : compL bb mt me (wipeR ρ (own.map (·.2))) items with
        | none => rw [ec] at ez; cases ez
        | some ds => rw [ec] at ez; cases ez; rfl
      · cases ez
      · cases ez
    obtain ⟨H02, k1, _, _, _, k5⟩ := RS.settle x1 z (not_dict nd)
    exact p _ _ _ ((rr.mono k1).set_dat k5) k1.s0)
theorem js_ownLc {mm : Bool} (hc : X.calm = true) (hN : X.N.Nodup) (hy : X.N[i]? = some y) (hyl : X.env.scope.names.lookup y = some .local)
    (hsw : swapsWith (.ListComp elt [⟨tg, iter, ifs, 0⟩] scope cpos) (some (.Name y py)) spos.line X.env = pure true) (hi : JI mm X xs W tg iter mi) (ok : BlkOk X.N X.env.scope scope own) (hu : ∀ i ∈ us, i ∈ own.map (·.2))
    (hg : ∀ (s : Shared) (H : Hp) (C : Addr) (cl : List (Str × Addr)) (fp : List Addr), PG (X.blk s H scope (compEnvC scope cl C X.env) fp) tg (TauG mm X.K us bb)) (ht : ∀ (s : Shared) (H : Hp) (C : Addr) (cl : List (Str × Addr)) (fp : List Addr), PTs (X.blk s H scope (compEnvC scope cl C X.env) fp) ifs (TauB X.K X.mg xs W0 mt))
    (he : ∀ (s : Shared) (H : Hp) (C : Addr) (cl : List (Str × Addr)) (fp : List Addr), JD (X.blk s H scope (compEnvC scope cl C X.env) fp) xs W0 elt me) (hs : ∀ x, foldedSetIterable iter X.env x = pure x) :
    JS X xs W nw (.Assign [.Name y py] (.ListComp elt [⟨tg, iter, ifs, 0⟩] scope cpos) spos) (thenS (compV mi (own.map (·.2)) bb mt me) (ownK i)) :=
  ps_of (ps_setLc (te := TauD X.K X.mg xs W0 me) hc hN hy hyl hsw hi ok hg ht he hs) fun Dn σ H h => tau_lc hu (tau_then (Q := fun x H1 => gName i x σ H1 Dn.nx) (src := .new) h fun en ρ H0 d v H0' H' rr x1 z _ p => by
    unfold ownK at p
    split at p
    · exact p.elim
    · rename_i hf
      exact p _ _ _ (own_new rr x1 z hf) x1.s0)
end
/-! ### other targets -/
def tgK (bb : D → Rho → Option Rho) : Rho → D → Option Out := fun ρ d => match bb d ρ with
  | some ρ' => some (.next ρ')
  | none => none
theorem js_tg {mm : Bool} {tg : Expr} {us : List Nat} {bb : D → Rho → Option Rho} (he : JD X xs W a ma) (hg : PG X tg (TauG mm X.K us bb)) (hs : swapsWithSole [tg] a pos.line X.env = pure false) (hw : swappedStores [tg] a X.env = pure none)
    (h1 : (assignEach [tg] X.env).map (·.2) = [assign tg X.env]) : JS X xs W nw (.Assign [tg] a pos) (thenS ma (tgK bb)) :=
  ps_of (ps_asg he hg hs hw h1) fun Dn σ H h => tauD_then h fun en ρ H0 d v H0' H' rr x1 z _ p => by
    unfold tgK at p
    split at p
    · rename_i ρ' e
      exact ⟨en, ρ, H0', d, ρ', rr.mono x1, Dm.of z, e, fun σ' r' _ => p _ _ _ r' x1.s0⟩
    · exact p.elim
/-- name op= e -/
def augK (f : D → D → Option D) (i : Nat) : Rho → D → Option Out := fun ρ d => match ρ[i]? with
  | some (some (_, d0)) => (match f d0 d with
    | some z => if flatRoot z = true then some (.next (ρ.set i (some (.dat, z)))) else none
    | none => none)
  | _ => none
theorem js_aug {i : Nat} {x : Str} {op : Operator} {r : R2} {f : D → D → Option D} {pos' : Pos} (hN : X.N.Nodup) (hi : X.N[i]? = some x) (hx : Loc X.env.scope x) (he : JE X xs W a sa ma) (ho : OpR X (inplaceOp op) r) (hf : Op2Ok true X.K r f) (hfn : X.fn x = true ∨ X.env.scope.names.lookup x = some .local) :
    JS X xs W nw (.AugAssign (.Name x pos') op a pos) (seqS (fun ρ => match ρ[i]? with | some (some _) => some (.next ρ) | _ => none) (thenS ma (augK f i))) := by
  refine ps_of (ps_aug hN hi hx he ho hfn) fun Dn σ H h => ?_
  obtain ⟨en, ρ, H0, rr, p⟩ := h
  unfold seqS at p
  dsimp only at p
  cases e : ρ[i]? with
  | none => rw [e] at p; exact p.elim
  | some s0 =>
    rw [e] at p
    cases s0 with
    | none => exact p.elim
    | some fd =>
      obtain ⟨fl, d0⟩ := fd
      dsimp only at p
      obtain ⟨v0, h1, h2⟩ := rr.slot i fl d0 e
      have hb : RB X.K H0 H v0 d0 := by
        cases fl with
        | own => obtain ⟨q, e1, m, _⟩ := h2; exact .inr ⟨q, e1, m⟩
        | io => obtain ⟨q, e1, m, _⟩ := h2; exact .inr ⟨q, e1, m⟩
        | bor =>
          rcases h2 with h2 | ⟨q, e1, m, _⟩
          · exact .inl h2
          · exact .inr ⟨q, e1, m⟩
        | dat => exact .inl h2
      refine ⟨v0, h1, ⟨en, ρ, H0, rr, ?_⟩⟩
      unfold thenS at p
      cases e1 : ma ρ with
      | none => rw [e1] at p; exact p.elim
      | some r1 =>
        rw [e1] at p
        cases r1 with
        | exc c q => exact fun cls dd A B x z => p σ rr.hl cls dd A B (rr.ext.trans x) z
        | ok d =>
          intro v A B x1 z
          dsimp only at p
          unfold augK at p
          rw [e] at p
          dsimp only at p
          cases ef : f d0 d with
          | none => rw [ef] at p; exact p.elim
          | some y =>
            rw [ef] at p
            dsimp only at p
            split at p
            · rename_i hfl
              refine hf A B v0 v d0 d y _ x1.sub (hb.mono x1) z.rb ef fun v3 A3 B3 x3 z3 => ?_
              rcases z3 with ⟨z3, _⟩ | ⟨q, _, mo, _⟩
              · exact p _ _ _ (((rr.mono x1).mono x3).set_dat z3) (x1.s0.trans x3.s0)
              · cases mo <;> simp [flatRoot] at hfl
            · exact p.elim
/-! ### expressions, returns, tests -/
theorem js_expr (he : JE X xs W a sa ma) (hs : swapsWith a none pos.line X.env = pure false) : JS X xs W nw (.Expr a pos) (thenS ma (fun ρ _ => some (.next ρ))) :=
  ps_of (ps_expr he hs) fun Dn σ H h => tau_then h fun en ρ H0 d v H0' H' rr x1 z _ p => p _ _ _ (rr.mono x1) x1.s0
theorem post_ret {en : Ent} {H0 : Hp} {Dn : Ends} {d : D} (hio : nw.io = none) (p : PostS X.K X.mg xs W nw en H0 Dn (some (.ret d))) : ∀ v H0' H', Ext en.H0 en.H H0' H' → RS nw.nw X.K en.H H0' H' v d → Dn.rt v H' := by
  unfold PostS at p
  rw [hio] at p
  exact p
/-- a slot's value handed back: no list or dict that stood before the call -/
def retV (ρ : Rho) (i : Nat) (nw : Bool) : Option Out := match ρ[i]? with
  | some (some (.own, d)) => some (.ret d)
  | some (some (.dat, d)) => if nw = false ∨ flatRoot d = true then some (.ret d) else none
  | some (some (.bor, d)) => if flatRoot d = true then some (.ret d) else none
  | _ => none
theorem js_retV {i : Nat} {x : Str} {p' : Pos} (hio : nw.io = none) (hN : X.N[i]? = some x) (hv : Vis X.env.scope x) (hd : (x == ("__debug__" : Str)) = false) (hcd : (x == ("__classdict__" : Str)) = false) : JS X xs W nw (.Return (some (.Name x p')) pos) (fun ρ => retV ρ i nw.nw) := by
  refine ps_of (ps_ret (pe_var hN hv hd hcd)) fun Dn σ H h => ?_
  obtain ⟨en, ρ, H0, rr, p⟩ := h
  dsimp only at p
  unfold retV at p
  cases e : ρ[i]? with
  | none => rw [e] at p; exact p.elim
  | some s0 =>
    rw [e] at p
    cases s0 with
    | none => exact p.elim
    | some fd =>
      obtain ⟨fl, d⟩ := fd
      obtain ⟨v, h1, h2⟩ := rr.slot i fl d e
      refine ⟨v, h1, ?_⟩
      cases fl with
      | own =>
        obtain ⟨q, e1, mo, n, _⟩ := h2
        exact post_ret hio p _ _ _ rr.ext (.inr ⟨q, e1, mo, n⟩)
      | io => exact p.elim
      | dat =>
        dsimp only at p
        split at p
        · rename_i hc
          refine post_ret hio p _ _ _ rr.ext (.inl ⟨h2, fun z => ?_⟩)
          rcases hc with hc | hc
          · rw [hc] at z; cases z
          · exact hc
        · exact p.elim
      | bor =>
        dsimp only at p
        split at p
        · rename_i hc
          rcases h2 with h2 | ⟨q, e1, mo, _⟩
          · exact post_ret hio p _ _ _ rr.ext (.inl ⟨h2, fun _ => hc⟩)
          · cases mo <;> simp [flatRoot] at hc
        · exact p.elim
theorem js_ret (hio : nw.io = none) (he : JE X xs W a (Src.nw nw.nw) ma) : JS X xs W nw (.Return (some a) pos) (thenS ma (fun _ d => some (.ret d))) :=
  ps_of (ps_ret he) fun Dn σ H h => tau_then h fun en ρ H0 d v H0' H' rr x1 z _ p => by
    unfold PostS at p
    rw [hio] at p
    refine p _ _ _ (rr.ext.trans x1) ?_
    have z' : RS nw.nw X.K H H0' H' v d := by
      cases hn : nw.nw with
      | true => rw [hn] at z; exact z
      | false => rw [hn] at z; exact z
    rcases z' with z' | ⟨q, e, mo, n⟩
    · exact .inl z'
    · exact .inr ⟨q, e, mo, rr.e1.free n⟩
theorem js_retN (hio : nw.io = none) : JS X xs W nw (.Return none pos) (fun _ => some (.ret .none)) := by
  refine ps_of ps_retN fun Dn σ H h => ?_
  obtain ⟨en, ρ, H0, rr, p⟩ := h
  unfold PostS at p
  rw [hio] at p
  exact p _ _ _ rr.ext (.inl ⟨.non, fun _ => rfl⟩)
/-- with the lent thing -/
def retIO (k : Nat) : Rho → D → Option Out := fun ρ d => match ρ[k]? with
  | some (some (.io, x)) => some (.ret (.tuple [d, x]))
  | _ => none
theorem post_io {k : Nat} {en : Ent} {ρ : Rho} {H0 H H0' H' : Hp} {σ : L2.St} {Dn : Ends} {d : D} {v : V} (hio : nw.io = some k) (rr : R X.K en ρ H0 σ H) (x1 : Ext H0 H H0' H') (z : Dd X.K H0' v d) (p : PostS X.K X.mg xs W nw en H0 Dn (retIO k ρ d)) : Dn.rt v H' := by
  unfold retIO at p
  cases e : ρ[k]? with
  | none => rw [e] at p; exact p.elim
  | some s0 =>
    rw [e] at p
    cases s0 with
    | none => exact p.elim
    | some fd =>
      obtain ⟨fl, x⟩ := fd
      cases fl with
      | io =>
        dsimp only at p
        unfold PostS at p
        rw [hio] at p
        obtain ⟨a, r, y, h1, h2, p⟩ := p
        cases h2
        obtain ⟨w, k1, b, k2, k3, k4, k5⟩ := rr.slot k .io x e
        rw [h1] at k5
        cases k5
        exact p _ _ _ (rr.ext.trans x1) z (k3.mono x1)
      | _ => exact p.elim
theorem js_retIO {k : Nat} (hio : nw.io = some k) (he : JD X xs W a ma) : JS X xs W nw (.Return (some a) pos) (thenS ma (retIO k)) :=
  ps_of (ps_ret he) fun Dn σ H h => tauD_then h fun en ρ H0 d v H0' H' rr x1 z _ p => post_io hio rr x1 z p
theorem js_retNIO {k : Nat} (hio : nw.io = some k) : JS X xs W nw (.Return none pos) (fun ρ => retIO k ρ .none) := by
  refine ps_of ps_retN fun Dn σ H h => ?_
  obtain ⟨en, ρ, H0, rr, p⟩ := h
  exact post_io hio rr (Ext.refl rr.sub) .non p
theorem js_pass : JS X xs W nw (.Pass pos) (fun ρ => some (.next ρ)) := by
  refine ps_of ps_pass fun Dn σ H h => ?_
  obtain ⟨en, ρ, H0, rr, p⟩ := h
  exact p _ _ _ rr (Same.refl _)
def ifS (mc : Rho → Option ResB) (m n : Rho → Option Out) : Rho → Option Out := fun ρ => match mc ρ with
  | some (.ok true) => m ρ
  | some (.ok false) => n ρ
  | some (.exc c p) => some (.exc c p)
  | none => none
theorem js_if {ys zs : List Stmt} {mc : Rho → Option ResB} (hc : JT X xs W c mc) (ha : JSs X xs W nw ys m) (hb : JSs X xs W nw zs n) : JS X xs W nw (.If c ys zs pos) (ifS mc m n) := by
  refine ps_of (ps_if hc ha hb) fun Dn σ H h => ?_
  obtain ⟨en, ρ, H0, rr, p⟩ := h
  refine ⟨en, ρ, H0, rr, ?_⟩
  unfold ifS at p
  cases e1 : mc ρ with
  | none => rw [e1] at p; exact p.elim
  | some r1 =>
    rw [e1] at p
    cases r1 with
    | exc c q => exact fun cls dd A B x z => p σ rr.hl cls dd A B (rr.ext.trans x) z
    | ok k =>
      intro H0' H' x1
      cases k with
      | true => exact iteT ⟨en, ρ, H0', rr.mono x1, postS_mono x1.s0 p⟩
      | false => exact iteF ⟨en, ρ, H0', rr.mono x1, postS_mono x1.s0 p⟩
/-! ### loops -/
def forL (bb : D → Rho → Option Rho) (body : Rho → Option Out) : List D → Rho → Option Out
  | [], ρ => some (.next ρ)
  | x :: r, ρ => (match bb x ρ with
    | some ρ1 => (match body ρ1 with
      | some (.next ρ2) => forL bb body r ρ2
      | o => o)
    | none => none)
def forS (mi : Rho → Option ResL) (bb : D → Rho → Option Rho) (body : Rho → Option Out) : Rho → Option Out := fun ρ => match mi ρ with
  | some (.ok items) => forL bb body items ρ
  | some (.exc c p) => some (.exc c p)
  | none => none
theorem js_for {mm : Bool} {tg iter : Expr} {body : List Stmt} {mi : Rho → Option ResL} {us : List Nat} {bb : D → Rho → Option Rho} (hp : PassesOwn (model X.prog X.w) X.A X.env X.xe) (hc : X.calm = true) (hi : JI mm X xs W tg iter mi) (hg : PG X tg (TauG mm X.K us bb)) (hb : JSs X xs W nw body m)
    (hs : ∀ x, foldedSetIterable iter X.env x = pure x) : JS X xs W nw (.For tg iter body [] pos) (forS mi bb m) := by
  refine ps_of (ps_for hp hc hi hg hb hs) fun Dn σ H h => ?_
  obtain ⟨en, ρ, H0, rr, p⟩ := h
  refine ⟨en, ρ, H0, rr, ?_⟩
  unfold forS at p
  cases e1 : mi ρ with
  | none => rw [e1] at p; exact p.elim
  | some r1 =>
    rw [e1] at p
    cases r1 with
    | exc c q => exact fun cls dd A B x z => p σ rr.hl cls dd A B (rr.ext.trans x) z
    | ok items =>
      intro J H0' H1 x1 io hz
      dsimp only at p
      refine ⟨fun i k σ' HH => k = items.length - i ∧ i ≤ items.length ∧ ∃ ρ' H0i, R X.K en ρ' H0i σ' HH ∧ Same H0' H0i ∧ PostS X.K X.mg xs W nw en H0i Dn (forL bb m (items.drop i) ρ'),
        ⟨items.length, by simp, Nat.zero_le _, ρ, H0', rr.mono x1, Same.refl _, postS_mono x1.s0 (by simpa using p)⟩, ?_⟩
      rintro i k σ' HH ⟨rfl, hi, ρ', H0i, ri, si, pi⟩
      by_cases hlt : i < items.length
      · right
        have hdrop : items.drop i = items[i] :: items.drop (i + 1) := List.drop_eq_getElem_cons hlt
        rw [hdrop] at pi
        unfold forL at pi
        obtain ⟨go, yl⟩ := io.go i _ H0i HH (List.getElem?_eq_getElem hlt) ri.e1 si ri.sub
        refine ⟨go, fun σ2 H2 => ∃ ρ' H0i, R X.K en ρ' H0i σ2 H2 ∧ Same H0' H0i ∧ PostS X.K X.mg xs W nw en H0i Dn (forL bb m (items.drop (i + 1)) ρ'), fun σ2 H2 hN => ⟨items.length - (i + 1), by omega, rfl, hlt, hN⟩, fun x HH' hy => ?_⟩
        obtain ⟨H0y, x3, hd⟩ := yl x HH' hy
        cases eb : bb items[i] ρ' with
        | none => rw [eb] at pi; exact pi.elim
        | some ρ1 =>
          rw [eb] at pi
          dsimp only at pi
          refine ⟨en, ρ', H0y, items[i], ρ1, ri.mono x3, hd, eb, fun σ2 r2 _ => ⟨en, ρ1, H0y, r2, ?_⟩⟩
          cases em : m ρ1 with
          | none => rw [em] at pi; exact pi.elim
          | some o =>
            rw [em] at pi
            cases o with
            | next ρ2 =>
              intro σ3 H03 H3 r3 z3
              exact ⟨ρ2, H03, r3, si.trans (x3.s0.trans z3), postS_mono (x3.s0.trans z3) pi⟩
            | ret d => exact pi
            | exc c q => exact pi
      · left
        have hie : i = items.length := by omega
        subst hie
        refine ⟨io.stop _ H0i HH rfl ri.e1 si ri.sub, ?_⟩
        rw [List.drop_length] at pi
        exact pi _ _ _ ri (Same.refl _)
/-- at most so many turns -/
def whlL (mc : Rho → Option ResB) (body : Rho → Option Out) : Nat → Rho → Option Out
  | 0, _ => none
  | n + 1, ρ => (match mc ρ with
    | some (.ok true) => (match body ρ with
      | some (.next ρ2) => whlL mc body n ρ2
      | o => o)
    | some (.ok false) => some (.next ρ)
    | some (.exc c p) => some (.exc c p)
    | none => none)
theorem js_while {body : List Stmt} {mc : Rho → Option ResB} {fuel : Nat} (hp : PassesOwn (model X.prog X.w) X.A X.env X.xe) (hc : JT X xs W c mc) (hb : JSs X xs W nw body m) : JS X xs W nw (.While c body [] pos) (whlL mc m fuel) := by
  refine ps_of (ps_while hp hc hb) fun Dn σ H h => ?_
  obtain ⟨en, ρ, H0, rr, p⟩ := h
  refine ⟨fun k σ' HH => ∃ ρ' H0i, R X.K en ρ' H0i σ' HH ∧ PostS X.K X.mg xs W nw en H0i Dn (whlL mc m k ρ'), ⟨fuel, ρ, H0, rr, p⟩, ?_⟩
  rintro k σ' HH ⟨ρ', H0i, ri, pi⟩
  refine ⟨en, ρ', H0i, ri, ?_⟩
  cases k with
  | zero => exact pi.elim
  | succ k =>
    unfold whlL at pi
    cases e1 : mc ρ' with
    | none => rw [e1] at pi; exact pi.elim
    | some r1 =>
      rw [e1] at pi
      cases r1 with
      | exc c q => exact fun cls dd A B x z => pi σ' ri.hl cls dd A B (ri.ext.trans x) z
      | ok b =>
        intro A B x1
        cases b with
        | false => exact iteF (pi _ _ _ (ri.mono x1) x1.s0)
        | true =>
          dsimp only at pi
          refine iteT ⟨fun σ2 H2 => ∃ ρ' H0i, R X.K en ρ' H0i σ2 H2 ∧ PostS X.K X.mg xs W nw en H0i Dn (whlL mc m k ρ'), fun σ2 H2 hN => ⟨k, Nat.lt_succ_self _, hN⟩, ⟨en, ρ', A, ri.mono x1, ?_⟩⟩
          cases em : m ρ' with
          | none => rw [em] at pi; exact pi.elim
          | some o =>
            rw [em] at pi
            cases o with
            | next ρ2 => exact fun σ3 H03 H3 r3 z3 => ⟨ρ2, H03, r3, postS_mono (x1.s0.trans z3) pi⟩
            | ret d => exact pi
            | exc c q => exact pi
/-! ### lists of a slot: append, extend, pop, x[i] = e, x[i] op= e -/
/-- a slot's list that may be changed -/
def mutL (ρ : Rho) (i : Nat) : Option (Fl × List D) := match ρ[i]? with
  | some (some (.own, .list ds)) => some (.own, ds)
  | some (some (.io, .list ds)) => some (.io, ds)
  | _ => none
theorem mutL_some {ρ : Rho} {i : Nat} {fl : Fl} {ds : List D} (h : mutL ρ i = some (fl, ds)) : fl.mut = true ∧ ρ[i]? = some (some (fl, .list ds)) := by
  unfold mutL at h
  split at h
  · rename_i e; cases h; exact ⟨rfl, e⟩
  · rename_i e; cases h; exact ⟨rfl, e⟩
  · cases h
def appK (i : Nat) : Rho → D → Option Out := fun ρ d => match mutL ρ i with
  | some (fl, ds) => if ds.length < 16777216 then some (.next (ρ.set i (some (fl, .list (ds ++ [d]))))) else none
  | none => none
/-- an own list's place -/
theorem own_list {K : PySem.W.Frag} {en : Ent} {ρ : Rho} {H0 H : Hp} {σ : L2.St} {i : Nat} {fl : Fl} {ds : List D} (rr : R K en ρ H0 σ H) (hf : fl.mut = true) (e : ρ[i]? = some (some (fl, .list ds))) : ∃ q ys, σ[i]? = some (some (.ref q)) ∧ H q = some (.lst ys) ∧ H0 q = none ∧ Dds K H0 ys ds := by
  obtain ⟨v, h1, h2⟩ := rr.slot i fl _ e
  obtain ⟨q, e1, mo, _⟩ := h2.mut hf
  subst e1
  cases mo with
  | lst k1 k2 k3 => exact ⟨q, _, h1, k2, k1, k3⟩
theorem js_app {i : Nat} {x : Str} {p1 apos : Pos} (hN : X.N[i]? = some x) (hv : Vis X.env.scope x) (hd : (x == ("__debug__" : Str)) = false) (hcd : (x == ("__classdict__" : Str)) = false) (he : JD X xs W a ma)
    (hbase : attributeBase (.Name x p1) "append" X.env (eval (.Name x p1) X.env) = eval (.Name x p1) X.env) (hs1 : starEach [a] X.env = (false, eval a X.env) :: starEach [] X.env)
    (hline : (apos.endLine == pos.line) = true) {spos : Pos} :
    JS X xs W nw (.Expr (.Call (.Attribute (.Name x p1) "append" apos) [a] [] pos) spos) (seqS (fun ρ => match mutL ρ i with | some _ => some (.next ρ) | none => none) (thenS ma (appK i))) := by
  have hfew : ((backTo pos (starEach [a] X.env)).all (fun x => !x.1) && (backToKw pos (keywordEach [] X.env)).all (fun x => x.1.isSome)
      && decide ([a].length + ([] : List Keyword).length + (if ([] : List Keyword).isEmpty then 0 else 1) < 30)) = true := by
    rw [hs1]; rfl
  refine ps_of (ps_expr (pe_bm PySem.F.plainAttrs_list PySem.F.slot_list_append PySem.F.type_list_append mt_append (pe_var hN hv hd hcd) (pa_cons he pa_nil hs1) hbase hfew hline hs1 rfl) rfl) fun Dn σ H h => ?_
  obtain ⟨en, ρ, H0, rr, p⟩ := h
  unfold seqS at p
  dsimp only at p
  have hk : ∃ fl ds, mutL ρ i = some (fl, ds) := by
    cases e : mutL ρ i with
    | none => rw [e] at p; exact p.elim
    | some fd => exact ⟨fd.1, fd.2, rfl⟩
  obtain ⟨fl, ds, em⟩ := hk
  rw [em] at p
  dsimp only at p
  obtain ⟨hf, e⟩ := mutL_some em
  obtain ⟨q, ys, h1, h2, h3, h4⟩ := own_list rr hf e
  refine ⟨.ref q, h1, .inl ⟨rfl, _, .inl (.inl h2)⟩, ⟨en, ρ, H0, rr, ?_⟩⟩
  unfold thenS at p
  cases e1 : ma ρ with
  | none => rw [e1] at p; exact p.elim
  | some r1 =>
    rw [e1] at p
    cases r1 with
    | exc c q => exact fun cls dd A B x z => p σ rr.hl cls dd A B (rr.ext.trans x) z
    | ok d =>
      intro v A B x1 z
      dsimp only at p
      unfold appK at p
      rw [em] at p
      dsimp only at p
      split at p
      · rename_i hz
        refine ⟨q, ys, v, rfl, rfl, x1.s _ _ h2, by rw [h4.length, sizeLine_eq]; exact hz, ?_⟩
        have r1 := rr.mono x1
        have nq : A q = none := by rw [x1.new _ _ h2]; exact h3
        exact p _ _ _ (r1.write hf e h1 (.lst nq (x1.s _ _ h2) (h4.mono x1.s0)) (.lst nq upd_same ((h4.mono x1.s0).append (.cons z .nil)))) x1.s0
      · exact p.elim
/-! x[i] = e, x[i] op= e -/
def putS (i : Nat) (mi me : Rho → Option Res) : Rho → Option Out := fun ρ => match mutL ρ i with
  | some (fl, ds) => (match me ρ with
    | some (.ok d) => (match mi ρ with
      | some (.ok (.int k)) => (match ixN ds.length k with
        | some j => some (.next (ρ.set i (some (fl, .list (ds.set j d)))))
        | none => none)
      | some (.exc c p) => some (.exc c p)
      | _ => none)
    | some (.exc c p) => some (.exc c p)
    | none => none)
  | none => none
theorem js_put {i : Nat} {x : Str} {p1 tpos : Pos} {ix : Expr} {si : Src} {mi me : Rho → Option Res} (hN : X.N[i]? = some x) (hv : Vis X.env.scope x) (hd : (x == ("__debug__" : Str)) = false) (hcd : (x == ("__classdict__" : Str)) = false) (he : JD X xs W a me) (hi : JE X xs W ix si mi)
    (ha : ∀ v, assign (.Subscript (.Name x p1) ix tpos) X.env v = (do
      let ov ← holding [v] (eval (.Name x p1) X.env)
      let iv ← holding [v, ov] (eval ix X.env)
      standAt tpos
      holding [v, ov, iv] (setItem ov iv v)
      release [v, ov, iv] [])) (hs : swapsWithSole [.Subscript (.Name x p1) ix tpos] a pos.line X.env = pure false) (hw : swappedStores [.Subscript (.Name x p1) ix tpos] a X.env = pure none)
    (h1 : (assignEach [.Subscript (.Name x p1) ix tpos] X.env).map (·.2) = [assign (.Subscript (.Name x p1) ix tpos) X.env]) :
    JS X xs W nw (.Assign [.Subscript (.Name x p1) ix tpos] a pos) (putS i mi me) := by
  refine ps_of (ps_asg he (pg_sub (pe_var hN hv hd hcd) hi set_list ha) hs hw h1) fun Dn σ H h => ?_
  obtain ⟨en, ρ, H0, rr, p⟩ := h
  refine ⟨en, ρ, H0, rr, ?_⟩
  unfold putS at p
  split at p
  · rename_i fl ds em
    obtain ⟨hf', e⟩ := mutL_some em
    obtain ⟨q, ys, s1, h2, h3, h4⟩ := own_list rr hf' e
    cases e1 : me ρ with
    | none => rw [e1] at p; exact p.elim
    | some r1 =>
      rw [e1] at p
      cases r1 with
      | exc c q => exact fun cls dd A B x z => p σ rr.hl cls dd A B (rr.ext.trans x) z
      | ok d =>
        intro v A B x1 z1
        dsimp only at p
        refine ⟨.ref q, s1, en, ρ, A, rr.mono x1, ?_⟩
        cases e2 : mi ρ with
        | none => rw [e2] at p; exact p.elim
        | some r2 =>
          rw [e2] at p
          cases r2 with
          | exc c q => exact fun cls dd A2 B2 x2 z2 => p σ rr.hl cls dd A2 B2 (rr.ext.trans (x1.trans x2)) z2
          | ok dk =>
            intro vk A2 B2 x2 z2
            have x12 := x1.trans x2
            cases dk with
            | int k =>
              dsimp only at p
              cases z2.rb.int
              split at p
              · rename_i j ej
                refine ⟨q, ys, k, j, rfl, rfl, x12.s _ _ h2, by rw [h4.length]; exact ej, ?_⟩
                have nq : A2 q = none := by rw [x12.new _ _ h2]; exact h3
                exact p _ _ _ ((rr.mono x12).write hf' e s1 (.lst nq (x12.s _ _ h2) (h4.mono x12.s0)) (.lst nq upd_same (Dds.set (z1.mono x2.s0) j (h4.mono x12.s0)))) x12.s0
              · exact p.elim
            | _ => exact p.elim
  · exact p.elim
theorem get_list : PGet X (rIxL X.K) := by
  intro pins s σ H o i ov iv Q I ro ri h
  obtain ⟨p, ys, k, z, rfl, rfl, hq, he, q⟩ := h
  cases ro
  obtain ⟨t, rfl⟩ := ri
  obtain ⟨its, r, pl, hz⟩ := I.list hq
  obtain ⟨j, h1, h2, h3, h4, h5⟩ := atI_get he
  obtain ⟨w, ew, rw'⟩ := r.get h2
  have hl := r.length
  have hn := line63
  have fin : EP X pins σ Q w s := ⟨z, H, I, rw', q⟩
  by_cases h0 : 0 ≤ k
  · have hj : k.toNat = j := by
      rw [seqIndex_of h0 h5] at h1
      exact Option.some.inj h1
    exact wpAny_getItem_list pl.isList h0 (by omega) (by rw [hj]; simpa using ew) fin
  · have hj : (k + (its.toArray.size : Int)).toNat = j := by
      rw [seqIndex_neg (by omega) h4] at h1
      rw [List.size_toArray, ← hl]
      exact Option.some.inj h1
    exact wpAny_getItem_list_neg pl.isList (by omega) (by rw [List.size_toArray] <;> omega) (by omega) (by rw [hj]; simpa using ew) fin
def augPS (i : Nat) (mi me : Rho → Option Res) (f : D → D → Option D) : Rho → Option Out := fun ρ => match mutL ρ i with
  | some (fl, ds) => (match mi ρ with
    | some (.ok (.int k)) => (match atI ds k with
      | some d0 => (match me ρ with
        | some (.ok d) => (match f d0 d with
          | some z => (match ixN ds.length k with
            | some j => if flatRoot z = true then some (.next (ρ.set i (some (fl, .list (ds.set j z))))) else none
            | none => none)
          | none => none)
        | some (.exc c p) => some (.exc c p)
        | none => none)
      | none => none)
    | some (.exc c p) => some (.exc c p)
    | _ => none)
  | none => none
theorem js_augp {i : Nat} {x : Str} {p1 tpos : Pos} {ix : Expr} {si se : Src} {mi me : Rho → Option Res} {op : Operator} {r : R2} {f : D → D → Option D} (hN : X.N[i]? = some x) (hv : Vis X.env.scope x) (hd : (x == ("__debug__" : Str)) = false) (hcd : (x == ("__classdict__" : Str)) = false) (he : JE X xs W a se me) (hi : JE X xs W ix si mi)
    (ho : OpR X (inplaceOp op) r) (hf : Op2Ok true X.K r f) (ha : ∀ ov iv new, augStore ix ov iv new = (do holding [new, ov, iv] (setItem ov iv new); release [new, ov, iv] []; pure .next)) :
    JS X xs W nw (.AugAssign (.Subscript (.Name x p1) ix tpos) op a pos) (augPS i mi me f) := by
  refine ps_of (ps_augS (pe_var hN hv hd hcd) hi get_list he ho set_list ha) fun Dn σ H h => ?_
  obtain ⟨en, ρ, H0, rr, p⟩ := h
  unfold augPS at p
  split at p
  · rename_i fl ds em
    obtain ⟨hf', e⟩ := mutL_some em
    obtain ⟨q, ys, s1, h2, h3, h4⟩ := own_list rr hf' e
    refine ⟨.ref q, s1, en, ρ, H0, rr, ?_⟩
    cases e1 : mi ρ with
    | none => rw [e1] at p; exact p.elim
    | some r1 =>
      rw [e1] at p
      cases r1 with
      | exc c q => exact fun cls dd A B x z => p σ rr.hl cls dd A B (rr.ext.trans x) z
      | ok dk =>
        intro vk A B x1 z1
        cases dk with
        | int k =>
          dsimp only at p
          cases z1.rb.int
          cases ea : atI ds k with
          | none => rw [ea] at p; exact p.elim
          | some d0 =>
            rw [ea] at p
            dsimp only at p
            obtain ⟨v0, ev, hv0⟩ := atI_dd h4 ea
            refine ⟨q, ys, k, v0, rfl, rfl, SqL.of (x1.s _ _ h2), ev, en, ρ, A, rr.mono x1, ?_⟩
            cases e2 : me ρ with
            | none => rw [e2] at p; exact p.elim
            | some r2 =>
              rw [e2] at p
              cases r2 with
              | exc c q => exact fun cls dd A2 B2 x2 z2 => p σ rr.hl cls dd A2 B2 (rr.ext.trans (x1.trans x2)) z2
              | ok d =>
                intro v2 A2 B2 x2 z2
                have x12 := x1.trans x2
                dsimp only at p
                cases ef : f d0 d with
                | none => rw [ef] at p; exact p.elim
                | some y =>
                  rw [ef] at p
                  dsimp only at p
                  split at p
                  · rename_i j ej
                    split at p
                    · rename_i hfl
                      refine hf A2 B2 v0 v2 d0 d y _ x2.sub (.inl (hv0.mono x12.s0)) z2.rb ef fun v3 A3 B3 x3 z3 => ?_
                      have x13 := x12.trans x3
                      rcases z3 with ⟨z3, _⟩ | ⟨q', _, mo, _⟩
                      · refine ⟨q, ys, k, j, rfl, rfl, x13.s _ _ h2, by rw [h4.length]; exact ej, ?_⟩
                        have nq : A3 q = none := by rw [x13.new _ _ h2]; exact h3
                        exact p _ _ _ ((rr.mono x13).write hf' e s1 (.lst nq (x13.s _ _ h2) (h4.mono x13.s0)) (.lst nq upd_same (Dds.set z3 j (h4.mono x13.s0)))) x13.s0
                      · cases mo <;> simp [flatRoot] at hfl
                    · exact p.elim
                  · exact p.elim
        | _ => exact p.elim
  · exact p.elim
end
end DD

namespace DD
open PySem PySem.Spec PyProof.Rows L2

/-! ### sources: a list (true) or a tuple (false) -/
def SIt (k : Bool) (h : Heap) (it a : Addr) (i : Nat) : Prop := match k with
  | true => h.IsListIter it a i
  | false => h.IsTupleIter it a i
def SIs (k : Bool) (h : Heap) (a : Addr) (its : Array Value) : Prop := match k with
  | true => h.IsList a its
  | false => h.IsTuple a its
def SqS (k : Bool) (K : PySem.W.Frag) (H : Hp) (a : Addr) (xs : List V) : Prop := match k with
  | true => SqL K H a xs
  | false => SqT K H a xs
def itO (k : Bool) (a : Addr) : Obj := match k with
  | true => { cls := .type "list_iterator", data := .fields #[.ref a, .int 0 0] }
  | false => { cls := .type "tuple_iterator", data := .fields #[.ref a, .int 0 0] }
theorem SIt.obj {k : Bool} {h : Heap} {it a : Addr} {i : Nat} (s : SIt k h it a i) : ∃ o, h.get? it = some o ∧ ∀ v, o.data ≠ .cell v := by
  cases k with
  | true => obtain ⟨o, e, _, d⟩ := s; exact ⟨o, e, fun v q => by rw [d] at q; cases q⟩
  | false => obtain ⟨o, e, _, d⟩ := s; exact ⟨o, e, fun v q => by rw [d] at q; cases q⟩
theorem SIt.keep {k : Bool} {h h' : Heap} {it a : Addr} {i : Nat} (s : SIt k h it a i) (e : ∀ o, h.get? it = some o → h'.get? it = some o) : SIt k h' it a i := by
  cases k with
  | true => exact Heap.IsListIter.at s e
  | false => exact Heap.IsTupleIter.at s e
theorem draws_src {prog : Program} {w : World} {A : Around} (k : Bool) (hh : A.handled = none) (it a : Addr) (hne : a ≠ it) (items : Array Value) :
    Draws prog w A it [it, a] items.size (fun i v => items[i]? = some v) (fun i h => SIt k h it a i ∧ SIs k h a items) := by
  cases k with
  | true => exact Draws.list hh it a hne items
  | false => exact Draws.tuple hh it a hne items
theorem begins_src (k : Bool) (a : Addr) (items : Array Value) : Begins (.ref a) (itO k a) (fun h => SIs k h a items) := by
  cases k with
  | true => exact begins_list a items
  | false => exact begins_tuple a items
theorem itO_it {k : Bool} {h : Heap} {it a : Addr} (e : h.get? it = some (itO k a)) : SIt k h it a 0 := by
  cases k with
  | true => exact ⟨_, e, rfl, rfl⟩
  | false => exact ⟨_, e, rfl, rfl⟩
section
variable {X : Cx} {pins : List (Addr × Obj)} {σ : L2.St} {H : Hp} {s : Shared} {a : Addr} {xs ys : List V}
theorem src_of {k : Bool} (I : Inv X pins σ H s) (h : SqS k X.K H a xs) : ∃ its : List Value, Vals xs its ∧ SIs k s.heap a its.toArray ∧ xs.length ≤ sizeLine ∧ a < s.heap.objs.size := by
  cases k with
  | true =>
    obtain ⟨its, r, p, z⟩ := I.list h
    exact ⟨its, r, p.isList, z, p.lt⟩
  | false =>
    obtain ⟨its, r, p, z⟩ := I.tuple h
    obtain ⟨o, ho, _⟩ := id p
    exact ⟨its, r, p, z, Heap.lt_size ho⟩
theorem src_inj {k : Bool} (I : Inv X pins σ H s) (h : SqS k X.K H a xs) (h' : SqS k X.K H a ys) : xs = ys := by
  cases k with
  | true => exact I.list_inj h h'
  | false => exact I.tuple_inj h h'
end
/-! ### a walk that gives out new tuples -/
def ItR (rd : Hp → List (List V) → Prop) : It :=
  ⟨fun i H => ∃ rows row, rd H rows ∧ rows[i]? = some row, fun i H v H' => ∃ T row, v = .ref T ∧ H T = none ∧ H' = upd H T (.tup row) ∧ ∀ rows, rd H rows → rows[i]? = some row, fun i H => ∃ rows, rd H rows ∧ rows.length = i⟩
section
variable {X : Cx} {pins : List (Addr × Obj)} {σ : L2.St} {H : Hp} {s : Shared} {E : Value → Shared → Prop} {fpA wr : List Addr} {n i kk : Nat} {Pt : Nat → Array Value → Prop} {St : Nat → Heap → Prop} {Mid : Nat → Addr → Heap → Prop} {it : Addr} {elts : List Expr} {tpos : Pos}
theorem wt_item (I : Inv X pins σ H s) (W : WalksT X.prog X.w X.A it fpA wr n Pt St Mid) (hi : i < n) (st : St i s.heap) (hf : ∀ b ∈ wr, FpOk X pins H b) (row : List V) (hP : ∀ vals, Pt i vals → ∃ its : List Value, vals = its.toArray ∧ Vals row its) (hx : row.length ≤ sizeLine) :
    wpAny (model X.prog X.w) X.A (pyNext (.ref it)) (fun r s1 => ∃ u, r = some u ∧ wpAny (model X.prog X.w) X.A (letOwnedTupleGo (.Tuple elts kk tpos) (.ref it) u) (fun _ s2 =>
      ∃ T, u = .ref T ∧ H T = none ∧ s.heap.objs.size ≤ T ∧ Inv X pins σ (upd H T (.tup row)) s2 ∧ St (i + 1) s2.heap) E s1) E s := by
  refine W.item i s _ _ hi st fun T vals h' tk hPt hnew hT hm hk => ⟨.ref T, rfl, W.go elts kk tpos i T { s with heap := h', toks := tk } _ _ hm fun h2 st2 hk2 => ?_⟩
  obtain ⟨its, rfl, rv⟩ := hP vals hPt
  have hT2 : h2.IsTuple T its.toArray := hT.at fun o e => hk2 T o (W.apart i T h' hm) e
  refine ⟨T, rfl, I.hok.fresh hnew, hnew, ?_, st2⟩
  exact I.turnedNew (t' := tk) (ch := wr) (fun b o hb e => hk2 b o hb (hk b o hb e)) hf hnew ⟨hx, its, rv, hT2⟩
theorem wt_done (I : Inv X pins σ H s) (W : WalksT X.prog X.w X.A it fpA wr n Pt St Mid) (st : St n s.heap) (hf : ∀ b ∈ wr, FpOk X pins H b) :
    wpAny (model X.prog X.w) X.A (pyNext (.ref it)) (fun r s1 => r = none ∧ Inv X pins σ H s1) E s :=
  W.done s _ _ st fun h' tk hk => ⟨rfl, I.turnedL (t' := tk) (ch := wr) hk hf⟩
end

/-! ### enumerate -/
def rowsE : Nat → List V → List (List V)
  | _, [] => []
  | i, x :: xs => [.int (i : Nat), x] :: rowsE (i + 1) xs
theorem rowsE_get : ∀ (xs : List V) (k i : Nat), (rowsE k xs)[i]? = xs[i]?.map fun x => [.int ((k + i : Nat)), x]
  | [], k, i => by simp [rowsE]
  | x :: xs, k, 0 => by simp [rowsE]
  | x :: xs, k, i + 1 => by
    simp only [rowsE, List.getElem?_cons_succ]
    rw [rowsE_get xs (k + 1) i, show k + 1 + i = k + (i + 1) by omega]
theorem rowsE_len : ∀ (xs : List V) (k : Nat), (rowsE k xs).length = xs.length
  | [], k => rfl
  | x :: xs, k => by rw [rowsE, List.length_cons, rowsE_len xs, List.length_cons]
def rdE (k : Bool) (K : PySem.W.Frag) (a : Addr) : Hp → List (List V) → Prop := fun H rows => ∃ xs, SqS k K H a xs ∧ rows = rowsE 0 xs
theorem arr_get {its : List Value} {i : Nat} {v : Value} (h : its.toArray[i]? = some v) : its[i]? = some v := by simpa using h
theorem vals_at {xs : List V} {its : List Value} (rv : Vals xs its) {i : Nat} {x : V} {v : Value} (h1 : xs[i]? = some x) (h2 : its[i]? = some v) : RelV x v := by
  obtain ⟨u, hu, ru⟩ := rv.get h1
  rw [hu] at h2
  cases h2
  exact ru
theorem turn_enumS {P : Program} {w : World} {K : PySem.W.Frag} {elts : List Expr} {kk : Nat} {tpos : Pos} (k : Bool) (a e it : Addr) (hei : e ≠ it) :
    Turn P w K (.Tuple elts kk tpos) (ItR (rdE k K a)) [e, it] e (fun i h => (∃ old, IsEnum h e it (0 + ((i : Nat) : Int)) old) ∧ SIt k h it a i) where
  mem := by simp
  obj := fun i h st b hb => by
    obtain ⟨⟨old, he⟩, hs⟩ := st
    have e' : b = e ∨ b = it := by simpa using hb
    rcases e' with z | z
    · rw [z]; exact ⟨_, he, fun v q => nomatch q⟩
    · rw [z]; exact hs.obj
  keep := fun i h h' st kp => let ⟨⟨old, he⟩, hi⟩ := st; ⟨⟨old, kp e (by simp) _ he⟩, hi.keep fun o q => kp it (by simp) o q⟩
  item := by
    intro X hP hw hK hc i pins s σ H E I hf st hg
    subst hP hw hK
    obtain ⟨rows, row, ⟨xs, hq, rfl⟩, hrow⟩ := hg
    obtain ⟨its, rv, hs, hz, hlt⟩ := src_of I hq
    rw [rowsE_get] at hrow
    cases hx : xs[i]? with
    | none => rw [hx] at hrow; cases hrow
    | some x =>
      rw [hx] at hrow
      cases hrow
      have hae : a ≠ it := fun z => by
        subst z
        have := (hf a (by simp)).1
        cases k with
        | true =>
          rcases hq with hq | ⟨o, its', n', h1, _⟩
          · rcases hq with hq | ⟨_, hq⟩ <;> (rw [this] at hq; cases hq)
          · obtain ⟨o2, e2, c2, _⟩ := st.2
            obtain ⟨o3, e3, c3, _⟩ := (show s.heap.IsList a its.toArray from hs)
            rw [e2] at e3
            cases e3
            rw [c2] at c3
            simp at c3
        | false =>
          rcases hq with hq | ⟨o, its', n', h1, _⟩
          · rcases hq with hq | ⟨_, hq⟩ <;> (rw [this] at hq; cases hq)
          · obtain ⟨o2, e2, c2, _⟩ := st.2
            obtain ⟨o3, e3, c3, _⟩ := (show s.heap.IsTuple a its.toArray from hs)
            rw [e2] at e3
            cases e3
            rw [c2] at c3
            simp at c3
      have hea : e ≠ a := fun z => by
        subst z
        obtain ⟨⟨old, he⟩, _⟩ := st
        cases k with
        | true =>
          obtain ⟨o3, e3, c3, _⟩ := (show s.heap.IsList e its.toArray from hs)
          have he' : s.heap.get? e = _ := he
          rw [he'] at e3
          cases e3
          simp at c3
        | false =>
          obtain ⟨o3, e3, c3, _⟩ := (show s.heap.IsTuple e its.toArray from hs)
          have he' : s.heap.get? e = _ := he
          rw [he'] at e3
          cases e3
          simp at c3
      have hh : X.A.in1.handled = none := I.ok.hd hc
      have W := WalksT.enumFrom (prog := X.prog) (w := X.w) (A := X.A) 0 (draws_src k hh it a hae its.toArray) e hei (by simp [hei, hea]) (by simp)
      have hil : i < its.toArray.size := by
        have := rv.length
        have h2 : i < xs.length := by
          by_cases h2 : i < xs.length
          · exact h2
          · rw [List.getElem?_eq_none (by omega)] at hx
            cases hx
        rw [List.size_toArray]
        omega
      refine wpAny_mono (wt_item (elts := elts) (kk := kk) (tpos := tpos) (E := E) I W hil ⟨st.1, st.2, hs⟩ hf [.int ((0 + i : Nat)), x] (fun vals hv => ?_) (by show 2 ≤ sizeLine; decide)) (fun r s1 ⟨u, hr, h2⟩ => ⟨u, hr, wpAny_mono h2 (fun _ s2 h3 => ?_) fun _ _ z => z⟩) fun _ _ z => z
      · obtain ⟨t, y, hy, rfl⟩ := hv
        refine ⟨[.int (0 + (i : Int)) t, y], rfl, .cons ⟨t, ?_⟩ (.cons (vals_at rv hx (arr_get hy)) .nil)⟩
        have : ((0 + i : Nat) : Int) = 0 + (i : Int) := by omega
        rw [this]
      · obtain ⟨T, rfl, hT, hTn, I2, st2⟩ := h3
        refine ⟨.ref T, _, I2, rfl, ⟨T, _, rfl, hT, rfl, fun rows hr2 => ?_⟩, ⟨st2.1, st2.2.1⟩, fun b hb => ?_⟩
        · obtain ⟨ys, hy, rfl⟩ := hr2
          rw [rowsE_get, src_inj I hy hq, hx]
          rfl
        · have hbl : b < s.heap.objs.size := by
            have e' : b = e ∨ b = it := by simpa using hb
            rcases e' with z | z
            · rw [z]; obtain ⟨old, he⟩ := st.1; exact Heap.lt_size he
            · rw [z]; obtain ⟨o, ho, _⟩ := st.2.obj; exact Heap.lt_size ho
          rw [upd_ne (fun z => by subst z; exact absurd (Nat.lt_of_lt_of_le hbl hTn) (Nat.lt_irrefl _))]
          exact (hf b hb).1
  done := by
    intro X hP hw hK hc i pins s σ H E I hf st hg
    subst hP hw hK
    obtain ⟨rows, ⟨xs, hq, rfl⟩, hl⟩ := hg
    rw [rowsE_len] at hl
    obtain ⟨its, rv, hs, hz, hlt⟩ := src_of I hq
    have hln := rv.length
    have hae : a ≠ it := fun z => by
      subst z
      cases k with
      | true =>
        obtain ⟨o2, e2, c2, _⟩ := st.2
        obtain ⟨o3, e3, c3, _⟩ := (show s.heap.IsList a its.toArray from hs)
        rw [e2] at e3
        cases e3
        rw [c2] at c3
        simp at c3
      | false =>
        obtain ⟨o2, e2, c2, _⟩ := st.2
        obtain ⟨o3, e3, c3, _⟩ := (show s.heap.IsTuple a its.toArray from hs)
        rw [e2] at e3
        cases e3
        rw [c2] at c3
        simp at c3
    have hea : e ≠ a := fun z => by
      subst z
      obtain ⟨⟨old, he⟩, _⟩ := st
      cases k with
      | true =>
        obtain ⟨o3, e3, c3, _⟩ := (show s.heap.IsList e its.toArray from hs)
        have he' : s.heap.get? e = _ := he
        rw [he'] at e3
        cases e3
        simp at c3
      | false =>
        obtain ⟨o3, e3, c3, _⟩ := (show s.heap.IsTuple e its.toArray from hs)
        have he' : s.heap.get? e = _ := he
        rw [he'] at e3
        cases e3
        simp at c3
    have hh : X.A.in1.handled = none := I.ok.hd hc
    have W := WalksT.enumFrom (prog := X.prog) (w := X.w) (A := X.A) 0 (draws_src k hh it a hae its.toArray) e hei (by simp [hei, hea]) (by simp)
    have hi : i = its.toArray.size := by rw [List.size_toArray]; omega
    subst hi
    exact wt_done I W ⟨st.1, st.2, hs⟩ hf
  self := fun A i s Q E st h => let ⟨⟨_, he⟩, _⟩ := st; wpAny_pyIter_enum he h

set_option maxHeartbeats 1000000 in
theorem meets_enumerate_new1 {v : Value} {o : Obj} {H : Heap → Prop} (B : Begins v o H) :
    Meets (Builtin.«enumerate.__new__» ⟨[.type "enumerate", v], []⟩) (fun _ R s => H s.heap ∧
      R (.ok (.ret (.ref (s.heap.push o).objs.size))) { s with heap := (s.heap.push o).push { cls := .type "enumerate", data := .fields #[.none, .bool false, .ref s.heap.objs.size, rawInt 0, .none, .none] } }) :=
  .of_wp fun prog w A R s h => by
    obtain ⟨hp, g, d, tk, os⟩ := s; obtain ⟨h1, h⟩ := h
    have hsub := sub_enumerate
    have q1 : ∀ {A' : Around} {E : Value → Shared → Prop} {Q : Value → Shared → Prop}, Q (.ref hp.objs.size) ⟨hp.push o, g, d, tk, os⟩ → wpAny (model prog w) A' (pyIter v) Q E ⟨hp, g, d, tk, os⟩ :=
      fun q => B.iter prog w _ _ ⟨hp, g, d, tk, os⟩ _ h1 q
    wp_walk using q1
    refine wpAny_stack_any fun st => wpAny_pure ?_
    split
    · rename_i c _ _ _ _ _
      cases (c == Value.type "enumerate")
      · wp_walk using q1
        exact ⟨_, rfl, h⟩
      · wp_walk using q1
        exact ⟨_, rfl, h⟩
    · wp_walk using q1
      exact ⟨_, rfl, h⟩
theorem enum_begins1 {prog : Program} {w : World} {A : Around} {E : Value → Shared → Prop} {s : Shared} {v : Value} {o : Obj} {H : Heap → Prop} {Q : Value → Shared → Prop} (B : Begins v o H) (h1 : H s.heap)
    (h : ∀ h', IsEnum h' (s.heap.objs.size + 1) s.heap.objs.size 0 .none → h'.get? s.heap.objs.size = some o → h'.objs.size = s.heap.objs.size + 2 →
      (∀ b o, s.heap.get? b = some o → h'.get? b = some o) → Q (.ref (s.heap.objs.size + 1)) { s with heap := h' }) :
    wpAny (model prog w) A (call (.type "enumerate") [v]) Q E s := by
  refine callType_new F.called_enumerate (by decide) (F.typeCall_enumerate_1 _) (F.newCall_enumerate_1 _) (fun obj => F.args_object_init_2 obj _) F.entry_enumerate_new
    (meets_enumerate_new1 B) ⟨h1, ?_⟩
  have hz : (s.heap.push o).objs.size = s.heap.objs.size + 1 := Heap.size_push ..
  show _ ∧ _
  rw [hz]
  have he : IsEnum ((s.heap.push o).push { cls := .type "enumerate", data := .fields #[.none, .bool false, .ref s.heap.objs.size, rawInt 0, .none, .none] }) (s.heap.objs.size + 1) s.heap.objs.size 0 .none := by
    have := Heap.get?_push_size (s.heap.push o) (o := { cls := .type "enumerate", data := .fields #[.none, .bool false, .ref s.heap.objs.size, rawInt 0, .none, .none] }) rfl
    rw [hz] at this; exact this
  refine ⟨⟨_, he, rfl⟩, h _ he (Heap.get?_push_of_some _ (Heap.get?_push_size _ B.free)) (by rw [Heap.size_push, hz]) fun b o x => Heap.get?_push_of_some _ (Heap.get?_push_of_some _ x)⟩
def iEnumS (K : PySem.W.Frag) (ta : TA) : TI := fun σ H R => ta σ H fun vs H1 => ∃ k a xs, vs = [.ref a] ∧ SqS k K H1 a xs ∧ (xs.length ≤ sizeLine → R (ItR (rdE k K a)) H1)
theorem pi_enumS {X : Cx} {e : Expr} {ta : TA} {p pos tpos : Pos} {elts : List Expr} {kk : Nat} (hg : Gl X "enumerate") (hm : X.mg "enumerate" = none) (ha : PA X [e] ta) (hs : starEach [e] X.env = [(false, eval e X.env)]) :
    PI X (.Tuple elts kk tpos) (.Call (.Name "enumerate" p) [e] [] pos) (iEnumS X.K ta) := by
  refine ⟨fun pins s σ H R I h => ?_⟩
  refine Call_ (ld_blt I hg hm boot_enumerate (PyProof.Rows.callWith_type1 (thn (ha.run pos pins s σ H _ I h) fun us s1 ⟨vs, H1, I1, r1, q1⟩ => ?_) hs rfl))
  obtain ⟨k, a, xs, ex, hq, q⟩ := q1
  subst ex
  cases r1 with
  | cons r rr =>
    cases rr
    cases r
    obtain ⟨its, rv, p', hz, hlt⟩ := src_of I1 hq
    refine enum_begins1 (begins_src k a its.toArray) p' fun h' he hit hsz hk => wpAny_pyIter_enum he ?_
    have I2 : Inv X pins σ H1 { s1 with heap := h' } := I1.kept (t' := s1.toks) hk
    refine ⟨s1.heap.objs.size + 1, [s1.heap.objs.size + 1, s1.heap.objs.size], _, _, H1, rfl, I2, turn_enumS k a (s1.heap.objs.size + 1) s1.heap.objs.size (Nat.succ_ne_self _), ⟨⟨.none, he⟩, itO_it hit⟩, fun b hb => ?_, q hz⟩
    have e' : b = s1.heap.objs.size + 1 ∨ b = s1.heap.objs.size := by simpa using hb
    have hle : s1.heap.objs.size ≤ b := by
      rcases e' with z | z
      · rw [z]; exact Nat.le_add_right _ _
      · rw [z]; exact Nat.le_refl _
    exact I1.fpOk hle (I1.hok.fresh hle)

/-! ### zip of two -/
def rows2 (xs ys : List V) : List (List V) := List.zipWith (fun x y => [x, y]) xs ys
def rdZ2 (k1 k2 : Bool) (K : PySem.W.Frag) (a b : Addr) : Hp → List (List V) → Prop := fun H rows => ∃ xs ys, SqS k1 K H a xs ∧ SqS k2 K H b ys ∧ rows = rows2 xs ys
theorem rows2_get {xs ys : List V} {i : Nat} {row : List V} (h : (rows2 xs ys)[i]? = some row) : ∃ x y, xs[i]? = some x ∧ ys[i]? = some y ∧ row = [x, y] := by
  unfold rows2 at h
  rw [List.getElem?_zipWith] at h
  cases hx : xs[i]? with
  | none => rw [hx] at h; cases h
  | some x =>
    cases hy : ys[i]? with
    | none => rw [hx, hy] at h; cases h
    | some y => rw [hx, hy] at h; cases h; exact ⟨x, y, rfl, rfl, rfl⟩
theorem lt_of_get {α : Type} {l : List α} {i : Nat} {x : α} (h : l[i]? = some x) : i < l.length := by
  by_cases h2 : i < l.length
  · exact h2
  · rw [List.getElem?_eq_none (by omega)] at h
    cases h
theorem turn_zip2S {P : Program} {w : World} {K : PySem.W.Frag} {elts : List Expr} {kk : Nat} {tpos : Pos} {k1 k2 : Bool} {a b z TI TO i1 i2 : Addr} (S : ZipSep2 z TI TO i1 i2 [i1, a] [i2, b]) (ha : a ≠ i1) (hb : b ≠ i2) :
    Turn P w K (.Tuple elts kk tpos) (ItR (rdZ2 k1 k2 K a b)) [z, TI, TO, i1, i2] z (fun i h => IsZip h z TI TO .none ∧ IsTupOf2 h TI (.ref i1) (.ref i2) ∧ (∃ a1 a2, IsTupOf2 h TO a1 a2) ∧ SIt k1 h i1 a i ∧ SIt k2 h i2 b i) where
  mem := by simp
  obj := fun i h st c hc => by
    obtain ⟨hz, hTI, ⟨x, y, hTO⟩, h1, h2⟩ := st
    have e' : c = z ∨ c = TI ∨ c = TO ∨ c = i1 ∨ c = i2 := by simpa using hc
    rcases e' with q | q | q | q | q
    · rw [q]; exact ⟨_, hz, fun v q => nomatch q⟩
    · rw [q]; exact ⟨_, hTI, fun v q => nomatch q⟩
    · rw [q]; exact ⟨_, hTO, fun v q => nomatch q⟩
    · rw [q]; exact h1.obj
    · rw [q]; exact h2.obj
  keep := fun i h h' st k => by
    obtain ⟨hz, hTI, ⟨x, y, hTO⟩, h1, h2⟩ := st
    exact ⟨k z (by simp) _ hz, k TI (by simp) _ hTI, ⟨x, y, k TO (by simp) _ hTO⟩, h1.keep fun o q => k i1 (by simp) o q, h2.keep fun o q => k i2 (by simp) o q⟩
  item := by
    intro X hP hw hK hc i pins s σ H E I hf st hg
    subst hP hw hK
    obtain ⟨rows, row, ⟨xs, ys, hqx, hqy, rfl⟩, hrow⟩ := hg
    obtain ⟨its, rv, hs, hz, hlt⟩ := src_of I hqx
    obtain ⟨its2, rv2, hs2, hz2, hlt2⟩ := src_of I hqy
    obtain ⟨x, y, hx, hy, rfl⟩ := rows2_get hrow
    have hh : X.A.in1.handled = none := I.ok.hd hc
    have W := WalksT.zipD2 (prog := X.prog) (w := X.w) (A := X.A) S (draws_src k1 hh i1 a ha its.toArray) (draws_src k2 hh i2 b hb its2.toArray)
    have l1 := rv.length
    have l2 := rv2.length
    have j1 := lt_of_get hx
    have j2 := lt_of_get hy
    have hwf : ∀ c ∈ [z, TO, i1, i2], FpOk X pins H c := fun c hc => hf c (by simp at hc ⊢; rcases hc with q | q | q | q <;> simp [q])
    refine wpAny_mono (wt_item (elts := elts) (kk := kk) (tpos := tpos) (E := E) I W (by rw [List.size_toArray, List.size_toArray]; omega) ⟨st.1, st.2.1, st.2.2.1, ⟨st.2.2.2.1, hs⟩, ⟨st.2.2.2.2, hs2⟩⟩ hwf [x, y] (fun vals hv => ?_) (by show 2 ≤ sizeLine; decide)) (fun r s1 ⟨u, hr, h2⟩ => ⟨u, hr, wpAny_mono h2 (fun _ s2 h3 => ?_) fun _ _ z => z⟩) fun _ _ z => z
    · obtain ⟨v1, v2, g1, g2, rfl⟩ := hv
      exact ⟨[v1, v2], rfl, .cons (vals_at rv hx (arr_get g1)) (.cons (vals_at rv2 hy (arr_get g2)) .nil)⟩
    · obtain ⟨T, rfl, hT, hTn, I2, st2⟩ := h3
      refine ⟨.ref T, _, I2, rfl, ⟨T, _, rfl, hT, rfl, fun rows hr2 => ?_⟩, ⟨st2.1, st2.2.1, st2.2.2.1, st2.2.2.2.1.1, st2.2.2.2.2.1⟩, fun c hcm => ?_⟩
      · obtain ⟨xs', ys', g1, g2, rfl⟩ := hr2
        rw [src_inj I g1 hqx, src_inj I g2 hqy]
        exact hrow
      · have hbl : c < s.heap.objs.size := by
          obtain ⟨hz, hTI, ⟨x0, y0, hTO⟩, h1, h2⟩ := st
          have e' : c = z ∨ c = TI ∨ c = TO ∨ c = i1 ∨ c = i2 := by simpa using hcm
          rcases e' with q | q | q | q | q
          · rw [q]; exact Heap.lt_size hz
          · rw [q]; exact Heap.lt_size hTI
          · rw [q]; exact Heap.lt_size hTO
          · rw [q]; obtain ⟨o, ho, _⟩ := h1.obj; exact Heap.lt_size ho
          · rw [q]; obtain ⟨o, ho, _⟩ := h2.obj; exact Heap.lt_size ho
        rw [upd_ne (fun z => by subst z; exact absurd (Nat.lt_of_lt_of_le hbl hTn) (Nat.lt_irrefl _))]
        exact (hf c hcm).1
  done := by
    intro X hP hw hK hc i pins s σ H E I hf st hg
    subst hP hw hK
    obtain ⟨rows, ⟨xs, ys, hqx, hqy, rfl⟩, hl⟩ := hg
    obtain ⟨its, rv, hs, hz, hlt⟩ := src_of I hqx
    obtain ⟨its2, rv2, hs2, hz2, hlt2⟩ := src_of I hqy
    have l1 := rv.length
    have l2 := rv2.length
    have hh : X.A.in1.handled = none := I.ok.hd hc
    have W := WalksT.zipD2 (prog := X.prog) (w := X.w) (A := X.A) S (draws_src k1 hh i1 a ha its.toArray) (draws_src k2 hh i2 b hb its2.toArray)
    have hwf : ∀ c ∈ [z, TO, i1, i2], FpOk X pins H c := fun c hc => hf c (by simp at hc ⊢; rcases hc with q | q | q | q <;> simp [q])
    have hi : i = min its.toArray.size its2.toArray.size := by
      unfold rows2 at hl
      rw [List.length_zipWith] at hl
      rw [List.size_toArray, List.size_toArray]
      omega
    subst hi
    exact wt_done I W ⟨st.1, st.2.1, st.2.2.1, ⟨st.2.2.2.1, hs⟩, ⟨st.2.2.2.2, hs2⟩⟩ hwf
  self := fun A i s Q E st h => wpAny_pyIter_zip st.1 h
def iZip2S (K : PySem.W.Frag) (ta : TA) : TI := fun σ H R => ta σ H fun vs H1 => ∃ k1 k2 a b xs ys, vs = [.ref a, .ref b] ∧ SqS k1 K H1 a xs ∧ SqS k2 K H1 b ys ∧ (xs.length ≤ sizeLine → R (ItR (rdZ2 k1 k2 K a b)) H1)
theorem pi_zip2S {X : Cx} {e e2 : Expr} {ta : TA} {p pos tpos : Pos} {elts : List Expr} {kk : Nat} (hg : Gl X "zip") (hm : X.mg "zip" = none) (ha : PA X [e, e2] ta)
    (hs : starEach [e, e2] X.env = (false, eval e X.env) :: starEach [e2] X.env) (hpl : (backTo pos (starEach [e2] X.env)).any (·.1) = false) :
    PI X (.Tuple elts kk tpos) (.Call (.Name "zip" p) [e, e2] [] pos) (iZip2S X.K ta) := by
  refine ⟨fun pins s σ H R I h => ?_⟩
  refine Call_ (ld_blt I hg hm PyProof.Rows.boot_zip (PyProof.Rows.callWith_type1 (thn (ha.run pos pins s σ H _ I h) fun us s1 ⟨vs, H1, I1, r1, q1⟩ => ?_) hs hpl))
  obtain ⟨k1, k2, a, b, xs, ys, ex, hqx, hqy, q⟩ := q1
  subst ex
  cases r1 with
  | cons r rr =>
    cases rr with
    | cons r' rr =>
      cases rr
      cases r
      cases r'
      obtain ⟨its, rv, p1, hz, lt1⟩ := src_of I1 hqx
      obtain ⟨its2, rv2, p2, hz2, lt2⟩ := src_of I1 hqy
      refine zip_begins2 (begins_src k1 a its.toArray) (begins_src k2 b its2.toArray) p1 p2 fun h' hzp hTI hTO h1 h2 hsz hk => wpAny_pyIter_zip hzp ?_
      have I2 : Inv X pins σ H1 { s1 with heap := h' } := I1.kept (t' := s1.toks) hk
      refine ⟨s1.heap.objs.size + 4, [s1.heap.objs.size + 4, s1.heap.objs.size + 2, s1.heap.objs.size + 3, s1.heap.objs.size, s1.heap.objs.size + 1], _, _, H1, rfl, I2,
        turn_zip2S (zip_sep2 (fp1 := [a]) (fp2 := [b]) (fun c hc => by simp at hc; rw [hc]; exact lt1) (fun c hc => by simp at hc; rw [hc]; exact lt2)) (Nat.ne_of_lt lt1) (Nat.ne_of_lt (Nat.lt_succ_of_lt lt2)), ⟨hzp, hTI, ⟨_, _, hTO⟩, itO_it h1, itO_it h2⟩, fun c hcm => ?_, q hz⟩
      have e' : c = s1.heap.objs.size + 4 ∨ c = s1.heap.objs.size + 2 ∨ c = s1.heap.objs.size + 3 ∨ c = s1.heap.objs.size ∨ c = s1.heap.objs.size + 1 := by simpa using hcm
      have hle : s1.heap.objs.size ≤ c := by
        rcases e' with q | q | q | q | q <;> (rw [q]; first | exact Nat.le_refl _ | exact Nat.le_add_right _ _)
      exact I1.fpOk hle (I1.hok.fresh hle)

/-! ### zip of three -/
def rows3 : List V → List V → List V → List (List V)
  | x :: xs, y :: ys, u :: us => [x, y, u] :: rows3 xs ys us
  | _, _, _ => []
theorem rows3_get : ∀ {xs ys us : List V} {i : Nat} {row : List V}, (rows3 xs ys us)[i]? = some row → ∃ x y u, xs[i]? = some x ∧ ys[i]? = some y ∧ us[i]? = some u ∧ row = [x, y, u]
  | x :: xs, y :: ys, u :: us, 0, row, h => by
    simp [rows3] at h
    exact ⟨x, y, u, rfl, rfl, rfl, h.symm⟩
  | x :: xs, y :: ys, u :: us, i + 1, row, h => by
    simp only [rows3, List.getElem?_cons_succ] at h ⊢
    exact rows3_get h
  | [], _, _, _, _, h => by simp [rows3] at h
  | _ :: _, [], _, _, _, h => by simp [rows3] at h
  | _ :: _, _ :: _, [], _, _, h => by simp [rows3] at h
theorem rows3_len : ∀ (xs ys us : List V), (rows3 xs ys us).length = min (min xs.length ys.length) us.length
  | x :: xs, y :: ys, u :: us => by
    rw [rows3, List.length_cons, rows3_len xs ys us, List.length_cons, List.length_cons, List.length_cons]
    omega
  | [], _, _ => by simp [rows3]
  | _ :: _, [], _ => by simp [rows3]
  | _ :: _, _ :: _, [] => by simp [rows3]
def rdZ3 (k1 k2 k3 : Bool) (K : PySem.W.Frag) (a b c : Addr) : Hp → List (List V) → Prop := fun H rows => ∃ xs ys us, SqS k1 K H a xs ∧ SqS k2 K H b ys ∧ SqS k3 K H c us ∧ rows = rows3 xs ys us
theorem turn_zip3S {P : Program} {w : World} {K : PySem.W.Frag} {elts : List Expr} {kk : Nat} {tpos : Pos} {k1 k2 k3 : Bool} {a b c z TI TO i1 i2 i3 : Addr} (S : ZipSep3 z TI TO i1 i2 i3 [i1, a] [i2, b] [i3, c]) (ha : a ≠ i1) (hb : b ≠ i2) (hc' : c ≠ i3) :
    Turn P w K (.Tuple elts kk tpos) (ItR (rdZ3 k1 k2 k3 K a b c)) [z, TI, TO, i1, i2, i3] z (fun i h => IsZip h z TI TO .none ∧ IsTupOf3 h TI (.ref i1) (.ref i2) (.ref i3) ∧ (∃ a1 a2 a3, IsTupOf3 h TO a1 a2 a3) ∧ SIt k1 h i1 a i ∧ SIt k2 h i2 b i ∧ SIt k3 h i3 c i) where
  mem := by simp
  obj := fun i h st d hd => by
    obtain ⟨hz, hTI, ⟨x, y, u, hTO⟩, h1, h2, h3⟩ := st
    have e' : d = z ∨ d = TI ∨ d = TO ∨ d = i1 ∨ d = i2 ∨ d = i3 := by simpa using hd
    rcases e' with q | q | q | q | q | q
    · rw [q]; exact ⟨_, hz, fun v q => nomatch q⟩
    · rw [q]; exact ⟨_, hTI, fun v q => nomatch q⟩
    · rw [q]; exact ⟨_, hTO, fun v q => nomatch q⟩
    · rw [q]; exact h1.obj
    · rw [q]; exact h2.obj
    · rw [q]; exact h3.obj
  keep := fun i h h' st k => by
    obtain ⟨hz, hTI, ⟨x, y, u, hTO⟩, h1, h2, h3⟩ := st
    exact ⟨k z (by simp) _ hz, k TI (by simp) _ hTI, ⟨x, y, u, k TO (by simp) _ hTO⟩, h1.keep fun o q => k i1 (by simp) o q, h2.keep fun o q => k i2 (by simp) o q, h3.keep fun o q => k i3 (by simp) o q⟩
  item := by
    intro X hP hw hK hc i pins s σ H E I hf st hg
    subst hP hw hK
    obtain ⟨rows, row, ⟨xs, ys, us, hqx, hqy, hqu, rfl⟩, hrow⟩ := hg
    obtain ⟨its, rv, hs, hz, hlt⟩ := src_of I hqx
    obtain ⟨its2, rv2, hs2, hz2, hlt2⟩ := src_of I hqy
    obtain ⟨its3, rv3, hs3, hz3, hlt3⟩ := src_of I hqu
    obtain ⟨x, y, u, hx, hy, hu, rfl⟩ := rows3_get hrow
    have hh : X.A.in1.handled = none := I.ok.hd hc
    have W := WalksT.zipD3 (prog := X.prog) (w := X.w) (A := X.A) S (draws_src k1 hh i1 a ha its.toArray) (draws_src k2 hh i2 b hb its2.toArray) (draws_src k3 hh i3 c hc' its3.toArray)
    have l1 := rv.length
    have l2 := rv2.length
    have l3 := rv3.length
    have j1 := lt_of_get hx
    have j2 := lt_of_get hy
    have j3 := lt_of_get hu
    have hwf : ∀ c ∈ [z, TO, i1, i2, i3], FpOk X pins H c := fun c hc => hf c (by simp at hc ⊢; rcases hc with q | q | q | q | q <;> simp [q])
    refine wpAny_mono (wt_item (elts := elts) (kk := kk) (tpos := tpos) (E := E) I W (by rw [List.size_toArray, List.size_toArray, List.size_toArray]; omega) ⟨st.1, st.2.1, st.2.2.1, ⟨st.2.2.2.1, hs⟩, ⟨st.2.2.2.2.1, hs2⟩, ⟨st.2.2.2.2.2, hs3⟩⟩ hwf [x, y, u] (fun vals hv => ?_) (by show 3 ≤ sizeLine; decide)) (fun r s1 ⟨u, hr, h2⟩ => ⟨u, hr, wpAny_mono h2 (fun _ s2 h3 => ?_) fun _ _ z => z⟩) fun _ _ z => z
    · obtain ⟨v1, v2, v3, g1, g2, g3, rfl⟩ := hv
      exact ⟨[v1, v2, v3], rfl, .cons (vals_at rv hx (arr_get g1)) (.cons (vals_at rv2 hy (arr_get g2)) (.cons (vals_at rv3 hu (arr_get g3)) .nil))⟩
    · obtain ⟨T, rfl, hT, hTn, I2, st2⟩ := h3
      refine ⟨.ref T, _, I2, rfl, ⟨T, _, rfl, hT, rfl, fun rows hr2 => ?_⟩, ⟨st2.1, st2.2.1, st2.2.2.1, st2.2.2.2.1.1, st2.2.2.2.2.1.1, st2.2.2.2.2.2.1⟩, fun c hcm => ?_⟩
      · obtain ⟨xs', ys', us', g1, g2, g3, rfl⟩ := hr2
        rw [src_inj I g1 hqx, src_inj I g2 hqy, src_inj I g3 hqu]
        exact hrow
      · have hbl : c < s.heap.objs.size := by
          obtain ⟨hz, hTI, ⟨x0, y0, u0, hTO⟩, h1, h2, h3⟩ := st
          have e' : c = z ∨ c = TI ∨ c = TO ∨ c = i1 ∨ c = i2 ∨ c = i3 := by simpa using hcm
          rcases e' with q | q | q | q | q | q
          · rw [q]; exact Heap.lt_size hz
          · rw [q]; exact Heap.lt_size hTI
          · rw [q]; exact Heap.lt_size hTO
          · rw [q]; obtain ⟨o, ho, _⟩ := h1.obj; exact Heap.lt_size ho
          · rw [q]; obtain ⟨o, ho, _⟩ := h2.obj; exact Heap.lt_size ho
          · rw [q]; obtain ⟨o, ho, _⟩ := h3.obj; exact Heap.lt_size ho
        rw [upd_ne (fun z => by subst z; exact absurd (Nat.lt_of_lt_of_le hbl hTn) (Nat.lt_irrefl _))]
        exact (hf c hcm).1
  done := by
    intro X hP hw hK hc i pins s σ H E I hf st hg
    subst hP hw hK
    obtain ⟨rows, ⟨xs, ys, us, hqx, hqy, hqu, rfl⟩, hl⟩ := hg
    obtain ⟨its, rv, hs, hz, hlt⟩ := src_of I hqx
    obtain ⟨its2, rv2, hs2, hz2, hlt2⟩ := src_of I hqy
    obtain ⟨its3, rv3, hs3, hz3, hlt3⟩ := src_of I hqu
    have l1 := rv.length
    have l2 := rv2.length
    have l3 := rv3.length
    have hh : X.A.in1.handled = none := I.ok.hd hc
    have W := WalksT.zipD3 (prog := X.prog) (w := X.w) (A := X.A) S (draws_src k1 hh i1 a ha its.toArray) (draws_src k2 hh i2 b hb its2.toArray) (draws_src k3 hh i3 c hc' its3.toArray)
    have hwf : ∀ c ∈ [z, TO, i1, i2, i3], FpOk X pins H c := fun c hc => hf c (by simp at hc ⊢; rcases hc with q | q | q | q | q <;> simp [q])
    have hi : i = min (min its.toArray.size its2.toArray.size) its3.toArray.size := by
      rw [rows3_len] at hl
      rw [List.size_toArray, List.size_toArray, List.size_toArray]
      omega
    subst hi
    exact wt_done I W ⟨st.1, st.2.1, st.2.2.1, ⟨st.2.2.2.1, hs⟩, ⟨st.2.2.2.2.1, hs2⟩, ⟨st.2.2.2.2.2, hs3⟩⟩ hwf
  self := fun A i s Q E st h => wpAny_pyIter_zip st.1 h
def iZip3S (K : PySem.W.Frag) (ta : TA) : TI := fun σ H R => ta σ H fun vs H1 => ∃ k1 k2 k3 a b c xs ys us, vs = [.ref a, .ref b, .ref c] ∧ SqS k1 K H1 a xs ∧ SqS k2 K H1 b ys ∧ SqS k3 K H1 c us ∧ (xs.length ≤ sizeLine → R (ItR (rdZ3 k1 k2 k3 K a b c)) H1)
theorem pi_zip3S {X : Cx} {e e2 e3 : Expr} {ta : TA} {p pos tpos : Pos} {elts : List Expr} {kk : Nat} (hg : Gl X "zip") (hm : X.mg "zip" = none) (ha : PA X [e, e2, e3] ta)
    (hs : starEach [e, e2, e3] X.env = (false, eval e X.env) :: starEach [e2, e3] X.env) (hpl : (backTo pos (starEach [e2, e3] X.env)).any (·.1) = false) :
    PI X (.Tuple elts kk tpos) (.Call (.Name "zip" p) [e, e2, e3] [] pos) (iZip3S X.K ta) := by
  refine ⟨fun pins s σ H R I h => ?_⟩
  refine Call_ (ld_blt I hg hm PyProof.Rows.boot_zip (PyProof.Rows.callWith_type1 (thn (ha.run pos pins s σ H _ I h) fun us s1 ⟨vs, H1, I1, r1, q1⟩ => ?_) hs hpl))
  obtain ⟨k1, k2, k3, a, b, c, xs, ys, us, ex, hqx, hqy, hqu, q⟩ := q1
  subst ex
  cases r1 with
  | cons r rr =>
    cases rr with
    | cons r' rr =>
      cases rr with
      | cons r'' rr =>
        cases rr
        cases r
        cases r'
        cases r''
        obtain ⟨its, rv, p1, hz, lt1⟩ := src_of I1 hqx
        obtain ⟨its2, rv2, p2, hz2, lt2⟩ := src_of I1 hqy
        obtain ⟨its3, rv3, p3, hz3, lt3⟩ := src_of I1 hqu
        refine zip_begins3 (begins_src k1 a its.toArray) (begins_src k2 b its2.toArray) (begins_src k3 c its3.toArray) p1 p2 p3 fun h' hzp hTI hTO h1 h2 h3 hsz hk => wpAny_pyIter_zip hzp ?_
        have I2 : Inv X pins σ H1 { s1 with heap := h' } := I1.kept (t' := s1.toks) hk
        refine ⟨s1.heap.objs.size + 5, [s1.heap.objs.size + 5, s1.heap.objs.size + 3, s1.heap.objs.size + 4, s1.heap.objs.size, s1.heap.objs.size + 1, s1.heap.objs.size + 2], _, _, H1, rfl, I2,
          turn_zip3S (zip_sep3 (fp1 := [a]) (fp2 := [b]) (fp3 := [c]) (fun d hd => by simp at hd; rw [hd]; exact lt1) (fun d hd => by simp at hd; rw [hd]; exact lt2) (fun d hd => by simp at hd; rw [hd]; exact lt3)) (Nat.ne_of_lt lt1) (Nat.ne_of_lt (Nat.lt_succ_of_lt lt2)) (Nat.ne_of_lt (Nat.lt_succ_of_lt (Nat.lt_succ_of_lt lt3))), ⟨hzp, hTI, ⟨_, _, _, hTO⟩, itO_it h1, itO_it h2, itO_it h3⟩, fun d hdm => ?_, q hz⟩
        have e' : d = s1.heap.objs.size + 5 ∨ d = s1.heap.objs.size + 3 ∨ d = s1.heap.objs.size + 4 ∨ d = s1.heap.objs.size ∨ d = s1.heap.objs.size + 1 ∨ d = s1.heap.objs.size + 2 := by simpa using hdm
        have hle : s1.heap.objs.size ≤ d := by
          rcases e' with q | q | q | q | q | q <;> (rw [q]; first | exact Nat.le_refl _ | exact Nat.le_add_right _ _)
        exact I1.fpOk hle (I1.hok.fresh hle)
end DD

namespace DD
open PySem PySem.Spec PyProof.Rows L2

/-! ### try with several clauses that name the error -/
def wManyAs (K : PySem.W.Frag) (Wout : WX) (D : Ends) : List (Value × Nat × (Addr → Value → Option Addr → TS)) → WX
  | [] => Wout
  | (c, i, ts) :: r => fun cls d σ H => ∃ b, PySem.W.exmOne K cls c = some b ∧ (b = true → ∀ a, H a = none → ts a cls d { nx := fun σ' H' => D.nx (σ'.set i none) H', rt := D.rt, bk := fun σ' H' => D.bk (σ'.set i none) H', ct := fun σ' H' => D.ct (σ'.set i none) H' } (σ.set i (some (.ref a))) H) ∧
    (b = false → wManyAs K Wout D r cls d σ H)
inductive HdsAs (X : Cx) : List ExceptHandler → List (Value × Nat × (Addr → Value → Option Addr → TS)) → Prop
  | nil : HdsAs X [] []
  | cons {x n : Str} {c : Value} {i : Nat} {ts : Addr → Value → Option Addr → TS} {b₀ : Stmt} {suite : List Stmt} {np pos' : Pos} {hds : List ExceptHandler} {l : List (Value × Nat × (Addr → Value → Option Addr → TS))} (hc : Names X x c) (hi : X.N[i]? = some n) (hln : X.env.kindOf n = some .local)
      (hsu : ∀ (a : Addr) (oe : Obj) (cls : Value) (d : Option Addr) (pn : List (Addr × Obj)), Zc cls d oe → (∃ vs, oe.data = .fields vs) → PSs (X.suite a ((a, oe) :: pn)) (b₀ :: suite) (ts a cls d)) (r : HdsAs X hds l) :
      HdsAs X (.ExceptHandler (some (.Name x np)) (some n) (b₀ :: suite) pos' :: hds) ((c, i, ts) :: l)
section
variable {X : Cx} {body : List Stmt} {h₀ : ExceptHandler} {hds : List ExceptHandler} {l : List (Value × Nat × (Addr → Value → Option Addr → TS))} {pos : Pos} {tb : WX → TS} {Wout : WX}
theorem ps_try_manyAs (hs : X.stack = X.env :: X.outer) (hf : X.env.frame = some X.env.locals) (hN : X.N.Nodup) (tk : Takes X Wout)
    (hb : ∀ (W : WX) (pn : List (Addr × Obj)) (xe : Value → Shared → Prop), Takes (X.tr pn xe) W → PassesOwn (model X.prog X.w) X.A X.env xe → PSs (X.tr pn xe) body (tb W))
    (hh : HdsAs X (h₀ :: hds) l) : PS X (.Try body (h₀ :: hds) [] [] pos) (fun D σ H => tb (wManyAs X.K Wout D l) D σ H) := by
  refine ⟨fun pins s σ H D I h => ?_⟩
  have ok := I.ok
  have hfr : X.A.frames = some (X.env :: X.outer) := by rw [ok.frames, hs]
  refine wpAny_Try_except ?_
  refine wpAny_mono ((hb (wManyAs X.K Wout D l) (X.pn ++ pins) (fun e s₁ => wpAny (model X.prog X.w) X.A (noteFrame e X.env) (fun _ s₂ => wpAny (model X.prog X.w) X.A (setFlight e none) (fun _ s₃ =>
    wpAny (model X.prog X.w) X.A (handleBy e X.env (h₀ :: hds)) (SP X pins D) X.xe s₃) X.xe s₂) X.xe s₁) (fun u s' xx => ?_) PassesOwn.looking).run [] s σ H D (I.toTry _) h) (fun f s1 hsp => ?_) (fun e s1 he => he)
  · -- the catch
    obtain ⟨a, B, sI, pins', σ', H', cls, d, rfl, J', nb, up, sky, na, os, ag, w⟩ := xx
    have J : Inv X pins σ' H' sI := J'.ofTry ok
    have sky' : Sky B (X.env :: X.outer) a (Zc cls d) X.env.locals s'.heap := by rw [← hs]; exact sky
    show wpAny (model X.prog X.w) X.A (noteFrame (.ref a) X.env) _ _ _
    refine Sky.land Zc.steady hfr hf sky' fun h3 fl3 up3 => ?_
    have J3 : Inv X pins σ' H' { s' with heap := h3 } := J.landed nb fl3.1 (up.trans up3) os ag
    obtain ⟨oe3, vs3, he3, hz3, hd3⟩ := fl3.there
    have notFr : ∀ {h : Heap} {o : Obj} {vs : Array Value}, h.FunFrames B (X.env :: X.outer) → h.get? a = some o → o.data = .fields vs → a ∉ frs (X.env :: X.outer) := fun {h o vs} ff e dd hm => by
      obtain ⟨_, o', e', hnf⟩ := ff.mem hm
      rw [e] at e'; cases e'
      exact hnf _ dd
    have nfr := notFr fl3.2.2.1 he3 hd3
    have nL : a ≠ X.env.locals := fun z => nfr (List.mem_filterMap.mpr ⟨X.env, List.mem_cons_self, by rw [hf, z]⟩)
    have nF : a ∉ X.fs := fun hm => by
      obtain ⟨e, he, q⟩ := List.mem_filterMap.mp hm
      exact nfr (List.mem_filterMap.mpr ⟨e, List.mem_cons_of_mem _ he, q⟩)
    have S3 := J3.suite he3 hd3 na nL nF
    have go : ∀ {hds' : List ExceptHandler} {l' : List (Value × Nat × (Addr → Value → Option Addr → TS))}, HdsAs X hds' l' → wManyAs X.K Wout D l' cls d σ' H' →
        wpAny (model X.prog X.w) X.A (handleBy (.ref a) X.env hds') (SP X pins D) X.xe { s' with heap := h3 } := by
      intro hds' l' hk
      induction hk with
      | nil =>
        intro w
        refine wpAny_handleBy_nil ?_
        obtain ⟨k1, k2, k3, oe, vs, T, oT, ts', he, hz, hd, h1, hr⟩ := id fl3
        unfold PySem.passOn
        refine wpAny_bind (wpAny_field he hd h1 ?_)
        rw [if_neg (show ¬ ((Value.ref T == Value.none) = true) from by simp)]
        have fin : wpAny (model X.prog X.w) X.A (setFlight (.ref a) X.env.frame) (fun _ s4 => wpAny (model X.prog X.w) X.A (throw (.ref a) : Sem Flow) (SP X pins D) X.xe s4) X.xe { s' with heap := h3 } := by
          rw [hf]
          refine HandSPX.setFlight_upZ fl3 fun h4 hh4 up4 => wpAny_throw (tk _ _ ?_)
          exact ⟨a, B, sI, pins, σ', H', cls, d, rfl, J, nb, (up.trans up3).trans up4, .inr (.inr (by rw [hs]; exact hh4)), na, os, ag, w⟩
        first
          | exact wpAny_bind (wpAny_pure (wpAny_bind fin))
          | exact wpAny_bind fin
      | @cons x n c i ts b₀ suite np pos' hds2 l2 hc hi hln hsu r ih =>
        intro w
        have hloc : L2.Loc X.env.scope n := .inl hln
        obtain ⟨b, hb1, hyes, hno⟩ := w
        refine wpAny_handleBy_cons (codeAny_handlers_test ?_) (by intro q; cases q)
        have LT : PySem.W.Looks (model X.prog X.w) h3 (typeOf (.ref a)) cls := fun A Q E s k q => wpAny_typeOf_ref (k _ _ he3) (by rw [hz3.1]; exact q)
        have LM := PySem.W.exm_one (M := model X.prog X.w) (J3.kIn) LT hb1
        have test : ∀ {Q : Value → Shared → Prop} {E : Value → Shared → Prop}, Q c { s' with heap := h3 } → wpAny (model X.prog X.w) (X.A.mark (some (.ref a))) (eval (.Name x np) X.env) Q E { s' with heap := h3 } := fun {Q E} q => by
          obtain ⟨hg, hdbg, hm | ⟨hm, hv, hnn⟩⟩ := hc
          · exact ld_glob (X := X.suite a ((a, oe3) :: (X.pn ++ pins))) S3 hg hm q hdbg
          · exact ld_blt (X := X.suite a ((a, oe3) :: (X.pn ++ pins))) S3 hg hm hv q hnn hdbg
        refine test (LM.here ?_)
        cases b with
        | true =>
          refine codeAny_handlers_suite_as ?_
          refine HandSPX.lands_againZ fl3 fun h4 fl4 up4 => ?_
          have J4 : Inv X pins σ' H' { s' with heap := h4 } := J.landed nb fl4.1 ((up.trans up3).trans up4) os ag
          obtain ⟨oe4, vs4, he4, hz4, hd4⟩ := fl4.there
          have S4 := J4.suite he4 hd4 na nL nF
          refine store_ok (X := X.suite a ((a, oe4) :: (X.pn ++ pins))) (v := .ref a) S4 hN hi hloc rfl (fun s5 S5 => ?_) (.inr hln)
          refine wpAny_mono ((hsu a oe4 cls d (X.pn ++ pins) hz4 ⟨_, hd4⟩).run [] s5 _ H' _ S5 (hyes rfl a na)) (fun f s6 hsp => ?_) (fun _ _ z => False.elim z)
          have end_ : ∀ {σ6 : L2.St} {H6 : Hp} {Q : Shared → Prop}, Inv (X.suite a ((a, oe4) :: (X.pn ++ pins))) [] σ6 H6 s6 → (∀ s7, Inv X pins (σ6.set i none) H6 s7 → Q s7) →
              wpAny (model X.prog X.w) X.A (do bindName X.env n .none; unbindBehindTheSuite X.env n pos') (fun _ s7 => Q s7) X.xe s6 := fun {σ6 H6 Q} S6 hq => gone_ok (S6.unsuite ok) hN hi hln hq
          cases f with
          | next =>
            obtain ⟨σ6, H6, S6, q6⟩ := hsp
            exact end_ S6 fun s7 J7 => ⟨_, _, J7, q6⟩
          | brk =>
            obtain ⟨σ6, H6, S6, q6⟩ := hsp
            exact end_ S6 fun s7 J7 => ⟨_, _, J7, q6⟩
          | cont =>
            obtain ⟨σ6, H6, S6, q6⟩ := hsp
            exact end_ S6 fun s7 J7 => ⟨_, _, J7, q6⟩
          | ret u =>
            obtain ⟨v6, σ6, H6, S6, r6, q6⟩ := hsp
            exact end_ S6 fun s7 J7 => ⟨_, _, _, J7, r6, q6⟩
        | false =>
          show wpAny _ X.A (handleBy (.ref a) X.env hds2) _ _ _
          exact ih (hno rfl)
    exact go hh w
  · cases f with
    | next =>
      obtain ⟨σ', H', J', q⟩ := hsp
      exact wpAny_execs_nil ⟨σ', H', J'.ofTry ok, q⟩
    | brk =>
      obtain ⟨σ', H', J', q⟩ := hsp
      exact ⟨σ', H', J'.ofTry ok, q⟩
    | cont =>
      obtain ⟨σ', H', J', q⟩ := hsp
      exact ⟨σ', H', J'.ofTry ok, q⟩
    | ret u =>
      obtain ⟨v, σ', H', J', r, q⟩ := hsp
      exact ⟨v, σ', H', J'.ofTry ok, r, q⟩
end

/-! ### what an except suite reckons: texts by the error's class -/
inductive HE where
  | str (x : Str)
  | isx (c : Nat)
  | var (j : Nat)
  | not (h : HE)
  | and (a b : HE)
  | or3 (a b c : HE)
  | ifE (c a b : HE)
/-- statements of a suite: name = e, then return e -/
inductive HS where
  | ret (h : HE)
  | set (j : Nat) (h : HE) (r : HS)
/-- is the class c one of the class d -/
abbrev Sub := Nat → Nat → Bool
def hv (sub : Sub) (c : Nat) (env : Nat → Option V) : HE → Option V
  | .str x => some (.str x)
  | .isx d => some (.bl (sub c d))
  | .var j => env j
  | .not h => (match hv sub c env h with
    | some (.bl b) => some (.bl (!b))
    | _ => none)
  | .and a b => (match hv sub c env a with
    | some (.bl true) => (match hv sub c env b with
      | some (.bl k) => some (.bl k)
      | _ => none)
    | some (.bl false) => some (.bl false)
    | _ => none)
  | .or3 a b d => (match hv sub c env a with
    | some (.bl true) => some (.bl true)
    | some (.bl false) => (match hv sub c env b with
      | some (.bl true) => some (.bl true)
      | some (.bl false) => (match hv sub c env d with
        | some (.bl k) => some (.bl k)
        | _ => none)
      | _ => none)
    | _ => none)
  | .ifE k a b => (match hv sub c env k with
    | some (.bl true) => hv sub c env a
    | some (.bl false) => hv sub c env b
    | _ => none)
def hsv (sub : Sub) (c : Nat) : (Nat → Option V) → HS → Option V
  | env, .ret h => hv sub c env h
  | env, .set j h r => (match hv sub c env h with
    | some (.bl b) => hsv sub c (fun k => if k = j then some (.bl b) else env k) r
    | _ => none)
def tH (P : L2.St → Prop) (v : V) : TE := fun σ H Q => P σ ∧ Q v H
def tHB (P : L2.St → Prop) (b : Bool) : TT := fun σ H Q => P σ ∧ Q b H
def tF : TE := fun _ _ _ => False
def tFB : TT := fun _ _ _ => False
theorem pe_nev {X : Cx} {e : Expr} : PE X e tF := ⟨fun _ _ _ _ _ _ z => False.elim z⟩
theorem pt_nev {X : Cx} {e : Expr} : PT X e tFB := ⟨fun _ _ _ _ _ _ z => False.elim z⟩
theorem pw_nev {X : Cx} {e : Expr} : PW X e tFB := ⟨fun _ _ _ _ _ _ _ z => False.elim z⟩
/-- both as a value and as a test -/
structure KH (X : Cx) (P : L2.St → Prop) (e : Expr) (v : V) : Prop where
  pe : PE X e (tH P v)
  pt : ∀ b, v = .bl b → PT X e (tHB P b)
section
variable {X : Cx} {P : L2.St → Prop} {a b c : Expr} {pos : Pos}
theorem kh_plain {e : Expr} {v : V} (h : PE X e (tH P v)) (he : ∀ whole, isTrue e X.env whole = (do let v ← whole; standAt e.pos; holding [v] (truthy v))) : KH X P e v := by
  refine ⟨h, fun b hb => ?_⟩
  subst hb
  refine pt_of (pt_truth h he) fun σ H Q q => ?_
  exact ⟨q.1, b, rfl, q.2⟩
theorem kh_str {x : Str} {j : Nat} : KH X P (.Constant (.str x) j pos) (.str x) := ⟨pe_of pe_str fun σ H Q h => h.2, fun b hb => nomatch hb⟩
theorem kh_var {i : Nat} {x : Str} {v : V} (hN : X.N[i]? = some x) (hv : Vis X.env.scope x) (hd : (x == ("__debug__" : Str)) = false) (hcd : (x == ("__classdict__" : Str)) = false) (hp : ∀ σ, P σ → σ[i]? = some (some v)) : KH X P (.Name x pos) v :=
  kh_plain (pe_of (pe_var hN hv hd hcd) fun σ H Q h => ⟨v, hp σ h.1, h.2⟩) (fun _ => rfl)
theorem kh_not {k : Bool} (h : KH X P a (.bl k)) : KH X P (.UnaryOp .Not a pos) (.bl (!k)) := by
  refine ⟨pe_of (pe_not h.pe) fun σ H Q q => ⟨q.1, k, rfl, q.2⟩, fun b hb => ?_⟩
  cases hb
  exact pt_of (pt_not (h.pt k rfl)) fun σ H Q q => ⟨q.1, q.2⟩
theorem kh_andT {k : Bool} (ha : KH X P a (.bl true)) (hb : KH X P b (.bl k)) : KH X P (.BoolOp .And [a, b] pos) (.bl k) := by
  refine ⟨pe_of (pe_and ha.pe (pe_one hb.pe)) fun σ H Q q => ⟨q.1, true, rfl, iteT ⟨q.1, q.2⟩⟩, fun z hz => ?_⟩
  cases hz
  exact (pw_of (pw_and (ha.pt true rfl) (pw_and1 (hb.pt k rfl))) fun σ H Q q => ⟨q.1, iteT ⟨q.1, q.2⟩⟩).pt
theorem kh_andF (ha : KH X P a (.bl false)) : KH X P (.BoolOp .And [a, b] pos) (.bl false) := by
  refine ⟨pe_of (pe_and ha.pe (pe_one pe_nev)) fun σ H Q q => ⟨q.1, false, rfl, iteF q.2⟩, fun z hz => ?_⟩
  cases hz
  exact (pw_of (pw_and (ha.pt false rfl) (pw_and1 pt_nev)) fun σ H Q q => ⟨q.1, iteF q.2⟩).pt
theorem kh_or {rest : List Expr} {k j : Bool} (ha : KH X P a (.bl k)) (hb : k = false → KH X P (.BoolOp .Or (b :: rest) pos) (.bl j)) (hw : k = false → PW X (.BoolOp .Or (b :: rest) pos) (tHB P j)) (hj : k = true → j = true) :
    KH X P (.BoolOp .Or (a :: b :: rest) pos) (.bl j) ∧ PW X (.BoolOp .Or (a :: b :: rest) pos) (tHB P j) := by
  cases k with
  | true =>
    cases hj rfl
    have w : PW X (.BoolOp .Or (a :: b :: rest) pos) (tHB P true) := pw_of (pw_or (ha.pt true rfl) pw_nev) fun σ H Q q => ⟨q.1, iteT q.2⟩
    refine ⟨⟨pe_of (pe_or ha.pe pe_nev) fun σ H Q q => ⟨q.1, true, rfl, iteT q.2⟩, fun z hz => ?_⟩, w⟩
    cases hz
    exact w.pt
  | false =>
    have w : PW X (.BoolOp .Or (a :: b :: rest) pos) (tHB P j) := pw_of (pw_or (ha.pt false rfl) (hw rfl)) fun σ H Q q => ⟨q.1, iteF ⟨q.1, q.2⟩⟩
    refine ⟨⟨pe_of (pe_or ha.pe (hb rfl).pe) fun σ H Q q => ⟨q.1, false, rfl, iteF ⟨q.1, q.2⟩⟩, fun z hz => ?_⟩, w⟩
    cases hz
    exact w.pt
theorem kh_one {k : Bool} (ha : KH X P a (.bl k)) : KH X P (.BoolOp .Or [a] pos) (.bl k) ∧ PW X (.BoolOp .Or [a] pos) (tHB P k) := by
  have w : PW X (.BoolOp .Or [a] pos) (tHB P k) := pw_or1 (ha.pt k rfl)
  refine ⟨⟨pe_one ha.pe, fun z hz => ?_⟩, w⟩
  cases hz
  exact w.pt
theorem kh_ifT {v : V} (hc : KH X P c (.bl true)) (ha : PE X a (tH P v)) : PE X (.IfExp c a b pos) (tH P v) := by
  exact pe_of (pe_ifExp (hc.pt true rfl) ha pe_nev) fun σ H Q q => ⟨q.1, iteT ⟨q.1, q.2⟩⟩
theorem kh_ifF {v : V} (hc : KH X P c (.bl false)) (hb : PE X b (tH P v)) : PE X (.IfExp c a b pos) (tH P v) := by
  exact pe_of (pe_ifExp (hc.pt false rfl) pe_nev hb) fun σ H Q q => ⟨q.1, iteF ⟨q.1, q.2⟩⟩
end
end DD

namespace DD
open PySem PySem.Spec PyProof.Rows L2

/-! ### t[::-1], lists and tuples -/
section
variable {prog : Program} {w : World} {A : Around} {E : Value → Shared → Prop} {s : Shared}
theorem adjust_rev (n : Nat) : Builtin.Slice.sliceAdjust none none (-1) (n : Int) = ((n : Int) - 1, -1) := by
  unfold Builtin.Slice.sliceAdjust
  simp
theorem places_rev (n : Nat) : Builtin.Slice.slicePlaces ((n : Int) - 1) (-1) (-1) = n := by
  unfold Builtin.Slice.slicePlaces
  have h1 : ¬ ((-1 : Int) > 0) := by omega
  simp only [h1, if_false]
  rw [show (- -1 : Int) = 1 by decide, Int.ediv_one]
  split <;> omega
theorem sliceApplied_rev {sl : Addr} {t : Tok} {n : Nat} {Q : Int × Int × Nat → Shared → Prop} (hs : s.heap.IsSliceOf sl .none .none (.int (-1) t)) 
    (h : Q ((n : Int) - 1, -1, n) s) : wpAny (model prog w) A (Builtin.Slice.sliceApplied (.ref sl) (pure (n : Int))) Q E s := by
  obtain ⟨os, hos, hcs, hds⟩ := id hs
  unfold Builtin.Slice.sliceApplied Builtin.Slice.sliceFields
  refine wpAny_bind (wpAny_bind (wpAny_field hos hds (x := .none) rfl (wpAny_bind (wpAny_field hos hds (x := .none) rfl (wpAny_bind (wpAny_field hos hds (x := .int (-1) t) rfl (wpAny_pure ?_)))))))
  refine wpAny_bind (HT.slicePart_ (.int (-1) t) ?_)
  show wpAny _ _ (if ((-1 : Int) == 0) = true then _ else _) _ _ s
  rw [if_neg (by decide)]
  refine wpAny_bind (HT.slicePart_ .none (wpAny_bind (HT.slicePart_ .none (wpAny_bind (wpAny_pure ?_)))))
  show wpAny _ _ (match Builtin.Slice.sliceAdjust none none (-1) (n : Int) with | (lo, hi) => pure (lo, (-1 : Int), Builtin.Slice.slicePlaces lo hi (-1))) _ _ s
  rw [adjust_rev n]
  show wpAny _ _ (pure ((n : Int) - 1, (-1 : Int), Builtin.Slice.slicePlaces ((n : Int) - 1) (-1) (-1))) _ _ s
  rw [places_rev]
  exact wpAny_pure h
theorem rev_pick (xs : List Value) : ((List.range xs.length).filterMap fun (m : Nat) => xs.toArray[((xs.length : Int) - 1 + (m : Int) * (-1)).toNat]?) = xs.reverse := by
  have e : ∀ n, n ≤ xs.length → ((List.range n).filterMap fun (m : Nat) => xs.toArray[((xs.length : Int) - 1 + (m : Int) * (-1)).toNat]?) = xs.reverse.take n := by
    intro n
    induction n with
    | zero => intro _; rfl
    | succ n ih =>
      intro h
      rw [List.range_succ, List.filterMap_append, ih (by omega), List.take_succ]
      congr 1
      have h2 : ((xs.length : Int) - 1 + (n : Int) * (-1)).toNat = xs.length - 1 - n := by omega
      simp only [List.filterMap_cons, List.filterMap_nil, h2, List.getElem?_toArray]
      rw [List.getElem?_reverse (by omega)]
      rw [List.getElem?_eq_getElem (by omega)]
      rfl
  have := e xs.length (Nat.le_refl _)
  rw [this]
  rw [List.take_of_length_le (by simp)]
theorem getItem_tuple_rev {t sl : Addr} {its : List Value} {tk : Tok} {Q : Value → Shared → Prop} (ht : IsTup s.heap t its.toArray) (hs : s.heap.IsSliceOf sl .none .none (.int (-1) tk))
    (h : Q (.ref s.heap.objs.size) { s with heap := s.heap.push { cls := .type "tuple", data := .seq its.reverse.toArray } })
    (hsz : its.length ≤ sizeLine) : wpAny (model prog w) A (getItem (.ref t) (.ref sl)) Q E s := by
  have htake : sizeOk (.seq its.reverse.toArray) := by
    show its.reverse.toArray.size ≤ sizeLine
    rw [List.size_toArray, List.length_reverse]
    exact hsz
  obtain ⟨os, hos, hcs, hds⟩ := id hs
  have hTs : s.TypeIs (.ref sl) "slice" := ⟨os, hos, hcs⟩
  unfold getItem
  try with_reducible refine wpAny_holding ?_
  first | refine wpAny_bind (wpAny_pure ?_) | skip
  refine wpAny_bind (wpAny_sequenceKey ht.typeIs (by decide) ?_)
  refine wpAny_bind (wpAny_callSpecial?_slot (name := Str.ofString "__getitem__") ht.typeIs PyProof.Rows.slot_tuple_getitem
    (wpAny_call_entry PyProof.Rows.slot_tuple_getitem ht.typeIs entry_tuple_getitem ?_ (args_tuple_getitem _ _)))
  show wpAny _ _ (Builtin.Tuple.tupleItemsOf (.ref t) >>= _) _ _ s
  refine wpAny_bind (tupleItemsOf_ ht ?_)
  refine wpAny_bind (wpAny_typeOf hTs ?_)
  rw [if_pos (by decide)]
  rw [show ((its.toArray.size : Nat) : Int) = ((its.length : Nat) : Int) by simp]
  refine wpAny_bind (sliceApplied_rev hs ?_)
  have hno : ¬ ((((its.length : Int) - 1) == 0 && (-1 : Int) == 1 && its.length == its.toArray.size) = true) := by
    intro q
    rw [Bool.and_eq_true, Bool.and_eq_true] at q
    exact absurd q.1.2 (by decide)
  show wpAny _ _ (if (((its.length : Int) - 1) == 0 && (-1 : Int) == 1 && its.length == its.toArray.size) = true then _ else _) _ _ s
  rw [if_neg hno, rev_pick]
  first
    | exact wpAny_bind (m := Builtin.Tuple.tupleExact _) (wpAny_newObj_type (wpAny_pure ⟨_, rfl, wpAny_pure h⟩) htake)
    | exact wpAny_bind (m := Builtin.Tuple.tupleExact _) (wpAny_newObj_type (wpAny_bind (wpAny_pure (wpAny_pure ⟨_, rfl, wpAny_pure h⟩))) htake)
    | exact wpAny_bind (wpAny_bind (m := Builtin.Tuple.tupleExact _) (wpAny_newObj_type (wpAny_pure (wpAny_pure ⟨_, rfl, wpAny_pure h⟩)) htake))
    | exact wpAny_bind (wpAny_bind (m := Builtin.Tuple.tupleExact _) (wpAny_newObj_type (wpAny_pure ⟨_, rfl, wpAny_pure h⟩) htake))
end
def tRev2 (K : PySem.W.Frag) (te : TE) : TE := fun σ H Q => te σ H fun x H1 => (∃ a xs, x = .ref a ∧ SqL K H1 a xs ∧ ∀ p, H1 p = none → Q (.ref p) (upd H1 p (.lst xs.reverse))) ∨ (∃ a xs, x = .ref a ∧ SqT K H1 a xs ∧ ∀ p o, H1 p = none → o.dict = none → Q (.ref p) (upd H1 p (.frz o (.tup xs.reverse))))
theorem pe_rev2 {X : Cx} {e : Expr} {te : TE} {k : Nat} {p1 p2 p3 pos : Pos} (he : PE X e te) : PE X (.Subscript e (.Slice none none (some (.UnaryOp .USub (.Constant (.int 1) k p1) p2)) p3) pos) (tRev2 X.K te) := by
  refine ⟨fun pins s σ H Q I h => ?_⟩
  refine Subscript_ (thn (he.run pins s σ H _ I h) fun v s1 ⟨x, H1, I1, r1, q1⟩ => ?_)
  have hst : PO X (some (.UnaryOp .USub (.Constant (.int 1) k p1) p2)) (tPart (tUn (rU fun i => .int (-i)) (tC (.int 1)))) := po_some (pe_un un_neg pe_int)
  refine wpAny_Slice (thn (po_none.run pins s1 σ H1 (fun o H2 => o = none ∧ H2 = H1) I1 ⟨rfl, rfl⟩) fun vl s2 ⟨l, H2, I2, pl, el, e2⟩ => ?_)
  subst el e2
  refine thn (po_none.run pins s2 σ H2 (fun o H3 => o = none ∧ H3 = H2) I2 ⟨rfl, rfl⟩) fun vu s3 ⟨u, H3, I3, pu, eu, e3⟩ => ?_
  subst eu e3
  refine thn (hst.run pins s3 σ H3 (fun o H4 => o = some (-1) ∧ H4 = H3) I3 ⟨1, rfl, -1, rfl, rfl, rfl⟩) fun vs s4 ⟨o, H4, I4, ps, eo, e4⟩ => ?_
  subst eo e4
  have I5 : Inv X pins σ H4 { s4 with heap := s4.heap.push { cls := .type "slice", data := .fields #[vl, vu, vs] } } := I4.kept (t' := s4.toks) fun b ob q => Heap.get?_push_of_some _ q
  rcases q1 with ⟨a, xs, ex, hx, q⟩ | ⟨a, xs, ex, hx, q⟩
  · subst ex
    cases r1
    obtain ⟨its, r, ht, hz⟩ := I5.list hx
    have hlen := r.length
    show wpAny (model X.prog X.w) X.A (subscriptTail e (.Slice none none (some (.UnaryOp .USub (.Constant (.int 1) k p1) p2)) p3) (.ref a) (.ref s4.heap.objs.size)) (EP X pins σ Q) X.xe { s4 with heap := s4.heap.push { cls := .type "slice", data := .fields #[vl, vu, vs] } }
    refine tail_any (ops := [.ref a, .ref s4.heap.objs.size]) ht.isList.typeIs (PySem.slot_list_getitem.lookup) ?_ (by with_unfolding_all rfl)
    refine wpAny_getItem_list_slice ht.isList (Heap.IsSliceOf.new _ vl vu vs) pl pu ps (by decide) ?_ (by rw [List.size_toArray]; omega)
    rw [PySem.W.krv_pick]
    refine ⟨.ref _, _, I5.laid (t' := s4.toks) (o := .lst xs.reverse) (fun b ob q => Heap.get?_push_of_some _ q) (Nat.le_refl _) ?_, rfl, q _ (I5.hok.fresh (Nat.le_refl _))⟩
    exact ⟨by rw [List.length_reverse]; exact hz, _, 0, r.reverse, Heap.get?_push_size _ rfl⟩
  · subst ex
    cases r1
    cases pl; cases pu; cases ps
    obtain ⟨its, r, ht, hz⟩ := I5.tuple hx
    have hlen := r.length
    show wpAny (model X.prog X.w) X.A (subscriptTail e (.Slice none none (some (.UnaryOp .USub (.Constant (.int 1) k p1) p2)) p3) (.ref a) (.ref s4.heap.objs.size)) (EP X pins σ Q) X.xe _
    refine tail_any (ops := [.ref a, .ref s4.heap.objs.size]) ht.typeIs (PyProof.Rows.slot_tuple_getitem.lookup) ?_ (by with_unfolding_all rfl)
    refine getItem_tuple_rev ht (Heap.IsSliceOf.new _ _ _ _) ?_ (by omega)
    exact ⟨.ref _, _, inv_tnew (t' := s4.toks) I5 r.reverse (by rw [List.length_reverse]; exact hz), rfl, q _ _ (I5.hok.fresh (Nat.le_refl _)) rfl⟩
def revD : D → Option D
  | .list ds => some (.list ds.reverse)
  | .tuple ds => some (.tuple ds.reverse)
  | _ => none
def revV (ma : Rho → Option Res) : Rho → Option Res := fun ρ => match ma ρ with
  | some (.ok d) => (revD d).map .ok
  | some (.exc c p) => some (.exc c p)
  | none => none
theorem Dds.rev {K : PySem.W.Frag} {H0 : Hp} : ∀ {ys : List V} {ds : List D}, Dds K H0 ys ds → Dds K H0 ys.reverse ds.reverse
  | _, _, .nil => .nil
  | _, _, .cons h r => by
    rw [List.reverse_cons, List.reverse_cons]
    exact (Dds.rev r).append (.cons h .nil)
theorem je_rev {X : Cx} {xs : List Str} {W : WX} {a : Expr} {sa : Src} {ma : Rho → Option Res} {k : Nat} {p1 p2 p3 pos : Pos} (ha : JE X xs W a sa ma) : JE X xs W (.Subscript a (.Slice none none (some (.UnaryOp .USub (.Constant (.int 1) k p1) p2)) p3) pos) .new (revV ma) := by
  refine pe_of (pe_rev2 ha) fun σ H Q h => ?_
  obtain ⟨en, ρ, H0, rr, p⟩ := h
  refine ⟨en, ρ, H0, rr, ?_⟩
  unfold revV at p
  cases e1 : ma ρ with
  | none => rw [e1] at p; exact p.elim
  | some r1 =>
    rw [e1] at p
    cases r1 with
    | exc c q => exact p
    | ok d1 =>
      intro v H01 H1 x1 z1
      dsimp only at p
      cases d1 with
      | list ds =>
        obtain ⟨b, ys, rfl, r1, k1⟩ := z1.rb.list x1.sub
        exact .inl ⟨b, ys, rfl, .inl r1, fun q n => rs_lst (n := true) x1.sub k1.rev n fun v4 H04 H4 x4 z4 => p v4 H04 H4 (x1.trans x4) (z4.rz x1.s)⟩
      | tuple ds =>
        obtain ⟨b, ys, rfl, r1, k1⟩ := z1.rb.tuple x1.sub
        exact .inr ⟨b, ys, rfl, .inl r1, fun q o n no => rs_tup (n := true) x1.sub k1.rev n no fun v4 H04 H4 x4 z4 => p v4 H04 H4 (x1.trans x4) (z4.rz x1.s)⟩
      | _ => exact p.elim
/-! ### a class whose __init__ raises -/
def tMakeX (C : Addr) (sp : Sp) (E : L2.St → XK) (t : TA) : TE := fun σ H Q => t σ H fun vs H1 => ∀ z dz, H1 z = none → H1 dz = none → dz ≠ z → sp (.ref z :: vs) (upd (upd H1 dz (.own z)) z (.ins C dz [])) (fun v H2 => v = .non ∧ Q (.ref z) H2) (E σ)
theorem pe_makeX {X : Cx} {CX : CXT} {k : Nat} {f C : Addr} {fd : FuncData} {ps : List Str} {sp : Sp} {E : L2.St → XK} {x : Str} {p pos : Pos} {e : Expr} {es : List Expr} {t : TA} (M : Mk X.K C f) (F : FnOk X.prog X.w X.K X.mg X.base CX k f fd ps sp) (hr : Room (k + 1) X.A) (hg : Gl X x) (hm : X.mg x = some (.ref C)) (hb : Binds X.K fd ps []) (hx : ∀ σ, PassesAt CX X σ (E σ))
    (ha : PA X (e :: es) t) (hdb : (x == ("__debug__" : Str)) = false) (he : starEach (e :: es) X.env = (false, eval e X.env) :: starEach es X.env) (hpl : (backTo pos (starEach es X.env)).any (·.1) = false) :
    PE X (.Call (.Name x p) (e :: es) [] pos) (tMakeX C sp E t) := by
  refine ⟨fun pins s σ H Q I h => ?_⟩
  refine wpAny_Call_Name_kw (ld_glob I hg hm ?_ hdb)
  refine PySem.W.callWith_K (h₀ := X.base) I.ok.mod.kin M.kp (thn (ha.run pos pins s σ H _ I h) fun us s1 ⟨vs, H1, I1, r, q⟩ => ⟨I1.kIn, ?_⟩) he hpl
  have g := q (s1.heap.objs.size + 1) s1.heap.objs.size (I1.hok.fresh (Nat.le_succ _)) (I1.hok.fresh (Nat.le_refl _)) (Nat.ne_of_lt (Nat.lt_succ_self _))
  have I2 := Inv.made (C := C) I1
  have r2 : Vals (V.ref (s1.heap.objs.size + 1) :: vs) (Value.ref (s1.heap.objs.size + 1) :: us) := .cons rfl r
  have hl : (Value.ref (s1.heap.objs.size + 1) :: us ++ []).length = ps.length := by
    rw [List.append_nil, ← r2.length]
    exact F.len _ _ _ _ g
  have bd := hb _ (Value.ref (s1.heap.objs.size + 1) :: us) I2.kIn hl
  rw [List.append_nil] at bd
  refine wpAny_call (make_map (f := f) I1.kIn M.makes M.init (beq_iff_eq.mp M.fn) (codeAny_mono (F.run _ X.stack _ _ ⟨Value.ref (s1.heap.objs.size + 1) :: us, []⟩ (Value.ref (s1.heap.objs.size + 1) :: us) _ _ (E σ) (hr.make C us [])
    (I2.env0.make C us []) bd r2 g) fun w s' hq' => ?_))
  cases w with
  | error u => exact hx σ pins _ _ u s' I2 hq'
  | ok fl =>
    cases fl with
    | ret u =>
      obtain ⟨v, H', I3, rv, ev, q3⟩ := I2.after hq'
      subst ev
      exact ⟨rv, ⟨V.ref (s1.heap.objs.size + 1), H', I3, rfl, q3⟩⟩
    | next => exact False.elim hq'
    | brk => exact False.elim hq'
    | cont => exact False.elim hq'
/-- what an __init__ keeps of which only its errors are told -/
def spIn (K : PySem.W.Frag) (mg : Str → Option Value) (xs : List Str) (n : Nat) (phi : List D → Option Res) : Sp := fun vs H _ E => vs.length = n ∧ ∃ (a : Addr) (us : List V) (H0 : Hp) (ds : List D), vs = .ref a :: us ∧ Same H0 H ∧ RBs K H0 H us ds ∧
  match phi ds with
  | some (.exc c p) => ∀ cls dd H0' H', Ext H0 H H0' H' → ExcIs K mg xs c p cls dd H0' H' → E cls dd H'
  | _ => False
/-- an answer is not told, an error is -/
def mkF (f : List D → Option Res) (ma : Rho → Option ResL) : Rho → Option Res := fun ρ => match ma ρ with
  | some (.ok d) => (match f d with
    | some (.exc c p) => some (.exc c p)
    | _ => none)
  | some (.exc c p) => some (.exc c p)
  | none => none
theorem ext_two {H0 H : Hp} {z dz : Addr} {o o' : HO} (s : Same H0 H) (h1 : H z = none) (h2 : H dz = none) : Ext H0 H H0 (upd (upd H dz o) z o') := by
  have s1 : Same H (upd (upd H dz o) z o') := fun b u hb => by
    have n1 : b ≠ z := fun e => by rw [e, h1] at hb; cases hb
    have n2 : b ≠ dz := fun e => by rw [e, h2] at hb; cases hb
    unfold upd
    simp only [n1, n2, if_false]
    exact hb
  exact ⟨Same.refl _, s1, s.trans s1, fun _ _ _ => rfl⟩
theorem je_make {X : Cx} {xs : List Str} {W : WX} {k : Nat} {f C : Addr} {fd : FuncData} {ps : List Str} {x : Str} {p pos : Pos} {e : Expr} {es : List Expr} {phi : List D → Option Res} {ms : Rho → Option ResL} (tk : Takes X W)
    (M : Mk X.K C f) (F : FnOk X.prog X.w X.K X.mg X.base (L2.CX X.prog X.w) k f fd ps (spIn X.K X.mg xs ps.length phi)) (hr : Room (k + 1) X.A) (hg : Gl X x) (hm : X.mg x = some (.ref C)) (hb : Binds X.K fd ps [])
    (ha : JA X xs W (e :: es) ms) (hl : ∀ ρ ds, ms ρ = some (.ok ds) → ds.length + 1 = ps.length) (hdb : (x == ("__debug__" : Str)) = false) (he : starEach (e :: es) X.env = (false, eval e X.env) :: starEach es X.env) (hpl : (backTo pos (starEach es X.env)).any (·.1) = false) :
    JE X xs W (.Call (.Name x p) (e :: es) [] pos) .any (mkF phi ms) := by
  refine pe_of (pe_makeX M F hr hg hm hb (fun σ => passAt tk σ) ha hdb he hpl) fun σ H Q h => ?_
  obtain ⟨en, ρ, H0, rr, p⟩ := h
  refine ⟨en, ρ, H0, rr, ?_⟩
  unfold mkF at p
  cases e1 : ms ρ with
  | none => rw [e1] at p; exact p.elim
  | some r1 =>
    rw [e1] at p
    cases r1 with
    | exc c q => exact p
    | ok d1 =>
      intro v H0' H' x1 z1 z dz hz hdz _
      have x2 : Ext H0' H' H0' (upd (upd H' dz (.own z)) z (.ins C dz [])) := ext_two x1.sub hz hdz
      refine ⟨by rw [List.length_cons, z1.length]; exact hl ρ d1 e1, z, v, H0', d1, rfl, x2.sub, ?_, ?_⟩
      · exact RBs.mono x2 z1
      · dsimp only at p
        cases e3 : phi d1 with
        | none => rw [e3] at p; exact p.elim
        | some r3 =>
          rw [e3] at p
          cases r3 with
          | ok d => exact p.elim
          | exc c q => exact fun cls dd A B x3 z3 => p cls dd A B (x1.trans (x2.trans x3)) z3
end DD

namespace DD
noncomputable section
open PySem PySem.Spec PyProof.Rows L2

/-! ### rows of zip and enumerate as data -/
theorem itok_R {K : PySem.W.Frag} {en : Ent} {rd : Hp → List (List V) → Prop} {rows : List (List V)} {items : List D} {Hs : Hp} (hrd : ∀ H0 H, Same en.H H → Same Hs H0 → Same H0 H → rd H rows)
    (hit : ∀ (i : Nat) d, items[i]? = some d → ∃ row ds, rows[i]? = some row ∧ d = .tuple ds ∧ Dds K Hs row ds) (hl : rows.length = items.length) : ItOk true K en (ItR rd) items Hs where
  go := fun i d H0 H hi e1 e2 e3 => by
    obtain ⟨row, ds, h1, rfl, h3⟩ := hit i d hi
    have hr := hrd H0 H e1 e2 e3
    refine ⟨⟨rows, row, hr, h1⟩, fun x H' hy => ?_⟩
    obtain ⟨T, row', rfl, hT, rfl, hu⟩ := hy
    have := hu rows hr
    rw [h1] at this
    cases this
    have x := ext_newS (o := .tup row) e3 hT
    exact ⟨_, x, .inr ⟨T, row, ds, rfl, rfl, upd_same, h3.mono (e2.trans x.s0)⟩⟩
  stop := fun i H0 H hi e1 e2 e3 => ⟨rows, hrd H0 H e1 e2 e3, by rw [hl, hi]⟩
def seqOf : D → Option (List D)
  | .list ds => some ds
  | .tuple ds => some ds
  | _ => none
def enumL : Nat → List D → List D
  | _, [] => []
  | i, d :: ds => .tuple [.int (i : Nat), d] :: enumL (i + 1) ds
def zipL2 : List D → List D → List D
  | a :: r, b :: s => .tuple [a, b] :: zipL2 r s
  | _, _ => []
def zipL3 : List D → List D → List D → List D
  | a :: r, b :: s, c :: t => .tuple [a, b, c] :: zipL3 r s t
  | _, _, _ => []
theorem enumL_get : ∀ (ds : List D) (k i : Nat), (enumL k ds)[i]? = ds[i]?.map fun d => .tuple [.int ((k + i : Nat)), d]
  | [], k, i => by simp [enumL]
  | x :: xs, k, 0 => by simp [enumL]
  | x :: xs, k, i + 1 => by
    simp only [enumL, List.getElem?_cons_succ]
    rw [enumL_get xs (k + 1) i, show k + 1 + i = k + (i + 1) by omega]
theorem enumL_len : ∀ (xs : List D) (k : Nat), (enumL k xs).length = xs.length
  | [], k => rfl
  | x :: xs, k => by rw [enumL, List.length_cons, enumL_len xs, List.length_cons]
theorem zipL2_get : ∀ {a b : List D} {i : Nat} {d : D}, (zipL2 a b)[i]? = some d → ∃ x y, a[i]? = some x ∧ b[i]? = some y ∧ d = .tuple [x, y]
  | x :: xs, y :: ys, 0, d, h => by
    simp [zipL2] at h
    exact ⟨x, y, rfl, rfl, h.symm⟩
  | x :: xs, y :: ys, i + 1, d, h => by
    simp only [zipL2, List.getElem?_cons_succ] at h ⊢
    exact zipL2_get h
  | [], _, _, _, h => by simp [zipL2] at h
  | _ :: _, [], _, _, h => by simp [zipL2] at h
theorem zipL2_len : ∀ (a b : List D), (zipL2 a b).length = min a.length b.length
  | x :: xs, y :: ys => by
    rw [zipL2, List.length_cons, zipL2_len xs ys, List.length_cons, List.length_cons]
    omega
  | [], _ => by simp [zipL2]
  | _ :: _, [] => by simp [zipL2]
theorem zipL3_get : ∀ {a b c : List D} {i : Nat} {d : D}, (zipL3 a b c)[i]? = some d → ∃ x y z, a[i]? = some x ∧ b[i]? = some y ∧ c[i]? = some z ∧ d = .tuple [x, y, z]
  | x :: xs, y :: ys, z :: zs, 0, d, h => by
    simp [zipL3] at h
    exact ⟨x, y, z, rfl, rfl, rfl, h.symm⟩
  | x :: xs, y :: ys, z :: zs, i + 1, d, h => by
    simp only [zipL3, List.getElem?_cons_succ] at h ⊢
    exact zipL3_get h
  | [], _, _, _, _, h => by simp [zipL3] at h
  | _ :: _, [], _, _, _, h => by simp [zipL3] at h
  | _ :: _, _ :: _, [], _, _, h => by simp [zipL3] at h
theorem zipL3_len : ∀ (a b c : List D), (zipL3 a b c).length = min (min a.length b.length) c.length
  | x :: xs, y :: ys, z :: zs => by
    rw [zipL3, List.length_cons, zipL3_len xs ys zs, List.length_cons, List.length_cons, List.length_cons]
    omega
  | [], _, _ => by simp [zipL3]
  | _ :: _, [], _ => by simp [zipL3]
  | _ :: _, _ :: _, [] => by simp [zipL3]
/-! ### what stays as it is while a loop runs: settled, or a list of the caller's -/
def Stab (K : PySem.W.Frag) (en : Ent) (H0 H : Hp) (v : V) (d : D) : Prop := Dd K H0 v d ∨ ∃ a ys ds, v = .ref a ∧ d = .list ds ∧ en.H a = some (.lst ys) ∧ H a = some (.lst ys) ∧ Dds K H0 ys ds
theorem Stab.mono {K : PySem.W.Frag} {en : Ent} {H0 H H0' H' : Hp} {v : V} {d : D} (e : Ext H0 H H0' H') (h : Stab K en H0 H v d) : Stab K en H0' H' v d := by
  rcases h with h | ⟨a, ys, ds, h1, h2, h3, h4, h5⟩
  · exact .inl (h.mono e.s0)
  · exact .inr ⟨a, ys, ds, h1, h2, h3, e.s _ _ h4, h5.mono e.s0⟩
def Stabs (K : PySem.W.Frag) (en : Ent) (H0 H : Hp) : List V → List D → Prop := Paired (Stab K en H0 H)
def keepB (src : Src) (m : Rho → Option Res) : Rho → Option Res := fun ρ => match src with
  | .slot i => (match ρ[i]? with
    | some (some (.dat, d)) => some (.ok d)
    | some (some (.bor, d)) => if isDict d = true then none else some (.ok d)
    | _ => none)
  | _ => m ρ
section
variable (K : PySem.W.Frag) (mg : Str → Option Value) (xs : List Str) (W : WX)
def PostZ (en : Ent) (σ : L2.St) (H0 H : Hp) (Q : VK) : Option Res → Prop
  | none => False
  | some (.ok d) => ∀ v H0' H', Ext H0 H H0' H' → Stab K en H0' H' v d → Q v H'
  | some (.exc c p) => ∀ cls dd H0' H', Ext H0 H H0' H' → ExcIs K mg xs c p cls dd H0' H' → W cls dd σ H'
def TauZ (m : Rho → Option Res) : TE := fun σ H Q => ∃ en ρ H0, R K en ρ H0 σ H ∧ PostZ K mg xs W en σ H0 H Q (m ρ)
def PostAZ (en : Ent) (σ : L2.St) (H0 H : Hp) (Q : List V → Hp → Prop) : Option ResL → Prop
  | none => False
  | some (.ok ds) => ∀ vs H0' H', Ext H0 H H0' H' → Stabs K en H0' H' vs ds → Q vs H'
  | some (.exc c p) => ∀ cls dd H0' H', Ext H0 H H0' H' → ExcIs K mg xs c p cls dd H0' H' → W cls dd σ H'
def TauAZ (m : Rho → Option ResL) : TA := fun σ H Q => ∃ en ρ H0, R K en ρ H0 σ H ∧ PostAZ K mg xs W en σ H0 H Q (m ρ)
end
def JZ (X : Cx) (xs : List Str) (W : WX) (e : Expr) (m : Rho → Option Res) : Prop := PE X e (TauZ X.K X.mg xs W m)
def JAZ (X : Cx) (xs : List Str) (W : WX) (es : List Expr) (m : Rho → Option ResL) : Prop := PA X es (TauAZ X.K X.mg xs W m)
section
variable {X : Cx} {xs : List Str} {W : WX} {a : Expr} {sa : Src} {ma : Rho → Option Res}
theorem jz_of (ha : JE X xs W a sa ma) (hs : ∀ i, sa = .slot i → ma = fun ρ => slotVal ρ i) : JZ X xs W a (keepB sa ma) := by
  have hd := jd_of ha hs
  cases sa with
  | new =>
    refine pe_of hd fun σ H Q h => ?_
    obtain ⟨en, ρ, H0, rr, p⟩ := h
    refine ⟨en, ρ, H0, rr, ?_⟩
    have p : PostZ X.K X.mg xs W en σ H0 H Q (ma ρ) := p
    show PostD X.K X.mg xs W σ H0 H Q (ma ρ)
    cases e1 : ma ρ with
    | none => rw [e1] at p; exact p.elim
    | some r1 =>
      rw [e1] at p
      cases r1 with
      | exc c q => exact p
      | ok d => exact fun v A B x z => p v A B x (.inl z)
  | any =>
    refine pe_of hd fun σ H Q h => ?_
    obtain ⟨en, ρ, H0, rr, p⟩ := h
    refine ⟨en, ρ, H0, rr, ?_⟩
    have p : PostZ X.K X.mg xs W en σ H0 H Q (ma ρ) := p
    show PostD X.K X.mg xs W σ H0 H Q (ma ρ)
    cases e1 : ma ρ with
    | none => rw [e1] at p; exact p.elim
    | some r1 =>
      rw [e1] at p
      cases r1 with
      | exc c q => exact p
      | ok d => exact fun v A B x z => p v A B x (.inl z)
  | slot i =>
    refine pe_of ha fun σ H Q h => ?_
    obtain ⟨en, ρ, H0, rr, p⟩ := h
    refine ⟨en, ρ, H0, rr, ?_⟩
    rw [hs i rfl]
    unfold keepB at p
    dsimp only at p
    show PostR X.K X.mg xs W (.slot i) σ H0 H Q (slotVal ρ i)
    unfold slotVal
    cases e0 : ρ[i]? with
    | none => rw [e0] at p; exact p.elim
    | some s0 =>
      rw [e0] at p
      cases s0 with
      | none => exact p.elim
      | some fd =>
        obtain ⟨fl, d⟩ := fd
        obtain ⟨w, h1, h2⟩ := rr.slot i fl d e0
        cases fl with
        | own => exact p.elim
        | io => exact p.elim
        | dat =>
          intro v H0' H' x1 z1
          refine p v H0' H' x1 (.inl ?_)
          rcases z1 with z1 | ⟨b, rfl, mo, z⟩
          · exact z1
          · have z' : σ[i]? = some (some (.ref b)) := z
            rw [h1] at z'
            cases z'
            exact Dd.mono x1.s0 h2
        | bor =>
          dsimp only at p
          split at p
          · exact p.elim
          · rename_i hnd
            intro v H0' H' x1 z1
            refine p v H0' H' x1 ?_
            rcases z1 with z1 | ⟨b, rfl, mo, z⟩
            · exact .inl z1
            · have z' : σ[i]? = some (some (.ref b)) := z
              rw [h1] at z'
              cases z'
              rcases h2 with h2 | ⟨b', eb, mo', o, ho⟩
              · exact .inl (h2.mono x1.s0)
              · cases eb
                cases mo' with
                | lst k1 k2 k3 =>
                  rename_i ys ds
                  have eo : o = .lst ys := by
                    have := rr.e1 b o ho
                    rw [k2] at this
                    cases this
                    rfl
                  subst eo
                  exact .inr ⟨b, ys, ds, rfl, rfl, ho, x1.s _ _ k2, k3.mono x1.s0⟩
                | dic k1 k2 k3 => exact absurd rfl hnd
                | kd k1 k2 k3 k4 => exact absurd rfl hnd
theorem jaz_nil : JAZ X xs W [] (fun _ => some (.ok [])) := by
  refine pa_of pa_nil fun σ H Q h => ?_
  obtain ⟨en, ρ, H0, r, p⟩ := h
  exact p [] H0 H (Ext.refl r.sub) .nil
theorem Stabs.mono {K : PySem.W.Frag} {en : Ent} {H0 H H0' H' : Hp} (e : Ext H0 H H0' H') : ∀ {vs : List V} {ds : List D}, Stabs K en H0 H vs ds → Stabs K en H0' H' vs ds
  | _, _, .nil => .nil
  | _, _, .cons h r => .cons (h.mono e) (Stabs.mono e r)
theorem jaz_cons {e : Expr} {es : List Expr} {m : Rho → Option Res} {ms : Rho → Option ResL} (he : JZ X xs W e m) (hr : JAZ X xs W es ms) (hs : starEach (e :: es) X.env = (false, eval e X.env) :: starEach es X.env) : JAZ X xs W (e :: es) (consA m ms) := by
  refine pa_of (pa_cons he hr hs) fun σ H Q h => ?_
  obtain ⟨en, ρ, H0, rr, p⟩ := h
  refine ⟨en, ρ, H0, rr, ?_⟩
  unfold consA at p
  cases e1 : m ρ with
  | none => rw [e1] at p; exact p.elim
  | some r1 =>
    rw [e1] at p
    cases r1 with
    | exc c q => exact p
    | ok d1 =>
      intro v H0' H' x1 z1
      refine ⟨en, ρ, H0', rr.mono x1, ?_⟩
      simp only at p
      cases e2 : ms ρ with
      | none => rw [e2] at p; exact p.elim
      | some r2 =>
        rw [e2] at p
        cases r2 with
        | exc c q => exact fun cls dd A B x2 z2 => p cls dd A B (x1.trans x2) z2
        | ok d2 => exact fun vs H02 H2 x2 z2 => p (v :: vs) H02 H2 (x1.trans x2) (.cons (z1.mono x2) z2)
end
/-- a list or tuple that stays, as a source -/
theorem src_dd {K : PySem.W.Frag} {en : Ent} {H0 H' : Hp} {v : V} {d : D} {ds : List D} (h : Stab K en H0 H' v d) (e : seqOf d = some ds) : ∃ k a ys, v = .ref a ∧ Dds K H0 ys ds ∧ (∀ H, Same en.H H → Same H0 H → SqS k K H a ys) ∧ (Same H0 H' → SqS k K H' a ys) := by
  rcases h with h | ⟨a, ys, es, rfl, rfl, h3, h4, h5⟩
  · cases h with
    | lst h1 h2 =>
      cases e
      exact ⟨true, _, _, rfl, h2, fun H _ s => .inl (same_rd s h1), fun s => .inl (same_rd s h1)⟩
    | tup h1 z h2 =>
      cases e
      exact ⟨false, _, _, rfl, h2, fun H _ s => .inl (.inr ⟨_, s _ _ h1⟩), fun s => .inl (.inr ⟨_, s _ _ h1⟩)⟩
    | _ => cases e
  · cases e
    exact ⟨true, a, ys, rfl, h5, fun H s _ => .inl (.inl (s _ _ h3)), fun s => .inl (.inl h4)⟩
def enumI (m : Rho → Option ResL) : Rho → Option ResL := fun ρ => match m ρ with
  | some (.ok [d]) => (match seqOf d with
    | some ds => some (.ok (enumL 0 ds))
    | none => none)
  | some (.exc c p) => some (.exc c p)
  | _ => none
def zipI (m : Rho → Option ResL) : Rho → Option ResL := fun ρ => match m ρ with
  | some (.ok [d, e]) => (match seqOf d, seqOf e with
    | some ds, some es => some (.ok (zipL2 ds es))
    | _, _ => none)
  | some (.ok [d, e, f]) => (match seqOf d, seqOf e, seqOf f with
    | some ds, some es, some fs => some (.ok (zipL3 ds es fs))
    | _, _, _ => none)
  | some (.exc c p) => some (.exc c p)
  | _ => none
section
variable {X : Cx} {xs : List Str} {W : WX} {p pos tpos : Pos} {elts : List Expr} {kk : Nat} {ms : Rho → Option ResL}
theorem ji_enum {e : Expr} (hg : Gl X "enumerate") (hm : X.mg "enumerate" = none) (ha : JAZ X xs W [e] ms) (hs : starEach [e] X.env = [(false, eval e X.env)]) (h1 : ∀ ρ ds, ms ρ = some (.ok ds) → ds.length = 1) :
    JI true X xs W (.Tuple elts kk tpos) (.Call (.Name "enumerate" p) [e] [] pos) (enumI ms) := by
  refine pi_of (pi_enumS hg hm ha hs) fun σ H Rr h => ?_
  obtain ⟨en, ρ, H0, rr, p⟩ := h
  refine ⟨en, ρ, H0, rr, ?_⟩
  unfold enumI at p
  cases e1 : ms ρ with
  | none => rw [e1] at p; exact p.elim
  | some r1 =>
    rw [e1] at p
    cases r1 with
    | exc c q => exact p
    | ok ds =>
      intro vs H0' H' x1 z1
      have hl := h1 ρ ds e1
      match ds, hl with
      | [d], _ =>
        cases z1 with
        | cons hv hn =>
          cases hn
          dsimp only at p
          cases e2 : seqOf d with
          | none => rw [e2] at p; exact p.elim
          | some es =>
            rw [e2] at p
            obtain ⟨k, a, ys, rfl, hd, hq, hqq⟩ := src_dd hv e2
            refine ⟨k, a, ys, rfl, hqq x1.sub, fun hz => p _ H0' H' x1 (itok_R (rows := rowsE 0 ys) (fun A B s0 s1 s2 => ⟨ys, hq _ s0 (s1.trans s2), rfl⟩) (fun i d' hd' => ?_) ?_) ?_⟩
            · rw [enumL_get] at hd'
              cases e3 : es[i]? with
              | none => rw [e3] at hd'; cases hd'
              | some x =>
                rw [e3] at hd'
                cases hd'
                obtain ⟨v', g1, g2⟩ := hd.get e3
                exact ⟨_, _, by rw [rowsE_get, g1]; rfl, rfl, .cons (.int _) (.cons g2 .nil)⟩
            · rw [rowsE_len, enumL_len, hd.length]
            · rw [enumL_len, ← hd.length]; exact hz
theorem ji_zip2 {e e2 : Expr} (hg : Gl X "zip") (hm : X.mg "zip" = none) (ha : JAZ X xs W [e, e2] ms) (hs : starEach [e, e2] X.env = (false, eval e X.env) :: starEach [e2] X.env) (hpl : (backTo pos (starEach [e2] X.env)).any (·.1) = false)
    (h1 : ∀ ρ ds, ms ρ = some (.ok ds) → ds.length = 2) : JI true X xs W (.Tuple elts kk tpos) (.Call (.Name "zip" p) [e, e2] [] pos) (zipI ms) := by
  refine pi_of (pi_zip2S hg hm ha hs hpl) fun σ H Rr h => ?_
  obtain ⟨en, ρ, H0, rr, p⟩ := h
  refine ⟨en, ρ, H0, rr, ?_⟩
  unfold zipI at p
  cases e1 : ms ρ with
  | none => rw [e1] at p; exact p.elim
  | some r1 =>
    rw [e1] at p
    cases r1 with
    | exc c q => exact p
    | ok ds =>
      intro vs H0' H' x1 z1
      have hl := h1 ρ ds e1
      match ds, hl with
      | [d, d2], _ =>
        cases z1 with
        | cons hv hn =>
          cases hn with
          | cons hv2 hn =>
            cases hn
            dsimp only at p
            cases e2 : seqOf d with
            | none => rw [e2] at p; exact p.elim
            | some es =>
              cases e3 : seqOf d2 with
              | none => rw [e2, e3] at p; exact p.elim
              | some fs =>
                rw [e2, e3] at p
                obtain ⟨k, a, ys, rfl, hd, hq, hqq⟩ := src_dd hv e2
                obtain ⟨k2, b, zs, rfl, hd2, hq2, hqq2⟩ := src_dd hv2 e3
                refine ⟨k, k2, a, b, ys, zs, rfl, hqq x1.sub, hqq2 x1.sub, fun hz => p _ H0' H' x1 (itok_R (rows := rows2 ys zs) (fun A B s0 s1 s2 => ⟨ys, zs, hq _ s0 (s1.trans s2), hq2 _ s0 (s1.trans s2), rfl⟩) (fun i d' hd' => ?_) ?_) ?_⟩
                · obtain ⟨x, y, g1, g2, rfl⟩ := zipL2_get hd'
                  obtain ⟨v', j1, j2⟩ := hd.get g1
                  obtain ⟨w', k1, k2⟩ := hd2.get g2
                  exact ⟨[v', w'], _, by unfold rows2; rw [List.getElem?_zipWith, j1, k1], rfl, .cons j2 (.cons k2 .nil)⟩
                · unfold rows2
                  rw [List.length_zipWith, zipL2_len, hd.length, hd2.length]
                · rw [zipL2_len, ← hd.length]; omega
theorem rows3_at : ∀ {a b c : List V} {i : Nat} {x y z : V}, a[i]? = some x → b[i]? = some y → c[i]? = some z → (rows3 a b c)[i]? = some [x, y, z]
  | p :: a, q :: b, r :: c, 0, x, y, z, h1, h2, h3 => by
    simp at h1 h2 h3
    subst h1 h2 h3
    rfl
  | p :: a, q :: b, r :: c, i + 1, x, y, z, h1, h2, h3 => by
    simp only [rows3, List.getElem?_cons_succ] at h1 h2 h3 ⊢
    exact rows3_at h1 h2 h3
  | [], _, _, _, _, _, _, h, _, _ => by simp at h
  | _ :: _, [], _, _, _, _, _, _, h, _ => by simp at h
  | _ :: _, _ :: _, [], _, _, _, _, _, _, h => by simp at h
theorem ji_zip3 {e e2 e3 : Expr} (hg : Gl X "zip") (hm : X.mg "zip" = none) (ha : JAZ X xs W [e, e2, e3] ms) (hs : starEach [e, e2, e3] X.env = (false, eval e X.env) :: starEach [e2, e3] X.env) (hpl : (backTo pos (starEach [e2, e3] X.env)).any (·.1) = false)
    (h1 : ∀ ρ ds, ms ρ = some (.ok ds) → ds.length = 3) : JI true X xs W (.Tuple elts kk tpos) (.Call (.Name "zip" p) [e, e2, e3] [] pos) (zipI ms) := by
  refine pi_of (pi_zip3S hg hm ha hs hpl) fun σ H Rr h => ?_
  obtain ⟨en, ρ, H0, rr, p⟩ := h
  refine ⟨en, ρ, H0, rr, ?_⟩
  unfold zipI at p
  cases e1 : ms ρ with
  | none => rw [e1] at p; exact p.elim
  | some r1 =>
    rw [e1] at p
    cases r1 with
    | exc c q => exact p
    | ok ds =>
      intro vs H0' H' x1 z1
      have hl := h1 ρ ds e1
      match ds, hl with
      | [d, d2, d3], _ =>
        cases z1 with
        | cons hv hn =>
          cases hn with
          | cons hv2 hn =>
            cases hn with
            | cons hv3 hn =>
              cases hn
              dsimp only at p
              cases e2 : seqOf d with
              | none => rw [e2] at p; exact p.elim
              | some es =>
                cases e3 : seqOf d2 with
                | none => rw [e2, e3] at p; exact p.elim
                | some fs =>
                  cases e4 : seqOf d3 with
                  | none => rw [e2, e3, e4] at p; exact p.elim
                  | some gs =>
                    rw [e2, e3, e4] at p
                    obtain ⟨k, a, ys, rfl, hd, hq, hqq⟩ := src_dd hv e2
                    obtain ⟨k2, b, zs, rfl, hd2, hq2, hqq2⟩ := src_dd hv2 e3
                    obtain ⟨k3, c, us, rfl, hd3, hq3, hqq3⟩ := src_dd hv3 e4
                    refine ⟨k, k2, k3, a, b, c, ys, zs, us, rfl, hqq x1.sub, hqq2 x1.sub, hqq3 x1.sub, fun hz => p _ H0' H' x1 (itok_R (rows := rows3 ys zs us) (fun A B s0 s1 s2 => ⟨ys, zs, us, hq _ s0 (s1.trans s2), hq2 _ s0 (s1.trans s2), hq3 _ s0 (s1.trans s2), rfl⟩) (fun i d' hd' => ?_) ?_) ?_⟩
                    · obtain ⟨x, y, z, g1, g2, g3, rfl⟩ := zipL3_get hd'
                      obtain ⟨v', j1, j2⟩ := hd.get g1
                      obtain ⟨w', k1, k2⟩ := hd2.get g2
                      obtain ⟨t', l1, l2⟩ := hd3.get g3
                      exact ⟨[v', w', t'], _, rows3_at j1 k1 l1, rfl, .cons j2 (.cons k2 (.cons l2 .nil))⟩
                    · rw [rows3_len, zipL3_len, hd.length, hd2.length, hd3.length]
                    · rw [zipL3_len, ← hd.length]; omega
end
end
end DD

namespace DD
noncomputable section
open PySem PySem.Spec PyProof.Rows L2

/-! ### dicts: k in d, d[k] -/
section
variable {X : Cx}
def rDin (neg : Bool) : R2 := fun x y H Q => ∃ (a : Addr) (kvs : List (Key × V)) (k : Key), x = kV k ∧ y = .ref a ∧ Rd H a (.dK kvs) ∧ Q (.bl (if neg then !(valV kvs k).isSome else (valV kvs k).isSome)) H
theorem op_din (hu : X.A.units + 1 < cLine) : OpR X (compareOp .In) (rDin false) := by
  intro pins s σ H x y v u Q I rx ry ⟨a, kvs, k, ex, ey, hd, q⟩
  subst ex ey
  cases ry
  exact d_in hu I (.inl ⟨kvs, k, hd, rfl, rfl⟩) rx fun s3 I3 => ⟨.bl (valV kvs k).isSome, H, I3, rfl, q⟩
theorem op_dnotin (hu : X.A.units + 1 < cLine) : OpR X (compareOp .NotIn) (rDin true) := by
  intro pins s σ H x y v u Q I rx ry ⟨a, kvs, k, ex, ey, hd, q⟩
  subst ex ey
  cases ry
  exact d_notIn hu I (.inl ⟨kvs, k, hd, rfl, rfl⟩) rx fun s3 I3 => ⟨.bl (!(valV kvs k).isSome), H, I3, rfl, q⟩
def rDix : R2 := fun x y H Q => ∃ (a : Addr) (kvs : List (Key × V)) (k : Key) (z : V), x = .ref a ∧ y = kV k ∧ Rd H a (.dK kvs) ∧ valV kvs k = some z ∧ Q z H
theorem ix_dict (hu : X.A.units + 1 < cLine) : IxR X rDix := by
  intro value slice pins s σ H x y v u Q I rx ry ⟨a, kvs, k, z, ex, ey, hd, hz, q⟩ hs
  subst ex ey
  cases rx
  have g : DGet H a (kV k) (some z) := .inl ⟨kvs, k, hd, rfl, hz.symm⟩
  exact tail_any (dict_typeIs I g) F.slot_dict_getitem.lookup (d_getItem hu I g ry fun w' s3 I3 rw' => ⟨z, H, I3, rw', q⟩) hs
end
/-! ### dicts whose keys are tuples: k in d, d[k] -/
mutual
theorem keyN_is {P : Program} {w : World} {K : PySem.W.Frag} {H : Hp} {h : Heap} (ok : HOk P w H h) : ∀ {d : D} {v : V} {u : Value} {k : NestedKey}, Dd K H v d → RelV v u → keyN d = some k → NestedIs h k u
  | .int i, _, u, _, hd, hr, hk => by
    unfold keyN at hk
    cases hk
    cases hd
    obtain ⟨t, rfl⟩ := (show ∃ t, u = Value.int i t from hr)
    exact .int i t
  | .tuple ds, _, u, _, hd, hr, hk => by
    unfold keyN at hk
    cases e : keyNs ds with
    | none => rw [e] at hk; cases hk
    | some ks =>
      rw [e] at hk
      cases hk
      cases hd with
      | tup ha hn hs =>
        rename_i a o ys
        cases (show u = Value.ref a from hr)
        obtain ⟨_, _, its, rv, ob, h1, h2, n, h3⟩ := (show ObjOk P w H h a (.frz o (.tup ys)) from ok a _ ha)
        exact .tup h1 h2 h3 (keyNs_is ok hs rv e)
  | .none, _, _, _, _, _, hk => by unfold keyN at hk; cases hk
  | .bool _, _, _, _, _, _, hk => by unfold keyN at hk; cases hk
  | .str _, _, _, _, _, _, hk => by unfold keyN at hk; cases hk
  | .list _, _, _, _, _, _, hk => by unfold keyN at hk; cases hk
  | .dict _, _, _, _, _, _, hk => by unfold keyN at hk; cases hk
theorem keyNs_is {P : Program} {w : World} {K : PySem.W.Frag} {H : Hp} {h : Heap} (ok : HOk P w H h) : ∀ {ds : List D} {vs : List V} {us : List Value} {ks : List NestedKey}, Dds K H vs ds → Vals vs us → keyNs ds = some ks → NestedAll h ks us
  | [], _, _, _, hd, hr, hk => by
    unfold keyNs at hk
    cases hk
    cases hd
    cases hr
    exact .nil
  | d :: ds, _, _, _, hd, hr, hk => by
    unfold keyNs at hk
    cases e : keyN d with
    | none => rw [e] at hk; cases hk
    | some k =>
      rw [e] at hk
      dsimp only at hk
      cases e2 : keyNs ds with
      | none => rw [e2] at hk; cases hk
      | some ks =>
        rw [e2] at hk
        cases hk
        cases hd with
        | cons h1 h2 =>
          cases hr with
          | cons r1 r2 => exact .cons (keyN_is ok h1 r1 e) (keyNs_is ok h2 r2 e2)
end
theorem keyT_is {P : Program} {w : World} {K : PySem.W.Frag} {H : Hp} {h : Heap} (ok : HOk P w H h) {d : D} {b : Addr} {k : NestedKey} (hd : Dd K H (.ref b) d) (hk : keyT d = some k) : (nestedKind P w).is h k b :=
  ⟨keyN_is ok hd rfl (keyT_N hk).1, (keyT_N hk).2.1⟩
theorem Kdk.keys {P : Program} {w : World} {K : PySem.W.Frag} {H : Hp} {h : Heap} (ok : HOk P w H h) : ∀ {xs : List (NestedKey × Addr × Value)} {ds : List (D × D)}, Kdk K H xs ds → ∀ x ∈ xs, (nestedKind P w).is h x.1 x.2.1
  | _, _, .nil, x, hx => nomatch hx
  | _, _, .cons h1 h2 _ _ r, x, hx => by
    rcases List.mem_cons.mp hx with rfl | hx
    · exact keyT_is ok h1 h2
    · exact Kdk.keys ok r x hx
theorem Kdk.entries {P P' : Program} {w w' : World} {K : PySem.W.Frag} {H : Hp} : ∀ {xs : List (NestedKey × Addr × Value)} {ds : List (D × D)}, Kdk K H xs ds → xs.map (entryOfKey (nestedKind P w)) = xs.map (entryOfKey (nestedKind P' w'))
  | _, _, .nil => rfl
  | _, _, .cons (k := k) (b := b) (u := u) h1 h2 _ _ r => by
    rw [List.map_cons, List.map_cons, Kdk.entries (P := P) (P' := P') (w := w) (w' := w') r]
    have e : entryOfKey (nestedKind P w) (k, b, u) = entryOfKey (nestedKind P' w') (k, b, u) := by
      show DictEntry.mk (k.hash w) _ _ = DictEntry.mk (k.hash w') _ _
      rw [keyN_hash w w' (keyT_N h2).1]
    rw [e]
theorem KdAt.of {P : Program} {w : World} {K : PySem.W.Frag} {H : Hp} {h : Heap} {a : Addr} {xs : List (NestedKey × Addr × Value)} {ds : List (D × D)} (ok : HOk P w H h) (x : KdAt K H a xs ds) : (a == sysModules) = false ∧ xs.length ≤ sizeLine ∧ h.DictOfH (nestedKind P w) a xs := by
  obtain ⟨kd, ⟨oc, e, f⟩ | ⟨e, rfl⟩⟩ := x
  · have hg : h.get? a = some oc := (ok a _ e).1
    obtain ⟨es, ep, h1, h2⟩ := f.es
    exact ⟨f.nsm, f.len, oc, es, ep, hg, f.ex, h1, h2 P w, kd.keys ok, f.nd⟩
  · obtain ⟨z, hd, vs, rel, dd⟩ := dk_rd ok e
    refine ⟨hd, Nat.zero_le _, ?_⟩
    have ev : vs = [] := by
      have := rel.length
      cases vs with
      | nil => rfl
      | cons _ _ => simp at this
    subst ev
    obtain ⟨o, es, ep, h1, h2, h3, _, h5, _⟩ := dd
    have ee : es.toList = [] := by
      cases q : es.toList with
      | nil => rfl
      | cons c r => rw [q] at h5; cases h5
    exact ⟨o, es, ep, h1, h2, h3, ee, ⟨fun x hx => absurd hx List.not_mem_nil, List.nodup_nil⟩⟩
section
variable {X : Cx}
theorem k_room (hu : X.A.units + 64 < cLine) : (nestedKind X.prog X.w).room X.A.in1 := by
  show X.A.units + 1 + 8 < cLine
  omega
def rKin (K : PySem.W.Frag) (neg : Bool) : R2 := fun x y H Q => ∃ (a b : Addr) (k : NestedKey) (kd : D) (xs : List (NestedKey × Addr × Value)) (ds : List (D × D)), x = .ref b ∧ y = .ref a ∧ Dd K H (.ref b) kd ∧ keyT kd = some k ∧ KdAt K H a xs ds ∧ Q (.bl (if neg then !(atKey xs k).isSome else (atKey xs k).isSome)) H
theorem op_kin (hu : X.A.units + 64 < cLine) : OpR X (compareOp .In) (rKin X.K false) := by
  intro pins s σ H x y v u Q I rx ry ⟨a, b, k, kd, xs, ds, ex, ey, hk, ek, hd, q⟩
  subst ex ey
  cases rx
  cases ry
  obtain ⟨n1, n2, dd⟩ := hd.of I.hok
  exact wpAny_in_heap (k_room hu) (keyT_is I.hok hk ek) n1 dd ⟨.bl _, H, I.tok _, rfl, q⟩
theorem op_knotin (hu : X.A.units + 64 < cLine) : OpR X (compareOp .NotIn) (rKin X.K true) := by
  intro pins s σ H x y v u Q I rx ry ⟨a, b, k, kd, xs, ds, ex, ey, hk, ek, hd, q⟩
  subst ex ey
  cases rx
  cases ry
  obtain ⟨n1, n2, dd⟩ := hd.of I.hok
  exact wpAny_notIn_heap (k_room hu) (keyT_is I.hok hk ek) n1 dd ⟨.bl _, H, I.tok _, rfl, q⟩
def rKix (K : PySem.W.Frag) : R2 := fun x y H Q => ∃ (a b c : Addr) (k : NestedKey) (kd : D) (xs : List (NestedKey × Addr × Value)) (ds : List (D × D)) (z : V) (u : Value), x = .ref a ∧ y = .ref b ∧ Dd K H (.ref b) kd ∧ keyT kd = some k ∧ KdAt K H a xs ds ∧ atKey xs k = some (c, u) ∧ RelV z u ∧ Q z H
theorem ix_keyed (hu : X.A.units + 64 < cLine) : IxR X (rKix X.K) := by
  intro value slice pins s σ H x y v u Q I rx ry ⟨a, b, c, k, kd, xs, ds, z, u', ex, ey, hk, ek, hd, hz, rz, q⟩ hs
  subst ex ey
  cases rx
  cases ry
  obtain ⟨n1, n2, dd⟩ := hd.of I.hok
  exact tail_any dd.typeIs F.slot_dict_getitem.lookup (wpAny_getItem_heap (k_room hu) (keyT_is I.hok hk ek) dd hz ⟨z, H, I.tok _, rz, q⟩) hs
end
theorem RB.keyT {K : PySem.W.Frag} {H0 H : Hp} {v : V} {d : D} {k : NestedKey} (s : Same H0 H) (h : RB K H0 H v d) (e : DD.keyT d = some k) : ∃ b, v = .ref b ∧ Dd K H0 (.ref b) d := by
  obtain ⟨es, rfl⟩ := keyT_tup e
  rcases h with h | ⟨a, _, m⟩
  · cases h with
    | tup h1 h2 h3 => exact ⟨_, rfl, .tup h1 h2 h3⟩
  · cases m
/-- list(d): the keys -/
theorem keys_get {P : Program} {w : World} : ∀ {xs : List (NestedKey × Addr × Value)} {us : List Value}, us.length = xs.length → (∀ (i : Nat) u x, us[i]? = some u → xs[i]? = some x → u = Value.ref x.2.1) → Vals (xs.map fun x => V.ref x.2.1) us
  | [], [], _, _ => .nil
  | [], _ :: _, h, _ => by simp at h
  | _ :: _, [], h, _ => by simp at h
  | x :: xs, u :: us, h, f => .cons (f 0 u x rfl rfl) (keys_get (P := P) (w := w) (by simpa using h) fun i v y h1 h2 => f (i + 1) v y (by simpa using h1) (by simpa using h2))
theorem call_listK {X : Cx} (hc : X.calm = true) : CallR X (.type "list") (rListK X.K) := by
  intro pins s σ H xs us Q I r ⟨a, ys, ds, ex, hd, q⟩
  subst ex
  obtain ⟨u, eu, rx⟩ := vals1 r
  subst eu
  cases rx
  obtain ⟨n1, n2, dd⟩ := hd.of I.hok
  obtain ⟨es, ep, hr, hs, he⟩ := dd.raw
  refine PySem.W.kdl_call (KdlSrc.rawDict n1) (I.ok.hd hc) hr (by rw [hs]; exact n2) fun h' tk acc c' hk hD hacc => ?_
  have hv : Vals (ys.map fun x => V.ref x.2.1) acc.toList := keys_get (P := X.prog) (w := X.w) (by rw [Array.length_toList, hacc.1, hs]) fun j v x e e2 => by
    obtain ⟨hi, rfl⟩ := hacc.2 j v (by rw [← Array.getElem?_toList]; exact e)
    obtain ⟨y, hy, h1, h2, h3⟩ := he j hi
    rw [e2] at hy
    cases hy
    exact h1
  exact ⟨.ref s.heap.objs.size, upd H s.heap.objs.size (.lst (ys.map fun x => V.ref x.2.1)), I.laid (t' := tk) hk (Nat.le_refl _)
    (show ObjOk X.prog X.w _ _ _ (.lst (ys.map fun x => V.ref x.2.1)) from ⟨by rw [List.length_map]; exact n2, acc.toList, c', hv, by rw [Array.toArray_toList]; exact hD⟩), rfl, q _ (I.hok.fresh (Nat.le_refl _))⟩
def dinD (x : D) (ds : List (D × D)) : Option Bool := match dkey x with
  | some _ => if isK ds = true then none else some (dgetL ds x).isSome
  | none => (match keyT x with
    | some _ => if tupK ds = true then some (dgetL ds x).isSome else none
    | none => none)
theorem kV_dd {K : PySem.W.Frag} {H0 H : Hp} {v : V} {d : D} {k : Key} (h : RB K H0 H v d) (e : dkey d = some k) : v = kV k := by
  cases d with
  | int i => cases e; exact h.int
  | str x => cases e; exact h.str
  | _ => cases e
theorem dget_val {K : PySem.W.Frag} {H : Hp} {kvs : List (Key × V)} {ds : List (D × D)} {k : Key} (h : Ddk K H kvs ds) : (dgetL ds (keyD k)).isSome = (valV kvs k).isSome := by
  obtain ⟨h1, h2⟩ := h.get k
  cases e : dgetL ds (keyD k) with
  | none => rw [h2 e]; rfl
  | some d =>
    obtain ⟨v, hv, _⟩ := h1 d e
    rw [hv]
    rfl
/-! ### x.count(y) -/
def tCnt (K : PySem.W.Frag) (to : TE) (t : TA) : TE := fun σ H Q => to σ H fun x H1 => ∃ a, x = .ref a ∧ (((∃ ys, SqL K H1 a ys) ∧ t σ H1 fun us H2 => ∃ ys ds y d, SqL K H2 a ys ∧ DpAll K H2 ys ds ∧ PyData.plainAll ds = true ∧ us = [y] ∧ Dp K H2 y d ∧ d.plain = true ∧ d.depth = 0 ∧ Q (.int ((ds.countP fun z => PyData.eqv z d : Nat) : Int)) H2) ∨
  ((∃ ys o, H1 a = some (.frz o (.tup ys)) ∧ o.dict = none) ∧ t σ H1 fun us H2 => ∃ ys ds y d, SqT K H2 a ys ∧ DpAll K H2 ys ds ∧ PyData.plainAll ds = true ∧ us = [y] ∧ Dp K H2 y d ∧ d.plain = true ∧ d.depth = 0 ∧ Q (.int ((ds.countP fun z => PyData.eqv z d : Nat) : Int)) H2))
theorem pe_cnt {X : Cx} {o e : Expr} {to : TE} {t : TA} {apos cpos : Pos} (hu : X.A.units + 64 < cLine) (ho : PE X o to) (ha : PA X [e] t) (hbase : attributeBase o "count" X.env (eval o X.env) = eval o X.env) (hline : (apos.endLine == cpos.line) = true)
    (hs : starEach [e] X.env = [(false, eval e X.env)]) : PE X (.Call (.Attribute o "count" apos) [e] [] cpos) (tCnt X.K to t) := by
  refine ⟨fun pins s σ H Q I h => ?_⟩
  have hfew : ((backTo cpos (starEach [e] X.env)).all (fun x => !x.1) && (backToKw cpos (keywordEach [] X.env)).all (fun x => x.1.isSome)
      && decide ([e].length + ([] : List Keyword).length + (if ([] : List Keyword).isEmpty then 0 else 1) < 30)) = true := by
    rw [hs]; rfl
  refine wpAny_Call_method_late hbase hfew hline rfl (thn (ho.run pins s σ H _ I h) fun v s1 ⟨x, H1, I1, r1, a, ex, q1⟩ => ?_)
  subst ex
  cases r1
  rcases q1 with ⟨⟨ys, hq⟩, q1⟩ | ⟨⟨ys, ob, hq, hdn⟩, q1⟩
  · obtain ⟨its, _, pl, _⟩ := I1.list hq
    obtain ⟨ob, n, e1, c, hd, _⟩ := id pl
    refine ⟨"list", "list.count", F.plainAttrs_list, F.slot_list_count, F.type_list_count, pl.isList.typeIs, fun b eb => by cases eb; exact ⟨ob, e1, hd⟩, ?_⟩
    have hA := ha.run cpos pins s1 σ H1 _ I1 q1
    rw [hs] at hA ⊢
    refine Calls.callWith_builtin rfl (Calls.evalArgs_plain (thn hA fun us s2 ⟨vs, H2, I2, r2, ys2, ds, y, d, g1, g2, g3, g4, g5, g6, g7, q⟩ => ?_))
    subst g4
    obtain ⟨u, rfl, ru⟩ := vals1 r2
    obtain ⟨its2, rv2, pl2, _⟩ := I2.list g1
    obtain ⟨as, ra⟩ := Dp.readsAll I2 ds _ its2 g2 rv2
    obtain ⟨bs, rb⟩ := Dp.reads I2 d y u g5 ru
    exact SeqAt.count_list_data pl2.isList (by simpa using ra) rb g3 g6 (by rw [g7]; omega) ⟨.int _, H2, I2.tok _, ⟨_, rfl⟩, q⟩
  · obtain ⟨e1, z, its, rv, pl⟩ := I1.hok a _ hq
    obtain ⟨ob', e2, hc, n, hd⟩ := id pl
    rw [e1] at e2
    cases e2
    refine ⟨"tuple", "tuple.count", F.plainAttrs_tuple, F.slot_tuple_count, F.type_tuple_count, pl.typeIs, fun b eb => by cases eb; exact ⟨ob, e1, hdn⟩, ?_⟩
    have hA := ha.run cpos pins s1 σ H1 _ I1 q1
    rw [hs] at hA ⊢
    refine Calls.callWith_builtin rfl (Calls.evalArgs_plain (thn hA fun us s2 ⟨vs, H2, I2, r2, ys2, ds, y, d, g1, g2, g3, g4, g5, g6, g7, q⟩ => ?_))
    subst g4
    obtain ⟨u, rfl, ru⟩ := vals1 r2
    obtain ⟨its2, rv2, pl2, _⟩ := I2.tuple g1
    obtain ⟨as, ra⟩ := Dp.readsAll I2 ds _ its2 g2 rv2
    obtain ⟨bs, rb⟩ := Dp.reads I2 d y u g5 ru
    exact SeqAt.count_tuple_data pl2 (by simpa using ra) rb g3 g6 (by rw [g7]; omega) ⟨.int _, H2, I2.tok _, ⟨_, rfl⟩, q⟩
mutual
theorem plainD_of : ∀ (d : D), noDict d = true → d.plain = true
  | .none, _ => rfl
  | .bool _, _ => rfl
  | .int _, _ => rfl
  | .str _, _ => rfl
  | .list ds, h => by
    unfold noDict at h
    unfold PyData.plain
    exact plainAll_of ds h
  | .tuple ds, h => by
    unfold noDict at h
    unfold PyData.plain
    exact plainAll_of ds h
  | .dict _, h => by unfold noDict at h; cases h
theorem plainAll_of : ∀ (ds : List D), noDicts ds = true → PyData.plainAll ds = true
  | [], _ => rfl
  | d :: ds, h => by
    unfold noDicts at h
    rw [Bool.and_eq_true] at h
    unfold PyData.plainAll
    rw [plainD_of d h.1, plainAll_of ds h.2]
    rfl
end
def cntD : D → D → Option D
  | .list ds, x => if noDicts ds = true ∧ flatD x = true then some (.int ((ds.countP fun z => PyData.eqv z x : Nat) : Int)) else none
  | .tuple ds, x => if noDicts ds = true ∧ flatD x = true then some (.int ((ds.countP fun z => PyData.eqv z x : Nat) : Int)) else none
  | _, _ => none
def cntV (ma mb : Rho → Option Res) : Rho → Option Res := fun ρ => match ma ρ with
  | some (.ok (.list _)) => lift2 cntD ma mb ρ
  | some (.ok (.tuple _)) => lift2 cntD ma mb ρ
  | some (.exc c p) => some (.exc c p)
  | _ => none
theorem flat_noDict {d : D} (h : flatD d = true) : noDict d = true ∧ d.plain = true ∧ d.depth = 0 := by
  cases d <;> first | exact ⟨rfl, rfl, rfl⟩ | cases h
section
variable {X : Cx} {xs : List Str} {W : WX} {a b : Expr} {sa sb : Src} {ma mb : Rho → Option Res} {pos apos : Pos}
theorem je_cnt (hu : X.A.units + 64 < cLine) (ha : JE X xs W a sa ma) (hb : JE X xs W b sb mb) (hbase : attributeBase a "count" X.env (eval a X.env) = eval a X.env) (hline : (apos.endLine == pos.line) = true) (hs : starEach [b] X.env = [(false, eval b X.env)]) :
    JE X xs W (.Call (.Attribute a "count" apos) [b] [] pos) .new (cntV ma mb) := by
  refine pe_of (pe_cnt hu ha (pa_cons hb pa_nil hs) hbase hline hs) fun σ H Q h => ?_
  obtain ⟨en, ρ, H0, rr, p⟩ := h
  refine ⟨en, ρ, H0, rr, ?_⟩
  cases e1 : ma ρ with
  | none => unfold cntV at p; rw [e1] at p; exact p.elim
  | some r1 =>
    cases r1 with
    | exc c q => unfold cntV at p; rw [e1] at p; exact p
    | ok d1 =>
      intro v H0' H' x1 z1
      have hsq : (∃ ds, d1 = .list ds) ∨ ∃ ds, d1 = .tuple ds := by
        unfold cntV at p
        rw [e1] at p
        cases d1 <;> first | exact .inl ⟨_, rfl⟩ | exact .inr ⟨_, rfl⟩ | exact p.elim
      have p : PostR X.K X.mg xs W .new σ H0 H Q (lift2 cntD ma mb ρ) := by
        unfold cntV at p
        rw [e1] at p
        rcases hsq with ⟨ds, rfl⟩ | ⟨ds, rfl⟩ <;> exact p
      unfold lift2 at p
      rw [e1] at p
      dsimp only at p
      have key : ∀ (G : V → Hp → Prop), (∀ v2 H02 H2 d2, mb ρ = some (.ok d2) → Ext H0' H' H02 H2 → RB X.K H02 H2 v2 d2 → G v2 H2) → Tau X.K X.mg xs W sb mb σ H' G := by
        intro G hG
        refine ⟨en, ρ, H0', rr.mono x1, ?_⟩
        cases e2 : mb ρ with
        | none => rw [e2] at p; exact p.elim
        | some r2 =>
          rw [e2] at p
          cases r2 with
          | exc c q => exact fun cls dd A B x2 z2 => p cls dd A B (x1.trans x2) z2
          | ok d2 => exact fun v2 A B x2 z2 => hG v2 A B d2 e2 x2 z2.rb
      have fin : ∀ (ds : List D) (d2 z : D) (A B : Hp), Ext H0' H' A B → mb ρ = some (.ok d2) → cntD d1 d2 = some z → Q (match z with | .int i => .int i | _ => .non) B := by
        intro ds d2 z A B x2 e2 ez
        rw [e2] at p
        dsimp only at p
        rw [ez] at p
        have ei : ∃ i, z = .int i := by
          unfold cntD at ez
          split at ez
          · split at ez <;> cases ez; exact ⟨_, rfl⟩
          · split at ez <;> cases ez; exact ⟨_, rfl⟩
          · cases ez
        obtain ⟨i, rfl⟩ := ei
        exact p _ A B (x1.trans x2) (.inl ⟨.int _, fun _ => rfl⟩)
      have hz : ∀ d2, mb ρ = some (.ok d2) → ∃ z, cntD d1 d2 = some z := by
        intro d2 e2
        rw [e2] at p
        dsimp only at p
        cases ez : cntD d1 d2 with
        | none => rw [ez] at p; exact p.elim
        | some z => exact ⟨z, rfl⟩
      cases d1 with
      | list ds =>
        obtain ⟨q, ys, rfl, g1, g2⟩ := z1.rb.list x1.sub
        refine ⟨q, rfl, .inl ⟨⟨ys, .inl g1⟩, key _ fun v2 A B d2 e2 x2 z2 => ?_⟩⟩
        obtain ⟨z, ez⟩ := hz d2 e2
        have fz := fin ds d2 z A B x2 e2 ez
        unfold cntD at ez
        dsimp only at ez
        split at ez
        · rename_i hc
          cases ez
          obtain ⟨f1, f2, f3⟩ := flat_noDict hc.2
          obtain ⟨q', ys', eq, g1', g2'⟩ := (z1.rb.mono x2).list x2.sub
          cases eq
          exact ⟨ys', ds, v2, d2, .inl g1', (g2'.mono x2.sub).dp hc.1, plainAll_of ds hc.1, rfl, z2.dp x2.sub f1, f2, f3, fz⟩
        · cases ez
      | tuple ds =>
        obtain ⟨q, rfl⟩ : ∃ q, v = .ref q := by
          obtain ⟨q, ys, e, _⟩ := z1.rb.tuple x1.sub
          exact ⟨q, e⟩
        have hpl : ∃ ys o, H' q = some (.frz o (.tup ys)) ∧ o.dict = none := by
          rcases z1.rb with z | ⟨_, _, m⟩
          · cases z with
            | tup h1 hn h2 => exact ⟨_, _, x1.sub _ _ h1, hn⟩
          · cases m
        refine ⟨q, rfl, .inr ⟨hpl, key _ fun v2 A B d2 e2 x2 z2 => ?_⟩⟩
        obtain ⟨z, ez⟩ := hz d2 e2
        have fz := fin ds d2 z A B x2 e2 ez
        unfold cntD at ez
        dsimp only at ez
        split at ez
        · rename_i hc
          cases ez
          obtain ⟨f1, f2, f3⟩ := flat_noDict hc.2
          obtain ⟨q', ys', eq, g1', g2'⟩ := (z1.rb.mono x2).tuple x2.sub
          cases eq
          exact ⟨ys', ds, v2, d2, .inl g1', (g2'.mono x2.sub).dp hc.1, plainAll_of ds hc.1, rfl, z2.dp x2.sub f1, f2, f3, fz⟩
        · cases ez
      | _ => rcases hsq with ⟨ds, e⟩ | ⟨ds, e⟩ <;> cases e
end
/-! ### sorted -/
def sortL (ds : List D) : List D := ds.mergeSort (PySem.W.dataLe false id)
def SortOk (ds : List D) : Prop := PySem.W.AllAlike ds ∧ PySem.W.Sortable ds ∧ (∀ d ∈ ds, d.depth ≤ 16) ∧ noDicts ds = true
theorem each_of {K : PySem.W.Frag} {H0 : Hp} : ∀ {ys : List V} {its : List Value} {ds : List D}, Vals ys its → Dds K H0 ys ds → PySem.W.EachIs (fun u d => ∃ x, RelV x u ∧ Dd K H0 x d) its ds
  | _, _, _, .nil, .nil => .nil
  | _, _, _, .cons r rs, .cons h hs => .cons ⟨_, r, h⟩ (each_of rs hs)
theorem of_each {K : PySem.W.Frag} {H0 : Hp} : ∀ {out : List Value} {ds : List D}, PySem.W.EachIs (fun u d => ∃ x, RelV x u ∧ Dd K H0 x d) out ds → ∃ zs, Vals zs out ∧ Dds K H0 zs ds
  | _, _, .nil => ⟨[], .nil, .nil⟩
  | _, _, .cons ⟨x, r, h⟩ t => by
    obtain ⟨zs, h1, h2⟩ := of_each t
    exact ⟨x :: zs, .cons r h1, .cons h h2⟩
theorem each_reads {X : Cx} {pins : List (Addr × Obj)} {σ : L2.St} {H : Hp} {s : Shared} (I : Inv X pins σ H s) : ∀ {ys : List V} {its : List Value} {ds : List D}, Vals ys its → DpAll X.K H ys ds → PySem.W.EachIs (fun u d => ∃ as, Reads s.heap u (id d) as) its ds
  | _, _, _, .nil, .nil => .nil
  | _, _, _, .cons r rs, .cons h hs => .cons (Dp.reads I _ _ _ h r) (each_reads I rs hs)
theorem map_id' {α : Type} (l : List α) : l.map id = l := by simp
def rSortD (K : PySem.W.Frag) : List V → Hp → VK → Prop := fun vs H Q => ∃ (H0 : Hp) (a : Addr) (ys : List V) (ds : List D), Same H0 H ∧ vs = [.ref a] ∧ SqL K H a ys ∧ Dds K H0 ys ds ∧ SortOk ds ∧ ∀ zs p, Dds K H0 zs (sortL ds) → H p = none → Q (.ref p) (upd H p (.lst zs))
theorem cr_sortD {X : Cx} (hu : X.A.units + 64 < cLine) : CallR X (.builtin "sorted") (rSortD X.K) := by
  intro pins s σ H vs us Q I r ⟨H0, a, ys, ds, sm, ev, hs, hd, ⟨o1, o2, o3, o4⟩, q⟩
  subst ev
  obtain ⟨its, rv, hl, hz⟩ := I.list hs
  rw [Vals.ref1 r]
  have e1 := each_of rv hd
  have e2 := each_reads I rv ((hd.mono sm).dp o4)
  refine PySem.W.sorted_data (enc := id) hl.isList e1 e2 (by rw [map_id']; exact o1) (by rw [map_id']; exact o2) (by rw [← hd.length]; exact hz) (fun b hb => ?_) fun out h1 h2 => ?_
  · have := o3 b hb
    show X.A.units + 2 + b.depth < cLine
    omega
  · obtain ⟨zs, g1, g2⟩ := of_each h2
    obtain ⟨ep, he⟩ := PyProof.Rows.sortedAll_at s.heap its out.toArray
    have hlen : zs.length ≤ sizeLine := by rw [g1.length, h1, ← hd.length]; exact hz
    exact ⟨.ref _, upd H (s.heap.objs.size + 1) (.lst zs), I.laid (t' := s.toks) (fun _ _ => PyProof.Rows.sortedAll_old) (Nat.le_succ _) ⟨hlen, out, ep, g1, he⟩, rfl, q _ _ g2 (I.hok.fresh (Nat.le_succ _))⟩
theorem ints_perm_eq : ∀ {a b : List Int}, a.Perm b → a.Pairwise (· ≤ ·) → b.Pairwise (· ≤ ·) → a = b := by
  intro a b h1 h2 h3
  exact h1.eq_of_pairwise (fun x y _ _ h h' => Int.le_antisymm h h') h2 h3
def sortI (ns : List Int) : List Int := ns.mergeSort (fun a b => decide (a ≤ b))
theorem sortL_ints (ns : List Int) : sortL (ns.map .int) = (sortI ns).map .int := by
  unfold sortL sortI
  refine (PySem.W.sort_maps (r := fun a b => decide (a ≤ b)) PyData.int (fun a _ b _ => ?_)).symm
  have e := congrFun (congrFun (PySem.W.dataLe_int (β := Int) (fun z => z)) a) b
  exact e.symm
theorem sortI_perm (ns : List Int) : (sortI ns).Perm ns := List.mergeSort_perm _ _
theorem sortI_sorted (ns : List Int) : (sortI ns).Pairwise (· ≤ ·) := by
  have h := List.pairwise_mergeSort (le := fun a b : Int => decide (a ≤ b)) (fun a b c h1 h2 => by
    simp only [decide_eq_true_eq] at h1 h2 ⊢; omega) (fun a b => by simp only [Bool.or_eq_true, decide_eq_true_eq]; omega) ns
  exact h.imp fun h => of_decide_eq_true h
theorem sortI_eq {ys ns : List Int} (h1 : ys.Perm ns) (h2 : ys.Pairwise (· ≤ ·)) : ys = sortI ns := ints_perm_eq (h1.trans (sortI_perm ns).symm) h2 (sortI_sorted ns)
open Classical in
def sortedD : List D → Option D
  | [.list ds] => if SortOk ds then some (.list (sortL ds)) else if ds.length ≤ 1 then some (.list ds) else none
  | [.dict kvs] => (match intsOf (kvs.map (·.1)) with
    | some ns => if ns.length < 64 then some (.list (sortL (ns.map .int))) else none
    | none => none)
  | [.tuple ds] => (match intsOf ds with
    | some ns => some (.list (sortL (ns.map .int)))
    | none => none)
  | _ => none
theorem keys_ints {K : PySem.W.Frag} {H : Hp} : ∀ {kvs : List (Key × V)} {ds : List (D × D)}, Ddk K H kvs ds → ∀ {ns : List Int}, intsOf (ds.map (·.1)) = some ns → kvs.map (·.1) = ns.map Sum.inl
  | _, _, .nil, ns, h => by cases h; rfl
  | _, _, .cons (k := k) (s := s) h t, ns, e => by
    have e' : intsOf (keyD k :: s.map (·.1)) = some ns := e
    cases k with
    | inr x => cases e'
    | inl i =>
      have e2 : (intsOf (s.map (·.1))).map (i :: ·) = some ns := e'
      cases e3 : intsOf (s.map (·.1)) with
      | none => rw [e3] at e2; cases e2
      | some ms =>
        rw [e3] at e2
        cases e2
        rw [List.map_cons, List.map_cons, keys_ints t e3]
def rSortK : List V → Hp → VK → Prop := fun xs H Q => ∃ (a : Addr) (kvs : List (Key × V)) (ks : List Int), xs = [.ref a] ∧ Rd H a (.dK kvs) ∧ kvs.map (·.1) = ks.map Sum.inl ∧ ks.length < 64 ∧
    ∀ (ys : List Int) (p : Addr), ys.Perm ks → ys.Pairwise (· ≤ ·) → H p = none → Q (.ref p) (upd H p (.lst (ys.map V.int)))
/-- one item or none -/
def rSort1 (K : PySem.W.Frag) : List V → Hp → VK → Prop := fun vs H Q => ∃ (a : Addr) (ys : List V), vs = [.ref a] ∧ SqL K H a ys ∧ ys.length ≤ 1 ∧ ∀ p, H p = none → Q (.ref p) (upd H p (.lst ys))
theorem perm_few {α : Type} {l m : List α} (h : l.Perm m) (hm : m.length ≤ 1) : l = m := by
  match m, hm with
  | [], _ => exact h.eq_nil
  | [x], _ => exact List.perm_singleton.mp h
  | _ :: _ :: r, hm => exact absurd hm (by rw [List.length_cons, List.length_cons]; omega)
theorem cr_sort1 {X : Cx} : CallR X (.builtin "sorted") (rSort1 X.K) := by
  intro pins s σ H vs us Q I r ⟨a, ys, ev, hs, h1, q⟩
  subst ev
  obtain ⟨its, rv, hl, hz⟩ := I.list hs
  rw [Vals.ref1 r]
  have hln := rv.length
  refine Srt.sorted_any hl.isList (by omega) (fun h2 => absurd h2 (by omega)) fun out ho => ?_
  have eo := perm_few ho (by omega)
  subst eo
  obtain ⟨ep, he⟩ := PyProof.Rows.sortedAll_at s.heap out out.toArray
  exact ⟨.ref _, upd H (s.heap.objs.size + 1) (.lst ys), I.laid (t' := s.toks) (fun _ _ => PyProof.Rows.sortedAll_old) (Nat.le_succ _) ⟨hz, out, ep, rv, he⟩, rfl, q _ (I.hok.fresh (Nat.le_succ _))⟩
/-! a tuple of ints -/
section
open PySem PyProof.Rows Srt SrtO
variable {prog : Program} {w : World} {A : Around} {E : Value → Shared → Prop} {s : Shared}
theorem collect_tup {l : Addr} {vs : List Value} {Q : List Value → Shared → Prop} (hl : IsTup s.heap l vs.toArray)
    (h : Q vs { s with heap := (s.heap.push (seqObj "list" #[] 0)).update s.heap.objs.size (Obj.mapSeq (· ++ vs.toArray)) }) (hsz : vs.length ≤ sizeLine) :
    wpAny (model prog w) A (collect (.ref l)) Q E s := by
  obtain ⟨o, ho, hc, n, hd⟩ := id hl
  unfold collect
  refine wpAny_bind (wpAny_runValue (codeAny_builtin entry_proto_collect' ?_))
  show wpAny _ _ (do again (.builtin "list.__iadd__" ⟨[← newList [], .ref l], []⟩)) _ _ s
  refine wpAny_bind (wpAny_newList (wpAny_pure ⟨Code.quiet_builtin _ (by decide +kernel), codeAny_builtin entry_list_iadd' ?_⟩))
  show wpAny _ _ (Builtin.List.listExtendWith (.ref s.heap.objs.size) (.ref l) (.ref s.heap.objs.size)) _ _ { s with heap := s.heap.push (seqObj "list" #[] 0) }
  unfold Builtin.List.listExtendWith
  have ho' : (s.heap.push (seqObj "list" #[] 0)).get? l = some o := Heap.get?_push_of_some _ ho
  refine wpAny_bind (wpAny_typeOf (T := "tuple") ⟨o, ho', hc⟩ ?_)
  have ht : (Value.type "tuple" == Value.type "tuple") = true := by rfl
  rw [if_pos (by rw [ht]; simp)]
  refine wpAny_bind (listItems_at ho' hd ?_)
  refine wpAny_bind (listItems_at (xs := #[]) (n := 0) (Heap.get?_push_size _ rfl) rfl ?_)
  rw [if_neg (by simp)]
  refine wpAny_bind (listUpdate_at (xs := #[]) (n := 0) (Heap.get?_push_size _ rfl) rfl ?_ (Nat.zero_le _) (by show (#[] ++ vs.toArray).size ≤ sizeLine + 1; simp only [Array.size_append, List.size_toArray, List.length_nil]; omega))
  refine wpAny_pure ?_
  show wpAny (model prog w) A (do
      let o ← load s.heap.objs.size
      match o.data with
      | .seq xs _ => pure xs.toList
      | _ => unsupported "internal:collect") Q E { s with heap := (s.heap.push (seqObj "list" #[] 0)).update s.heap.objs.size (Obj.mapSeq (· ++ vs.toArray)) }
  refine wpAny_bind (wpAny_load (get?_update_seq (Heap.get?_push_size _ rfl) _) ?_)
  show wpAny _ _ (pure ((#[] : Array Value) ++ vs.toArray).toList) Q E _
  rw [show ((#[] : Array Value) ++ vs.toArray).toList = vs by simp]
  exact wpAny_pure h
theorem sorted_ordT {l : Addr} {vs : List Value} {ltv : Value → Value → Bool} {Q : Value → Shared → Prop} (O : Swo ltv) (hl : IsTup s.heap l vs.toArray) (hz : vs.length ≤ sizeLine)
    (hS : 2 ≤ vs.length → ∀ (h₁ : Heap) (a : Addr), h₁.get? a = some (seqObj "list" vs.toArray 0) → (∀ b o, s.heap.get? b = some o → b ≠ a ∧ h₁.get? b = some o) → SortableO prog w A.in1.in1 { s with heap := h₁ } a vs ltv)
    (h : ∀ out : List Value, Srtd ltv out → Stb ltv out vs → Q (.ref (s.heap.objs.size + 1)) { s with heap := sortedAll s.heap vs out.toArray }) :
    wpAny (model prog w) A (call (.builtin "sorted") [.ref l]) Q E s := by
  refine Calls.call_function_entry kind_sorted plain_sorted entry_sorted (args_sorted1 _) ?_
  unfold Builtin.«sorted»
  refine wpAny_bind (m := checkCount "sorted" 1 1 _) (wpAny_pure ?_)
  refine wpAny_bind (collect_tup hl ?_ hz)
  refine wpAny_bind (wpAny_newList ?_ hz)
  have hsz : ((s.heap.push (seqObj "list" #[] 0)).update s.heap.objs.size (Obj.mapSeq (· ++ vs.toArray))).objs.size = s.heap.objs.size + 1 := by
    rw [Heap.size_update, size_push']
  have hoL : (((s.heap.push (seqObj "list" #[] 0)).update s.heap.objs.size (Obj.mapSeq (· ++ vs.toArray))).push (seqObj "list" vs.toArray 0)).get? (s.heap.objs.size + 1) = some (seqObj "list" vs.toArray 0) := by
    rw [← hsz]; exact Heap.get?_push_size _ rfl
  have keep : ∀ b o, s.heap.get? b = some o → b ≠ s.heap.objs.size + 1 ∧ (((s.heap.push (seqObj "list" #[] 0)).update s.heap.objs.size (Obj.mapSeq (· ++ vs.toArray))).push (seqObj "list" vs.toArray 0)).get? b = some o := fun b o q => by
    have hlt : b < s.heap.objs.size := Heap.lt_size q
    refine ⟨Nat.ne_of_lt (Nat.lt_succ_of_lt hlt), Heap.get?_push_of_some _ ?_⟩
    rw [Heap.get?_update_ne _ _ _ _ (Nat.ne_of_lt hlt)]
    exact Heap.get?_push_of_some _ q
  show wpAny _ _ _ _ _ { s with heap := ((s.heap.push (seqObj "list" #[] 0)).update s.heap.objs.size (Obj.mapSeq (· ++ vs.toArray))).push (seqObj "list" vs.toArray 0) }
  rw [hsz]
  refine wpAny_bind (wpAny_holding (wpAny_call_entry slot_list_sort ⟨_, hoL, rfl⟩ entry_list_sort (list_sort_ord O hoL hz (fun h2 => hS h2 _ _ hoL keep) fun out hs hb => ⟨_, rfl, ?_⟩) (args_list_sort _)))
  exact wpAny_pure ⟨_, rfl, h out hs hb⟩
end
def rSortT (K : PySem.W.Frag) : List V → Hp → VK → Prop := fun vs H Q => ∃ (a : Addr) (ns : List Int), vs = [V.ref a] ∧ SqT K H a (ns.map V.int) ∧
  ∀ (ns' : List Int) (p : Addr), ns'.Perm ns → ns'.Pairwise (· ≤ ·) → H p = none → Q (.ref p) (upd H p (.lst (ns'.map V.int)))
theorem cr_sortT {X : Cx} : CallR X (.builtin "sorted") (rSortT X.K) := by
  intro pins s σ H vs us Q I r h
  obtain ⟨a, ns, rfl, hs, q⟩ := h
  obtain ⟨its, rv, hl, hz⟩ := I.tuple hs
  rw [Vals.ref1 r]
  have hi := rv.ints
  refine sorted_ordT SrtO.swo_int hl (by rw [← rv.length]; exact hz) (fun h2 h₁ a' _ _ => SrtO.ints_sortable hi h2) fun out h1 h2 => ?_
  obtain ⟨k1, k2, k3⟩ := SrtO.ints_out hi h1 h2
  obtain ⟨ep, he'⟩ := PyProof.Rows.sortedAll_at s.heap its out.toArray
  have hlen : ((out.map SrtO.iv).map V.int).length ≤ sizeLine := by
    rw [List.length_map, k2.length_eq]
    rw [List.length_map] at hz
    exact hz
  exact ⟨.ref _, upd H (s.heap.objs.size + 1) (.lst ((out.map SrtO.iv).map V.int)), I.laid (t' := s.toks) (fun _ _ => PyProof.Rows.sortedAll_old) (Nat.le_succ _) ⟨hlen, out, ep, vals_of_ints k1, he'⟩, rfl, q _ _ k2 k3 (I.hok.fresh (Nat.le_succ _))⟩
theorem ok_sorted {K : PySem.W.Frag} : OpAOk true K (fun xs H Q => ((rSortD K xs H Q ∨ rSortK xs H Q) ∨ rSort1 K xs H Q) ∨ rSortT K xs H Q) sortedD := by
  intro H0 H xs ds d Q s h e q
  unfold sortedD at e
  split at e
  · split at e
    · rename_i hz
      cases e
      obtain ⟨v, rfl, h1⟩ := rbs1 h
      obtain ⟨a, ys, rfl, r1, k1⟩ := h1.list s
      exact .inl (.inl (.inl ⟨H0, a, ys, _, s, rfl, .inl r1, k1, hz, fun zs p g1 g2 => rs_lst s g1 g2 q⟩))
    · split at e
      · rename_i hz
        cases e
        obtain ⟨v, rfl, h1⟩ := rbs1 h
        obtain ⟨a, ys, rfl, r1, k1⟩ := h1.list s
        exact .inl (.inr ⟨a, ys, rfl, .inl r1, by rw [k1.length]; exact hz, fun p g2 => rs_lst s k1 g2 q⟩)
      · cases e
  · split at e
    · rename_i kv ns e1
      split at e
      · rename_i hz
        cases e
        obtain ⟨v, rfl, h1⟩ := rbs1 h
        rcases h1.dict s with ⟨a, kvs, rfl, r1, k1⟩ | ⟨a, oc, xs, rfl, r1, f, k1⟩
        · refine .inl (.inl (.inr ⟨a, kvs, ns, rfl, r1, keys_ints k1 e1, hz, fun ys p g1 g2 g3 => ?_⟩))
          rw [sortI_eq g1 g2]
          refine rs_lst s ?_ g3 q
          rw [sortL_ints]
          exact dds_ints _
        · cases k1 with
          | nil => exact absurd rfl f.ne
          | cons g1 g2 g3 g4 r =>
            obtain ⟨es, rfl⟩ := keyT_tup g2
            cases e1
      · cases e
    · cases e
  · rename_i es
    cases e1 : intsOf es with
    | none => rw [e1] at e; cases e
    | some ns =>
      rw [e1] at e
      cases e
      obtain ⟨v, rfl, h1⟩ := rbs1 h
      obtain ⟨a, ys, rfl, r1, k1⟩ := h1.tuple s
      rw [intsOf_eq e1] at k1
      cases k1.ints
      refine .inr ⟨a, ns, rfl, .inl r1, fun ys p g1 g2 g3 => ?_⟩
      rw [sortI_eq g1 g2]
      refine rs_lst s ?_ g3 q
      rw [sortL_ints]
      exact dds_ints _
  · cases e
/-! ### in and [] with dicts -/
def inD2 (x : D) : D → Option Bool
  | .dict ds => dinD x ds
  | y => inD x y
def ixD2 : D → D → Option D
  | .dict ds, k => (match dkey k with
    | some _ => dgetL ds k
    | none => (match keyT k with
      | some _ => if tupK ds = true then dgetL ds k else none
      | none => none))
  | d, k => ixD d k
theorem ok_in2 {K : PySem.W.Frag} {r : R2} (h : Op2Ok true K r (fun x y => (inD x y).map .bool)) : Op2Ok true K (fun x y H Q => (r x y H Q ∨ rDin false x y H Q) ∨ rKin K false x y H Q) (fun x y => (inD2 x y).map .bool) := by
  intro H0 H x y d1 d2 d Q s h1 h2 e q
  cases d2 with
  | dict ds =>
    simp only [inD2, dinD] at e
    cases ek : dkey d1 with
    | none =>
      rw [ek] at e
      dsimp only at e
      cases et : keyT d1 with
      | none => rw [et] at e; cases e
      | some k =>
        rw [et] at e
        dsimp only at e
        split at e
        · rename_i ht
          cases e
          obtain ⟨b, rfl, kb⟩ := h1.keyT s et
          obtain ⟨a, xs, rfl, ka, kk⟩ := h2.kdict s ht
          refine .inr ⟨a, b, k, d1, xs, ds, rfl, rfl, kb.mono s, et, ka, ?_⟩
          rw [if_neg Bool.false_ne_true, kk.some_eq et]
          exact rs_flat s (.bl _) q
        · cases e
    | some k =>
      rw [ek] at e
      dsimp only at e
      split at e
      · cases e
      · rename_i hno
        cases e
        cases kV_dd h1 ek
        rcases h2.dict s with ⟨a, kvs, rfl, r1, k1⟩ | ⟨a, oc, xs, rfl, r1, f, k1⟩
        · refine .inl (.inr ⟨a, kvs, k, rfl, rfl, r1, ?_⟩)
          rw [dkey_some ek, dget_val k1] at q
          exact rs_flat s (.bl _) q
        · exact absurd (k1.isK f.ne) hno
  | _ => exact .inl (.inl (h H0 H x y d1 _ d Q s h1 h2 e q))
theorem ok_notin2 {K : PySem.W.Frag} {r : R2} (h : Op2Ok true K r (fun x y => (inD x y).map fun b => .bool (!b))) : Op2Ok true K (fun x y H Q => (r x y H Q ∨ rDin true x y H Q) ∨ rKin K true x y H Q) (fun x y => (inD2 x y).map fun b => .bool (!b)) := by
  intro H0 H x y d1 d2 d Q s h1 h2 e q
  cases d2 with
  | dict ds =>
    simp only [inD2, dinD] at e
    cases ek : dkey d1 with
    | none =>
      rw [ek] at e
      dsimp only at e
      cases et : keyT d1 with
      | none => rw [et] at e; cases e
      | some k =>
        rw [et] at e
        dsimp only at e
        split at e
        · rename_i ht
          cases e
          obtain ⟨b, rfl, kb⟩ := h1.keyT s et
          obtain ⟨a, xs, rfl, ka, kk⟩ := h2.kdict s ht
          refine .inr ⟨a, b, k, d1, xs, ds, rfl, rfl, kb.mono s, et, ka, ?_⟩
          rw [if_pos rfl, kk.some_eq et]
          exact rs_flat s (.bl _) q
        · cases e
    | some k =>
      rw [ek] at e
      dsimp only at e
      split at e
      · cases e
      · rename_i hno
        cases e
        cases kV_dd h1 ek
        rcases h2.dict s with ⟨a, kvs, rfl, r1, k1⟩ | ⟨a, oc, xs, rfl, r1, f, k1⟩
        · refine .inl (.inr ⟨a, kvs, k, rfl, rfl, r1, ?_⟩)
          rw [dkey_some ek, dget_val k1] at q
          exact rs_flat s (.bl _) q
        · exact absurd (k1.isK f.ne) hno
  | _ => exact .inl (.inl (h H0 H x y d1 _ d Q s h1 h2 e q))
theorem ok_ix2 {K : PySem.W.Frag} {r : R2} (h : Op2Ok false K r ixD) : Op2Ok false K (fun x y H Q => (r x y H Q ∨ rDix x y H Q) ∨ rKix K x y H Q) ixD2 := by
  intro H0 H x y d1 d2 d Q s h1 h2 e q
  cases d1 with
  | dict ds =>
    simp only [ixD2] at e
    cases ek : dkey d2 with
    | none =>
      rw [ek] at e
      dsimp only at e
      cases et : keyT d2 with
      | none => rw [et] at e; cases e
      | some k =>
        rw [et] at e
        dsimp only at e
        split at e
        · rename_i ht
          obtain ⟨b, rfl, kb⟩ := h2.keyT s et
          obtain ⟨a, xs, rfl, ka, kk⟩ := h1.kdict s ht
          obtain ⟨c, u, z, g1, g2, g3⟩ := (kk.get et).1 d e
          exact .inr ⟨a, b, c, k, d2, xs, ds, z, u, rfl, rfl, kb.mono s, et, ka, g1, g2, q z H0 H (Ext.refl s) (.inl ⟨g3, fun z => nomatch z⟩)⟩
        · cases e
    | some k =>
      rw [ek] at e
      dsimp only at e
      cases kV_dd h2 ek
      rcases h1.dict s with ⟨a, kvs, rfl, r1, k1⟩ | ⟨a, oc, xs, rfl, r1, f, k1⟩
      · rw [dkey_some ek] at e
        obtain ⟨v, hv, hd⟩ := (k1.get k).1 d e
        exact .inl (.inr ⟨a, kvs, k, v, rfl, rfl, r1, hv, q v H0 H (Ext.refl s) (.inl ⟨hd, fun z => nomatch z⟩)⟩)
      · rw [k1.noPlain ek] at e
        cases e
  | _ => exact .inl (.inl (h H0 H x y _ d2 d Q s h1 h2 e q))
end
end DD

namespace DD
noncomputable section
open PySem PySem.Spec PyProof.Rows L2

/-! ### pop, extend -/
/-- the first or the last item taken off -/
def takeOff (front : Bool) : List D → Option (D × List D)
  | [] => none
  | d :: ds => if front = true then some (d, ds) else some ((d :: ds).getLast (by simp), (d :: ds).dropLast)
def popK (i j : Nat) (front : Bool) : Rho → Option Out := fun ρ => match mutL ρ j with
  | some (fl, ds) => (match takeOff front ds with
    | some (d, r) => some (.next ((ρ.set j (some (fl, .list r))).set i (some (.dat, d))))
    | none => none)
  | none => none
section
variable {X : Cx} {xs : List Str} {W : WX} {nw : Mo} {a : Expr} {sa : Src} {ma : Rho → Option Res} {pos : Pos}
theorem takeOff_front {K : PySem.W.Frag} {H0 : Hp} {ys : List V} {ds r : List D} {d : D} (h : Dds K H0 ys ds) (e : takeOff true ds = some (d, r)) : ∃ y zs, ys = y :: zs ∧ Dd K H0 y d ∧ Dds K H0 zs r := by
  cases h with
  | nil => cases e
  | cons h1 h2 =>
    simp only [takeOff, if_true] at e
    cases e
    exact ⟨_, _, rfl, h1, h2⟩
theorem takeOff_back {K : PySem.W.Frag} {H0 : Hp} {ys : List V} {ds r : List D} {d : D} (h : Dds K H0 ys ds) (e : takeOff false ds = some (d, r)) : ∃ y, ys[ys.length - 1]? = some y ∧ Dd K H0 y d ∧ Dds K H0 ys.dropLast r := by
  cases ds with
  | nil => cases e
  | cons d0 ds =>
    simp only [takeOff, Bool.false_eq_true, if_false] at e
    cases e
    have hl := h.length
    have hg : (d0 :: ds)[(d0 :: ds).length - 1]? = some ((d0 :: ds).getLast (by simp)) := by
      rw [← List.getLast?_eq_getElem?, List.getLast?_eq_some_getLast (by simp)]
    obtain ⟨y, h1, h2⟩ := h.get hg
    refine ⟨y, by rw [hl]; exact h1, h2, ?_⟩
    rw [List.dropLast_eq_take, List.dropLast_eq_take, hl]
    exact h.take _
theorem ps_popEnd {i j : Nat} {en : Ent} {ρ : Rho} {H0 H : Hp} {σ : L2.St} {fl : Fl} {q : Addr} {ys zs : List V} {y : V} {d : D} {ds r : List D} {Dn : Ends} (rr : R X.K en ρ H0 σ H) (hf : fl.mut = true) (e : ρ[j]? = some (some (fl, .list ds))) (h1 : σ[j]? = some (some (.ref q))) (h2 : H q = some (.lst ys)) (h3 : H0 q = none) (h4 : Dds X.K H0 ys ds)
    (hy : Dd X.K H0 y d) (hz : Dds X.K H0 zs r) (p : PostS X.K X.mg xs W nw en H0 Dn (some (.next ((ρ.set j (some (fl, .list r))).set i (some (.dat, d)))))) : Dn.nx (σ.set i (some y)) (upd H q (.lst zs)) :=
  p _ _ _ ((rr.write hf e h1 (.lst h3 h2 h4) (.lst h3 upd_same hz)).set_dat hy) (Same.refl _)
theorem js_pop {i j : Nat} {x y : Str} {p' p1 apos cpos : Pos} (hN : X.N.Nodup) (hi : X.N[i]? = some x) (hx : Loc X.env.scope x) (hfn : X.fn x = true ∨ X.env.scope.names.lookup x = some .local) (hj : X.N[j]? = some y) (hv : Vis X.env.scope y) (hd : (y == ("__debug__" : Str)) = false) (hcd : (y == ("__classdict__" : Str)) = false)
    (hline : (apos.endLine == cpos.line) = true) : JS X xs W nw (.Assign [.Name x p'] (.Call (.Attribute (.Name y p1) "pop" apos) [] [] cpos) pos) (popK i j false) := by
  refine ps_of (ps_set hN hi hx (pe_bm0 PySem.F.plainAttrs_list PySem.F.slot_list_pop PySem.F.type_list_pop mt_pop (pe_var hj hv hd hcd) rfl hline) rfl hfn) fun Dn σ H h => ?_
  obtain ⟨en, ρ, H0, rr, p⟩ := h
  unfold popK at p
  cases em : mutL ρ j with
  | none => rw [em] at p; exact p.elim
  | some fd =>
    obtain ⟨fl, ds⟩ := fd
    rw [em] at p
    dsimp only at p
    obtain ⟨hf, e⟩ := mutL_some em
    obtain ⟨q, ys, h1, h2, h3, h4⟩ := own_list rr hf e
    cases et : takeOff false ds with
    | none => rw [et] at p; exact p.elim
    | some dr =>
      obtain ⟨d, r⟩ := dr
      rw [et] at p
      obtain ⟨w, g1, g2, g3⟩ := takeOff_back h4 et
      exact ⟨.ref q, h1, .inl ⟨rfl, _, .inl (.inl h2)⟩, q, ys, w, rfl, rfl, h2, g1, ps_popEnd rr hf e h1 h2 h3 h4 g2 g3 p⟩
theorem js_pop0 {i j kk : Nat} {x y : Str} {p' p1 p2 apos cpos : Pos} (hN : X.N.Nodup) (hi : X.N[i]? = some x) (hx : Loc X.env.scope x) (hfn : X.fn x = true ∨ X.env.scope.names.lookup x = some .local) (hj : X.N[j]? = some y) (hv : Vis X.env.scope y) (hd : (y == ("__debug__" : Str)) = false) (hcd : (y == ("__classdict__" : Str)) = false)
    (hline : (apos.endLine == cpos.line) = true) : JS X xs W nw (.Assign [.Name x p'] (.Call (.Attribute (.Name y p1) "pop" apos) [.Constant (.int 0) kk p2] [] cpos) pos) (popK i j true) := by
  refine ps_of (ps_set hN hi hx (pe_bm PySem.F.plainAttrs_list PySem.F.slot_list_pop PySem.F.type_list_pop mt_popAt (pe_var hj hv hd hcd) (pa_cons pe_int pa_nil rfl) rfl rfl hline rfl rfl) rfl hfn) fun Dn σ H h => ?_
  obtain ⟨en, ρ, H0, rr, p⟩ := h
  unfold popK at p
  cases em : mutL ρ j with
  | none => rw [em] at p; exact p.elim
  | some fd =>
    obtain ⟨fl, ds⟩ := fd
    rw [em] at p
    dsimp only at p
    obtain ⟨hf, e⟩ := mutL_some em
    obtain ⟨q, ys, h1, h2, h3, h4⟩ := own_list rr hf e
    cases et : takeOff true ds with
    | none => rw [et] at p; exact p.elim
    | some dr =>
      obtain ⟨d, r⟩ := dr
      rw [et] at p
      obtain ⟨w, zs, rfl, g2, g3⟩ := takeOff_front h4 et
      refine ⟨.ref q, h1, .inl ⟨rfl, _, .inl (.inl h2)⟩, q, _, 0, 0, w, rfl, rfl, h2, by decide, by decide, ?_, rfl, ps_popEnd rr hf e h1 h2 h3 h4 g2 g3 p⟩
      simp [seqIndex?]
def extK (i : Nat) : Rho → D → Option Out := fun ρ d => match mutL ρ i, d with
  | some (fl, ds), .list es => if ds.length + es.length ≤ 16777216 then some (.next (ρ.set i (some (fl, .list (ds ++ es))))) else none
  | _, _ => none
theorem js_ext {i : Nat} {x : Str} {p1 apos : Pos} (hN : X.N[i]? = some x) (hv : Vis X.env.scope x) (hd : (x == ("__debug__" : Str)) = false) (hcd : (x == ("__classdict__" : Str)) = false) (he : JE X xs W a .new ma)
    (hs1 : starEach [a] X.env = (false, eval a X.env) :: starEach [] X.env) (hline : (apos.endLine == pos.line) = true) {spos : Pos} :
    JS X xs W nw (.Expr (.Call (.Attribute (.Name x p1) "extend" apos) [a] [] pos) spos) (seqS (fun ρ => match mutL ρ i with | some _ => some (.next ρ) | none => none) (thenS ma (extK i))) := by
  have hfew : ((backTo pos (starEach [a] X.env)).all (fun x => !x.1) && (backToKw pos (keywordEach [] X.env)).all (fun x => x.1.isSome)
      && decide ([a].length + ([] : List Keyword).length + (if ([] : List Keyword).isEmpty then 0 else 1) < 30)) = true := by
    rw [hs1]; rfl
  refine ps_of (ps_expr (pe_bm PySem.F.plainAttrs_list PySem.F.slot_list_extend PySem.F.type_list_extend mt_extend (pe_var hN hv hd hcd) (pa_cons he pa_nil hs1) rfl hfew hline hs1 rfl) rfl) fun Dn σ H h => ?_
  obtain ⟨en, ρ, H0, rr, p⟩ := h
  unfold seqS at p
  dsimp only at p
  cases em : mutL ρ i with
  | none => rw [em] at p; exact p.elim
  | some fd =>
    obtain ⟨fl, ds⟩ := fd
    rw [em] at p
    dsimp only at p
    obtain ⟨hf, e⟩ := mutL_some em
    obtain ⟨q, ys, h1, h2, h3, h4⟩ := own_list rr hf e
    refine ⟨.ref q, h1, .inl ⟨rfl, _, .inl (.inl h2)⟩, ⟨en, ρ, H0, rr, ?_⟩⟩
    unfold thenS at p
    cases e1 : ma ρ with
    | none => rw [e1] at p; exact p.elim
    | some r1 =>
      rw [e1] at p
      cases r1 with
      | exc c q => exact fun cls dd A B x z => p σ rr.hl cls dd A B (rr.ext.trans x) z
      | ok d =>
        intro v A B x1 z
        dsimp only at p
        unfold extK at p
        rw [em] at p
        cases d with
        | list es =>
          dsimp only at p
          split at p
          · rename_i hz
            have z' : RS true X.K H A B v (.list es) := z
            rcases z' with ⟨_, z'⟩ | ⟨b, rfl, mo, nb⟩
            · cases z' rfl
            · cases mo with
              | lst g1 g2 g3 =>
                rename_i zs
                refine ⟨q, b, ys, zs, rfl, rfl, x1.s _ _ h2, g2, by rw [h4.length, g3.length, sizeLine_eq]; exact hz, ?_⟩
                have r1 := rr.mono x1
                have nq : A q = none := by rw [x1.new _ _ h2]; exact h3
                exact p _ _ _ (r1.write hf e h1 (.lst nq (x1.s _ _ h2) (h4.mono x1.s0)) (.lst nq upd_same ((h4.mono x1.s0).append g3))) x1.s0
          · exact p.elim
        | _ => exact p.elim
/-! ### d[k] = e -/
def mutD (ρ : Rho) (i : Nat) : Option (Fl × List (D × D)) := match ρ[i]? with
  | some (some (.own, .dict ds)) => some (.own, ds)
  | some (some (.io, .dict ds)) => some (.io, ds)
  | _ => none
theorem mutD_some {ρ : Rho} {i : Nat} {fl : Fl} {ds : List (D × D)} (h : mutD ρ i = some (fl, ds)) : fl.mut = true ∧ ρ[i]? = some (some (fl, .dict ds)) := by
  unfold mutD at h
  split at h
  · rename_i e; cases h; exact ⟨rfl, e⟩
  · rename_i e; cases h; exact ⟨rfl, e⟩
  · cases h
/-- d[k] = v, whichever the keys are -/
def sDPutK (K : PySem.W.Frag) (td ty tv : TE) : TS := fun Dn σ H => tv σ H fun v H1 => td σ H1 fun x H2 => ty σ H2 fun y H3 => ∃ a, x = .ref a ∧ ((∃ H4, DPut H3 a y v H4 ∧ Dn.nx σ H4) ∨
  ∃ (b : Addr) (k : NestedKey) (kd : D) (xs : List (NestedKey × Addr × Value)) (ds : List (D × D)), y = .ref b ∧ Dd K H3 (.ref b) kd ∧ keyT kd = some k ∧ KdAt K H3 a xs ds ∧ (∃ d, Dd K H3 v d) ∧ Mut (H3 a) ∧ xs.length < sizeLine ∧ ∀ oc u, RelV v u → KFx a oc (storedH xs k b u) → Dn.nx σ (upd H3 a (KO a oc)))
theorem storedH_ne {xs : List (NestedKey × Addr × Value)} {k : NestedKey} {b : Addr} {u : Value} : storedH xs k b u ≠ [] := by
  unfold storedH
  split
  · rename_i h
    intro e
    have : xs = [] := List.map_eq_nil_iff.mp e
    subst this
    cases h
  · simp
theorem storedH_len {xs : List (NestedKey × Addr × Value)} {k : NestedKey} {b : Addr} {u : Value} : (storedH xs k b u).length ≤ xs.length + 1 := by
  unfold storedH
  split
  · rw [List.length_map]; omega
  · rw [List.length_append]; exact Nat.le_refl _
theorem ps_dputK {o i value : Expr} {td ty tv : TE} {pos' : Pos} (hu : X.A.units + 64 < cLine) (ho : PE X o td) (hi : PE X i ty) (hv : PE X value tv) (hs : swapsWith value (some (.Subscript o i pos')) pos.line X.env = pure false) :
    PS X (.Assign [.Subscript o i pos'] value pos) (sDPutK X.K td ty tv) := by
  refine ⟨fun pins s σ H Dn I h => ?_⟩
  refine wpAny_Assign_Subscript (thn (hv.run pins s σ H _ I h) fun r s1 ⟨v, H1, I1, rv, q1⟩ => thn (ho.run pins s1 σ H1 _ I1 q1) fun u s2 ⟨x, H2, I2, rx, q2⟩ => thn (hi.run pins s2 σ H2 _ I2 q2) fun iv s3 ⟨y, H3, I3, ry, a, ex, q3⟩ => ?_) hs
  subst ex
  obtain rfl : u = Value.ref a := rx
  rcases q3 with ⟨H4, g, q3⟩ | ⟨b, k, kd, ys, ds, ey, hk, ek, hd, ⟨d, hvd⟩, mu, hl, q3⟩
  · exact d_setItem (by omega) I3 g ry rv fun s4 I4 => ⟨σ, H4, I4, q3⟩
  · subst ey
    obtain rfl : iv = Value.ref b := ry
    obtain ⟨n1, n2, dd⟩ := hd.of I3.hok
    refine wpAny_setItem_heap (hsz := n2) (k_room hu) (keyT_is I3.hok hk ek) dd fun h' dd' hs' => ?_
    obtain ⟨oc, es, ep, hg, h2, h3, h4, _, h5⟩ := dd'
    have kp := hd.1.put hk ek rv hvd
    have f : KFx a oc (storedH ys k b r) := ⟨n1, h2, ⟨es, ep, h3, fun P w => by rw [h4]; exact kp.entries⟩, h5, by have := storedH_len (xs := ys) (k := k) (b := b) (u := r); omega, storedH_ne⟩
    have nw : ObjOk X.prog X.w (upd H3 a (KO a oc)) h' a (KO a oc) := ⟨hg, ⟨oc, hg⟩, fun h1 h2 e1 e2 => e2 _ e1⟩
    exact ⟨σ, _, d_write I3 mu hs' ⟨oc, hg⟩ nw, q3 oc r rv f⟩
def dputS (i : Nat) (mi me : Rho → Option Res) : Rho → Option Out := fun ρ => match mutD ρ i with
  | some (fl, ds) => (match me ρ with
    | some (.ok d) => (match mi ρ with
      | some (.ok k) => (match dkey k with
        | some _ => if ds.length < 16777216 then (if isK ds = true then none else some (.next (ρ.set i (some (fl, .dict (dputL ds k d)))))) else none
        | none => (match keyT k with
          | some _ => if ds.length < 16777216 then (if tupK ds = true then some (.next (ρ.set i (some (fl, .dict (dputL ds k d))))) else none) else none
          | none => none))
      | some (.exc c p) => some (.exc c p)
      | none => none)
    | some (.exc c p) => some (.exc c p)
    | none => none)
  | none => none
theorem js_dput {i : Nat} {x : Str} {p1 tpos : Pos} {ix : Expr} {si : Src} {mi me : Rho → Option Res} (hu : X.A.units + 64 < cLine) (hN : X.N[i]? = some x) (hv : Vis X.env.scope x) (hd : (x == ("__debug__" : Str)) = false) (hcd : (x == ("__classdict__" : Str)) = false) (he : JD X xs W a me) (hi : JE X xs W ix si mi)
    (hs : swapsWith a (some (.Subscript (.Name x p1) ix tpos)) pos.line X.env = pure false) :
    JS X xs W nw (.Assign [.Subscript (.Name x p1) ix tpos] a pos) (dputS i mi me) := by
  refine ps_of (ps_dputK hu (pe_var hN hv hd hcd) hi he hs) fun Dn σ H h => ?_
  obtain ⟨en, ρ, H0, rr, p⟩ := h
  refine ⟨en, ρ, H0, rr, ?_⟩
  unfold dputS at p
  cases em : mutD ρ i with
  | none => rw [em] at p; exact p.elim
  | some fd =>
    obtain ⟨fl, ds⟩ := fd
    rw [em] at p
    dsimp only at p
    obtain ⟨hf, e⟩ := mutD_some em
    obtain ⟨v0, s1, k2⟩ := rr.slot i fl _ e
    obtain ⟨q, ev, mo, _⟩ := k2.mut hf
    subst ev
    cases e1 : me ρ with
    | none => rw [e1] at p; exact p.elim
    | some r1 =>
      rw [e1] at p
      cases r1 with
      | exc c q => exact fun cls dd A B x z => p σ rr.hl cls dd A B (rr.ext.trans x) z
      | ok d =>
        intro v A B x1 z1
        dsimp only at p
        refine ⟨.ref q, s1, en, ρ, A, rr.mono x1, ?_⟩
        cases e2 : mi ρ with
        | none => rw [e2] at p; exact p.elim
        | some r2 =>
          rw [e2] at p
          cases r2 with
          | exc c q => exact fun cls dd A2 B2 x2 z2 => p σ rr.hl cls dd A2 B2 (rr.ext.trans (x1.trans x2)) z2
          | ok dk =>
            intro vk A2 B2 x2 z2
            have x12 := x1.trans x2
            dsimp only at p
            have mo2 := mo.mono x12
            cases ek : dkey dk with
            | none =>
              rw [ek] at p
              dsimp only at p
              cases et : keyT dk with
              | none => rw [et] at p; exact p.elim
              | some key =>
                rw [et] at p
                dsimp only at p
                split at p
                · rename_i hz
                  split at p
                  · rename_i ht
                    obtain ⟨b, rfl, kb⟩ := z2.rb.keyT x2.sub et
                    have zv := z1.mono x2.s0
                    cases mo2 with
                    | dic g1 g2 g3 =>
                      obtain ⟨rfl, rfl⟩ := g3.notK ht
                      refine ⟨q, rfl, .inr ⟨b, key, dk, [], [], rfl, kb.mono x2.sub, et, ⟨.nil, .inr ⟨.inl g2, rfl⟩⟩, ⟨d, zv.mono x2.sub⟩, by rw [g2]; exact trivial, by rw [sizeLine_eq]; exact hz, fun oc u ru f => ?_⟩⟩
                      exact p _ _ _ ((rr.mono x12).write hf e s1 (.dic g1 g2 g3) (.kd g1 upd_same f (Kdk.put kb et ru zv .nil))) x12.s0
                    | kd g1 g2 g3 g4 =>
                      rename_i oc0 xs0
                      refine ⟨q, rfl, .inr ⟨b, key, dk, xs0, ds, rfl, kb.mono x2.sub, et, ⟨g4.mono x2.sub, .inl ⟨oc0, g2, g3⟩⟩, ⟨d, zv.mono x2.sub⟩, by rw [g2]; exact trivial, by rw [g4.length, sizeLine_eq]; exact hz, fun oc u ru f => ?_⟩⟩
                      exact p _ _ _ ((rr.mono x12).write hf e s1 (.kd g1 g2 g3 g4) (.kd g1 upd_same f (Kdk.put kb et ru zv g4))) x12.s0
                  · exact p.elim
                · exact p.elim
            | some key =>
              rw [ek] at p
              dsimp only at p
              split at p
              · rename_i hz
                split at p
                · exact p.elim
                · rename_i hno
                  cases kV_dd z2.rb ek
                  cases mo2 with
                  | dic g1 g2 g3 =>
                    rename_i kvs
                    refine ⟨q, rfl, .inl ⟨_, DPut.k g2 (by rw [g3.length, sizeLine_eq]; exact hz), ?_⟩⟩
                    refine p _ _ _ ((rr.mono x12).write hf e s1 (.dic g1 g2 g3) (.dic g1 upd_same ?_)) x12.s0
                    rw [dkey_some ek]
                    exact g3.put key (z1.mono x2.s0)
                  | kd g1 g2 g3 g4 => exact absurd (g4.isK g3.ne) hno
              · exact p.elim
/-! ### {}, {k: v} -/
theorem je_dct0 : JE X xs W (.Dict [] [] pos) .new (fun _ => some (.ok (.dict []))) := by
  refine pe_of pe_dnewK fun σ H Q h => ?_
  obtain ⟨en, ρ, H0, rr, p⟩ := h
  exact fun q nq => p (.ref q) H0 _ (ext_new rr.sub nq) (.inr ⟨q, rfl, .dic (not_settled rr.sub nq) upd_same .nil, nq⟩)
def dct1 : D → D → Option D := fun k v => match dkey k with
  | some _ => some (.dict [(k, v)])
  | none => none
theorem je_dct1 {b : Expr} {mb : Rho → Option Res} (ha : JE X xs W a sa ma) (hb : JD X xs W b mb) : JE X xs W (.Dict [some a] [b] pos) .new (lift2 dct1 ma mb) := by
  refine pe_of (pe_disp (pps_cons ha hb pps_nil) rfl rfl (by simp) (by simp)) fun σ H Q h => ?_
  obtain ⟨en, ρ, H0, rr, p⟩ := h
  intro q nq
  have x0 := ext_new (o := .dK []) rr.sub nq
  refine ⟨en, ρ, H0, rr.mono x0, ?_⟩
  unfold lift2 at p
  cases e1 : ma ρ with
  | none => rw [e1] at p; exact p.elim
  | some r1 =>
    rw [e1] at p
    cases r1 with
    | exc c z => exact fun cls dd A B x1 z1 => p cls dd A B (x0.trans x1) z1
    | ok dk =>
      intro vk A B x1 z1
      dsimp only at p
      refine ⟨en, ρ, A, (rr.mono x0).mono x1, ?_⟩
      cases e2 : mb ρ with
      | none => rw [e2] at p; exact p.elim
      | some r2 =>
        rw [e2] at p
        cases r2 with
        | exc c z => exact fun cls dd A2 B2 x2 z2 => p cls dd A2 B2 (x0.trans (x1.trans x2)) z2
        | ok dv =>
          intro vv A2 B2 x2 z2
          dsimp only at p
          unfold dct1 at p
          cases ek : dkey dk with
          | none => rw [ek] at p; exact p.elim
          | some key =>
            rw [ek] at p
            cases kV_dd z1.rb ek
            have x12 := x1.trans x2
            have hq : B2 q = some (.dK []) := x12.s _ _ upd_same
            have nq0 : A2 q = none := by rw [x12.new _ _ upd_same]; exact not_settled rr.sub nq
            refine ⟨hq, [(key, vv)], rfl, by simp, ?_⟩
            have x02 := x0.trans x12
            refine p (.ref q) A2 _ ⟨x02.s0, fun c o e => ?_, fun c o e => ?_, x02.new⟩ (.inr ⟨q, rfl, .dic nq0 upd_same ?_, nq⟩)
            · rw [upd_ne (ne_of_none e nq)]; exact x02.s c o e
            · rw [upd_ne (ne_of_none e nq0)]; exact x02.sub c o e
            · rw [dkey_some ek]
              exact .cons z2 .nil
end
end
end DD

namespace DD
noncomputable section
open PySem PySem.Spec PyProof.Rows L2

/-! ### a, b = x, y -/
/-- new (true) or settled -/
def RX (b : Bool) (K : PySem.W.Frag) (H H0' H' : Hp) (v : V) (d : D) : Prop := match b with
  | true => RS true K H H0' H' v d
  | false => Dd K H0' v d
def PostX (b : Bool) (K : PySem.W.Frag) (mg : Str → Option Value) (xs : List Str) (W : WX) (σ : L2.St) (H0 H : Hp) (Q : VK) : Option Res → Prop
  | none => False
  | some (.ok d) => ∀ v H0' H', Ext H0 H H0' H' → RX b K H H0' H' v d → Q v H'
  | some (.exc c p) => ∀ cls dd H0' H', Ext H0 H H0' H' → ExcIs K mg xs c p cls dd H0' H' → W cls dd σ H'
def TauX (b : Bool) (K : PySem.W.Frag) (mg : Str → Option Value) (xs : List Str) (W : WX) (m : Rho → Option Res) : TE := fun σ H Q => ∃ en ρ H0, R K en ρ H0 σ H ∧ PostX b K mg xs W σ H0 H Q (m ρ)
def JX (b : Bool) (X : Cx) (xs : List Str) (W : WX) (e : Expr) (m : Rho → Option Res) : Prop := PE X e (TauX b X.K X.mg xs W m)
def bindX (b : Bool) (i : Nat) (d : D) (ρ : Rho) : Option Rho := match b with
  | true => if flatRoot d = true then none else some (ρ.set i (some (.own, d)))
  | false => some (ρ.set i (some (.dat, d)))
theorem set_x {b : Bool} {K : PySem.W.Frag} {en : Ent} {ρ ρ' : Rho} {H0 H H0' H' : Hp} {σ : L2.St} {v : V} {d : D} {i : Nat} (rr : R K en ρ H0 σ H) (x1 : Ext H0 H H0' H') (z : RX b K H H0' H' v d) (hb : bindX b i d ρ = some ρ') : R K en ρ' H0' (σ.set i (some v)) H' := by
  cases b with
  | true =>
    unfold bindX at hb
    dsimp only at hb
    split at hb
    · cases hb
    · rename_i hf
      cases hb
      exact own_new rr x1 z hf
  | false =>
    unfold bindX at hb
    cases hb
    exact (rr.mono x1).set_dat z
def parK (b1 : Bool) (i : Nat) (m1 : Rho → Option Res) (b2 : Bool) (j : Nat) (m2 : Rho → Option Res) : Rho → Option Out := fun ρ => match m1 ρ with
  | some (.ok d) => (match m2 ρ with
    | some (.ok e) => (match bindX b1 i d ρ with
      | some ρ1 => (match bindX b2 j e ρ1 with
        | some ρ2 => some (.next ρ2)
        | none => none)
      | none => none)
    | some (.exc c p) => some (.exc c p)
    | none => none)
  | some (.exc c p) => some (.exc c p)
  | none => none
section
variable {X : Cx} {xs : List Str} {W : WX} {nw : Mo} {a b : Expr} {pos : Pos}
theorem jx_new {m : Rho → Option Res} (h : JE X xs W a .new m) : JX true X xs W a m := by
  refine pe_of h fun σ H Q q => ?_
  obtain ⟨en, ρ, H0, rr, p⟩ := q
  refine ⟨en, ρ, H0, rr, ?_⟩
  cases e : m ρ with
  | none => rw [e] at p; exact p.elim
  | some r =>
    rw [e] at p
    cases r with
    | ok d => exact fun v A B x z => p v A B x z
    | exc c q => exact p
theorem jx_dat {m : Rho → Option Res} (h : JD X xs W a m) : JX false X xs W a m := by
  refine pe_of h fun σ H Q q => ?_
  obtain ⟨en, ρ, H0, rr, p⟩ := q
  refine ⟨en, ρ, H0, rr, ?_⟩
  cases e : m ρ with
  | none => rw [e] at p; exact p.elim
  | some r =>
    rw [e] at p
    cases r with
    | ok d => exact fun v A B x z => p v A B x z
    | exc c q => exact p
theorem js_par2 {b1 b2 : Bool} {i j : Nat} {x y : Str} {m1 m2 : Rho → Option Res} {px py pt : Pos} {kt k2 : Nat} {pt2 : Pos} (hc : X.calm = true) (hN : X.N.Nodup) (hi : X.N[i]? = some x) (hj : X.N[j]? = some y) (hij : i ≠ j)
    (hx : X.env.scope.names.lookup x = some .local) (hy : X.env.scope.names.lookup y = some .local) (ha : JX b1 X xs W a m1) (hb : JX b2 X xs W b m2)
    (hw : swappedStores [.Tuple [.Name x px, .Name y py] kt pt] (.Tuple [a, b] k2 pt2) X.env = pure (some [x, y])) (hsa : starEach [a, b] X.env = (false, eval a X.env) :: starEach [b] X.env) (hsb : starEach [b] X.env = (false, eval b X.env) :: starEach [] X.env) :
    JS X xs W nw (.Assign [.Tuple [.Name x px, .Name y py] kt pt] (.Tuple [a, b] k2 pt2) pos) (parK b1 i m1 b2 j m2) := by
  refine ps_of (ps_par hc hN hi hj hij hx hy (pa_cons ha (pa_cons hb pa_nil hsb) hsa) hw rfl) fun Dn σ H h => ?_
  obtain ⟨en, ρ, H0, rr, p⟩ := h
  refine ⟨en, ρ, H0, rr, ?_⟩
  unfold parK at p
  cases e1 : m1 ρ with
  | none => rw [e1] at p; exact p.elim
  | some r1 =>
    rw [e1] at p
    cases r1 with
    | exc c q => exact fun cls dd A B x z => p σ rr.hl cls dd A B (rr.ext.trans x) z
    | ok d =>
      intro v A B x1 z1
      dsimp only at p
      refine ⟨en, ρ, A, rr.mono x1, ?_⟩
      cases e2 : m2 ρ with
      | none => rw [e2] at p; exact p.elim
      | some r2 =>
        rw [e2] at p
        cases r2 with
        | exc c q => exact fun cls dd A2 B2 x2 z2 => p σ rr.hl cls dd A2 B2 (rr.ext.trans (x1.trans x2)) z2
        | ok e =>
          intro w A2 B2 x2 z2
          dsimp only at p
          cases eb : bindX b1 i d ρ with
          | none => rw [eb] at p; exact p.elim
          | some ρ1 =>
            rw [eb] at p
            dsimp only at p
            cases ec : bindX b2 j e ρ1 with
            | none => rw [ec] at p; exact p.elim
            | some ρ2 =>
              rw [ec] at p
              exact ⟨v, w, rfl, p _ _ _ (set_x (set_x rr x1 z1 eb) x2 z2 ec) (x1.trans x2).s0⟩
end
/-- the conditions under which the two stores go from the right -/
def parB (sc : Scope) (x y : Str) (px py : Pos) (a b : Expr) : Bool :=
  decide (sc.names.lookup x = some .local) && decide (sc.names.lookup y = some .local) && (py.line == px.line) && !(x == y) && !([a, b].all (foldedForSure 8)) && !([a, b].all (constantsAlone 8))
theorem par_sw {env : Env} {x y : Str} {px py pt pt2 : Pos} {kt k2 : Nat} {a b : Expr} (hk : env.scope.kind = .function) (h : parB env.scope x y px py a b = true) (na : ∀ e p, a ≠ .Starred e p) (nb : ∀ e p, b ≠ .Starred e p) :
    swappedStores [.Tuple [.Name x px, .Name y py] kt pt] (.Tuple [a, b] k2 pt2) env = pure (some [x, y]) := by
  unfold parB at h
  simp only [Bool.and_eq_true, decide_eq_true_eq, Bool.not_eq_true'] at h
  obtain ⟨⟨⟨⟨⟨h1, h2⟩, h3⟩, h4⟩, h5⟩, h6⟩ := h
  have hb : env.blockKind = .function := by unfold Env.blockKind; rw [hk]; rfl
  have kx : env.kindOf x = some .local := h1
  have ky : env.kindOf y = some .local := h2
  have s1 : (match a with | .Starred .. => true | _ => false) = false := by
    cases a <;> first | rfl | exact absurd rfl (na _ _)
  have s2 : (match b with | .Starred .. => true | _ => false) = false := by
    cases b <;> first | rfl | exact absurd rfl (nb _ _)
  have e3 : py.line = px.line := by simpa using h3
  have e4 : x ≠ y := by
    intro e; subst e; simp at h4
  unfold swappedStores
  simp only [hb, kx, ky, List.length_cons, List.length_nil, List.any_cons, List.any_nil, s1, s2, List.head?_cons, Option.map_some, Option.getD_some, Expr.pos, List.filterMap_cons, List.filterMap_nil, e3, beq_self_eq_true, Bool.and_self, if_true]
  simp [h5, h6, List.eraseDups, List.eraseDupsBy, e4]
  intro hh
  exfalso
  apply hh
  have h7 : (y == x) = false := beq_eq_false_iff_ne.mpr (fun e => e4 e.symm)
  simp [List.eraseDupsBy.loop, h7, h4]
/-! ### a thing lent to a def -/
/-- settled arguments, but for the lent one -/
inductive Argx (K : PySem.W.Frag) (H0 : Hp) (u : V) : Option Nat → List V → List D → Prop
  | nil : Argx K H0 u none [] []
  | io {d : D} {vs : List V} {ds : List D} : Argx K H0 u none vs ds → Argx K H0 u (some 0) (u :: vs) (d :: ds)
  | one {v : V} {d : D} {vs : List V} {ds : List D} : Dd K H0 v d → Argx K H0 u none vs ds → Argx K H0 u none (v :: vs) (d :: ds)
  | cons {k : Nat} {v : V} {d : D} {vs : List V} {ds : List D} : Dd K H0 v d → Argx K H0 u (some k) vs ds → Argx K H0 u (some (k + 1)) (v :: vs) (d :: ds)
theorem Argx.length {K : PySem.W.Frag} {H0 : Hp} {u : V} {o : Option Nat} {vs : List V} {ds : List D} (h : Argx K H0 u o vs ds) : vs.length = ds.length := by
  induction h with
  | nil => rfl
  | io _ ih => rw [List.length_cons, List.length_cons, ih]
  | one _ _ ih => rw [List.length_cons, List.length_cons, ih]
  | cons _ _ ih => rw [List.length_cons, List.length_cons, ih]
theorem Argx.mono {K : PySem.W.Frag} {H0 H0' : Hp} {u : V} {o : Option Nat} {vs : List V} {ds : List D} (s : Same H0 H0') (h : Argx K H0 u o vs ds) : Argx K H0' u o vs ds := by
  induction h with
  | nil => exact .nil
  | io _ ih => exact .io ih
  | one h _ ih => exact .one (h.mono s) ih
  | cons h _ ih => exact .cons (h.mono s) ih
theorem Argx.at {K : PySem.W.Frag} {H0 : Hp} {u : V} {o : Option Nat} {vs : List V} {ds : List D} (h : Argx K H0 u o vs ds) : ∀ k, o = some k → vs[k]? = some u := by
  induction h with
  | nil => intro k e; cases e
  | io _ _ => intro k e; cases e; rfl
  | one _ _ _ => intro k e; cases e
  | cons _ _ ih => intro k e; cases e; exact ih _ rfl
theorem Argx.other {K : PySem.W.Frag} {H0 : Hp} {u : V} {o : Option Nat} {vs : List V} {ds : List D} (h : Argx K H0 u o vs ds) : ∀ (i : Nat) d, o ≠ some i → ds[i]? = some d → ∃ v, vs[i]? = some v ∧ Dd K H0 v d := by
  induction h with
  | nil => intro i d _ e; simp at e
  | io _ ih =>
    intro i d hi e
    cases i with
    | zero => exact absurd rfl hi
    | succ i => simp only [List.getElem?_cons_succ] at e ⊢; exact ih i d (fun e => nomatch e) e
  | one h _ ih =>
    intro i d hi e
    cases i with
    | zero => simp at e; subst e; exact ⟨_, rfl, h⟩
    | succ i => simp only [List.getElem?_cons_succ] at e ⊢; exact ih i d (fun e => nomatch e) e
  | cons h _ ih =>
    intro i d hi e
    cases i with
    | zero => simp at e; subst e; exact ⟨_, rfl, h⟩
    | succ i => simp only [List.getElem?_cons_succ] at e ⊢; exact ih i d (fun e => hi (by cases e; rfl)) e
/-- what a def keeps to whom a thing is lent at its place k: phi gives the answer and what the thing holds behind the call -/
def spIO (K : PySem.W.Frag) (n k : Nat) (phi : List D → Option Res) : Sp := fun vs H Q _ => vs.length = n ∧ ∃ (H0 : Hp) (ds : List D) (a : Addr) (d r x : D), Same H0 H ∧ Argx K H0 (.ref a) (some k) vs ds ∧ ds[k]? = some d ∧ MO K H0 H a d ∧ phi ds = some (.ok (.tuple [r, x])) ∧
  ∀ v H0' H', Ext H0 (del H a) H0' H' → Dd K H0' v r → MO K H0' H' a x → Q v H'
section
variable (K : PySem.W.Frag) (mg : Str → Option Value) (xs : List Str) (W : WX)
def PostAX (o : Option Nat) (i : Nat) (σ : L2.St) (H0 H : Hp) (Q : List V → Hp → Prop) : Option ResL → Prop
  | none => False
  | some (.ok ds) => ∀ u vs H0' H', σ[i]? = some (some u) → Ext H0 H H0' H' → Argx K H0' u o vs ds → Q vs H'
  | some (.exc c p) => ∀ cls dd H0' H', Ext H0 H H0' H' → ExcIs K mg xs c p cls dd H0' H' → W cls dd σ H'
def TauAX (o : Option Nat) (i : Nat) (m : Rho → Option ResL) : TA := fun σ H Q => ∃ en ρ H0 u, R K en ρ H0 σ H ∧ σ[i]? = some (some u) ∧ PostAX K mg xs W o i σ H0 H Q (m ρ)
end
def JAX (o : Option Nat) (i : Nat) (X : Cx) (xs : List Str) (W : WX) (es : List Expr) (m : Rho → Option ResL) : Prop := PA X es (TauAX X.K X.mg xs W o i m)
section
variable {X : Cx} {xs : List Str} {W : WX} {nw : Mo} {i : Nat}
theorem jax_nil : JAX none i X xs W [] (fun _ => some (.ok [])) := by
  refine pa_of pa_nil fun σ H Q h => ?_
  obtain ⟨en, ρ, H0, u, r, hu, p⟩ := h
  exact p u [] H0 H hu (Ext.refl r.sub) .nil
theorem jax_cons {o o' : Option Nat} {e : Expr} {es : List Expr} {m : Rho → Option Res} {ms : Rho → Option ResL} (he : JD X xs W e m) (hr : JAX o i X xs W es ms) (ho : o' = o.map (· + 1))
    (hs : starEach (e :: es) X.env = (false, eval e X.env) :: starEach es X.env) : JAX o' i X xs W (e :: es) (consA m ms) := by
  subst ho
  refine pa_of (pa_cons he hr hs) fun σ H Q h => ?_
  obtain ⟨en, ρ, H0, u, rr, hu, p⟩ := h
  refine ⟨en, ρ, H0, rr, ?_⟩
  unfold consA at p
  cases e1 : m ρ with
  | none => rw [e1] at p; exact p.elim
  | some r1 =>
    rw [e1] at p
    cases r1 with
    | exc c q => exact p
    | ok d1 =>
      intro v H0' H' x1 z1
      refine ⟨en, ρ, H0', u, rr.mono x1, hu, ?_⟩
      simp only at p
      cases e2 : ms ρ with
      | none => rw [e2] at p; exact p.elim
      | some r2 =>
        rw [e2] at p
        cases r2 with
        | exc c q => exact fun cls dd A B x2 z2 => p cls dd A B (x1.trans x2) z2
        | ok d2 =>
          intro u' vs H02 H2 hu' x2 z2
          refine p u' (v :: vs) H02 H2 hu' (x1.trans x2) ?_
          cases o with
          | none => exact .one (z1.mono x2.s0) z2
          | some k => exact .cons (z1.mono x2.s0) z2
theorem jax_io {x : Str} {es : List Expr} {ms : Rho → Option ResL} {p0 : Pos} (hN : X.N[i]? = some x) (hv : Vis X.env.scope x) (hd : (x == ("__debug__" : Str)) = false) (hcd : (x == ("__classdict__" : Str)) = false) (hr : JAX none i X xs W es ms)
    (hs : starEach (.Name x p0 :: es) X.env = (false, eval (.Name x p0) X.env) :: starEach es X.env) : JAX (some 0) i X xs W (.Name x p0 :: es) (consA (fun ρ => slotVal ρ i) ms) := by
  refine pa_of (pa_cons (pe_var hN hv hd hcd) hr hs) fun σ H Q h => ?_
  obtain ⟨en, ρ, H0, u, rr, hu, p⟩ := h
  refine ⟨u, hu, en, ρ, H0, u, rr, hu, ?_⟩
  unfold consA at p
  dsimp only at p
  cases e1 : slotVal ρ i with
  | none => rw [e1] at p; exact p.elim
  | some r1 =>
    rw [e1] at p
    cases r1 with
    | exc c q => unfold slotVal at e1; split at e1 <;> cases e1
    | ok d1 =>
      simp only at p
      cases e2 : ms ρ with
      | none => rw [e2] at p; exact p.elim
      | some r2 =>
        rw [e2] at p
        cases r2 with
        | exc c q => exact fun cls dd A B x2 z2 => p cls dd A B x2 z2
        | ok d2 =>
          intro u' vs H02 H2 hu' x2 z2
          rw [hu] at hu'
          cases hu'
          exact p u (u :: vs) H02 H2 hu x2 (.io z2)
/-- the call as a statement: the answer handed on, the lent slot changed -/
def ioV (phi : List D → Option Res) (ms : Rho → Option ResL) (i : Nat) (k : Rho → D → Option Out) : Rho → Option Out := fun ρ => match ρ[i]? with
  | some (some (fl, _)) => if fl.mut = true then (match ms ρ with
    | some (.ok ds) => (match phi ds with
      | some (.ok (.tuple [r, x])) => k (ρ.set i (some (fl, x))) r
      | _ => none)
    | some (.exc c p) => some (.exc c p)
    | none => none) else none
  | _ => none
theorem tau_io {kk n : Nat} {phi : List D → Option Res} {ms : Rho → Option ResL} {E : XK} (hl : ∀ ρ ds, ms ρ = some (.ok ds) → ds.length = n) (hlk : ∀ ρ ds, ms ρ = some (.ok ds) → ∃ d fl, ds[kk]? = some d ∧ ρ[i]? = some (some (fl, d)))
    {kn : Rho → D → Option Out} {Dn : Ends} {σ : L2.St} {H : Hp} (h : TauS X.K X.mg xs W nw (ioV phi ms i kn) Dn σ H) {Q : VK} (hq : ∀ en ρ H0 r v H0' H', R X.K en ρ H0' σ H' → Same H0 H0' → Dd X.K H0' v r → PostS X.K X.mg xs W nw en H0 Dn (kn ρ r) → Q v H') :
    TauAX X.K X.mg xs W (some kk) i ms σ H (fun vs H1 => spIO X.K n kk phi vs H1 Q E) := by
  obtain ⟨en, ρ, H0, rr, p⟩ := h
  unfold ioV at p
  cases e0 : ρ[i]? with
  | none => rw [e0] at p; exact p.elim
  | some s0 =>
    rw [e0] at p
    cases s0 with
    | none => exact p.elim
    | some fd' =>
      obtain ⟨fl, d0⟩ := fd'
      dsimp only at p
      split at p
      · rename_i hf
        obtain ⟨v0, s1, k2⟩ := rr.slot i fl _ e0
        obtain ⟨q, ev, mo, _⟩ := k2.mut hf
        subst ev
        refine ⟨en, ρ, H0, .ref q, rr, s1, ?_⟩
        cases e1 : ms ρ with
        | none => rw [e1] at p; exact p.elim
        | some r1 =>
          rw [e1] at p
          cases r1 with
          | exc c z => exact fun cls dd A B x z => p σ rr.hl cls dd A B (rr.ext.trans x) z
          | ok ds =>
            intro u vs A B hu x1 z1
            rw [s1] at hu
            cases hu
            dsimp only at p
            obtain ⟨d, fl', hd1, hd2⟩ := hlk ρ ds e1
            rw [e0] at hd2
            cases hd2
            cases e2 : phi ds with
            | none => rw [e2] at p; exact p.elim
            | some r2 =>
              rw [e2] at p
              cases r2 with
              | exc c z => exact p.elim
              | ok dd =>
                cases dd with
                | tuple l =>
                  match l, p, e2 with
                  | [r, x], p, e2 =>
                    refine ⟨by rw [z1.length]; exact hl ρ ds e1, A, ds, q, d0, r, x, x1.sub, z1, hd1, mo.mono x1, e2, fun v H3 H4 x3 g1 g2 => ?_⟩
                    have rr1 := (rr.mono x1).wrote hf e0 s1 x3 g2
                    exact hq en _ H0 r v H3 H4 rr1 (x1.s0.trans x3.s0) g1 p
                  | [], p, _ => exact p.elim
                  | [_], p, _ => exact p.elim
                  | _ :: _ :: _ :: _, p, _ => exact p.elim
                | _ => exact p.elim
      · exact p.elim
def nxK : Rho → D → Option Out := fun ρ _ => some (.next ρ)
section
variable {k kk : Nat} {f : Addr} {fd : FuncData} {ps : List Str} {x : Str} {p : Pos} {e : Expr} {es : List Expr} {phi : List D → Option Res} {ms : Rho → Option ResL} {pos : Pos}
theorem js_io {spos : Pos} (tk : Takes X W) (F : FnOk X.prog X.w X.K X.mg X.base (L2.CX X.prog X.w) k f fd ps (spIO X.K ps.length kk phi)) (hr : Room k X.A) (hg : Gl X x) (hm : X.mg x = some (.ref f)) (hk : PySem.W.keepIn X.K (.ref f) = true) (hb : Binds X.K fd ps [])
    (ha : JAX (some kk) i X xs W (e :: es) ms) (hl : ∀ ρ ds, ms ρ = some (.ok ds) → ds.length = ps.length) (hlk : ∀ ρ ds, ms ρ = some (.ok ds) → ∃ d fl, ds[kk]? = some d ∧ ρ[i]? = some (some (fl, d))) (hdb : (x == ("__debug__" : Str)) = false) (he : starEach (e :: es) X.env = (false, eval e X.env) :: starEach es X.env) (hpl : (backTo pos (starEach es X.env)).any (·.1) = false) :
    JS X xs W nw (.Expr (.Call (.Name x p) (e :: es) [] pos) spos) (ioV phi ms i nxK) :=
  ps_of (ps_expr (pe_callS F hr hg hm hk hb (fun σ => passAt tk σ) ha hdb he hpl) rfl) fun Dn σ H h => tau_io hl hlk h fun en ρ H0 r v H0' H' rr s0 _ p => p _ _ _ rr s0
theorem js_ioAug {j : Nat} {y : Str} {op : Operator} {r : R2} {g : D → D → Option D} {p' spos : Pos} (hij : i ≠ j) (hN : X.N.Nodup) (hj : X.N[j]? = some y) (hy : Loc X.env.scope y) (ho : OpR X (inplaceOp op) r) (hg2 : Op2Ok true X.K r g) (hfn : X.fn y = true ∨ X.env.scope.names.lookup y = some .local)
    (tk : Takes X W) (F : FnOk X.prog X.w X.K X.mg X.base (L2.CX X.prog X.w) k f fd ps (spIO X.K ps.length kk phi)) (hr : Room k X.A) (hg : Gl X x) (hm : X.mg x = some (.ref f)) (hk : PySem.W.keepIn X.K (.ref f) = true) (hb : Binds X.K fd ps [])
    (ha : JAX (some kk) i X xs W (e :: es) ms) (hl : ∀ ρ ds, ms ρ = some (.ok ds) → ds.length = ps.length) (hlk : ∀ ρ ds, ms ρ = some (.ok ds) → ∃ d fl, ds[kk]? = some d ∧ ρ[i]? = some (some (fl, d))) (hdb : (x == ("__debug__" : Str)) = false) (he : starEach (e :: es) X.env = (false, eval e X.env) :: starEach es X.env) (hpl : (backTo pos (starEach es X.env)).any (·.1) = false) :
    JS X xs W nw (.AugAssign (.Name y p') op (.Call (.Name x p) (e :: es) [] pos) spos) (seqS (fun ρ => match ρ[j]? with | some (some (.dat, _)) => some (.next ρ) | _ => none) (ioV phi ms i (augK g j))) := by
  refine ps_of (ps_aug hN hj hy (pe_callS F hr hg hm hk hb (fun σ => passAt tk σ) ha hdb he hpl) ho hfn) fun Dn σ H h => ?_
  obtain ⟨en, ρ, H0, rr, p⟩ := h
  unfold seqS at p
  dsimp only at p
  cases ej : ρ[j]? with
  | none => rw [ej] at p; exact p.elim
  | some s0 =>
    rw [ej] at p
    cases s0 with
    | none => exact p.elim
    | some fd' =>
      obtain ⟨fl, d0⟩ := fd'
      cases fl with
      | dat =>
        dsimp only at p
        obtain ⟨v0, h1, h2⟩ := rr.slot j .dat d0 ej
        refine ⟨v0, h1, ?_⟩
        have h2' : Dd X.K H0 v0 d0 := h2
        refine tau_io (H := H) hl hlk (⟨en, ρ, H0, rr, p⟩ : TauS X.K X.mg xs W nw (ioV phi ms i (augK g j)) Dn σ H) fun en' ρ' H0a rv v A B rr' sA z p' => ?_
        unfold augK at p'
        cases ej' : ρ'[j]? with
        | none => rw [ej'] at p'; exact p'.elim
        | some s1 =>
          rw [ej'] at p'
          cases s1 with
          | none => exact p'.elim
          | some fd2 =>
            obtain ⟨fl2, d2⟩ := fd2
            dsimp only at p'
            obtain ⟨v2, g1, g2⟩ := rr'.slot j fl2 d2 ej'
            rw [h1] at g1
            cases g1
            have hb2 : RB X.K A B v0 d2 := by
              cases fl2 with
              | own => obtain ⟨q, e1, m, _⟩ := g2; exact .inr ⟨q, e1, m⟩
              | io => obtain ⟨q, e1, m, _⟩ := g2; exact .inr ⟨q, e1, m⟩
              | bor =>
                rcases g2 with g2 | ⟨q, e1, m, _⟩
                · exact .inl g2
                · exact .inr ⟨q, e1, m⟩
              | dat => exact .inl g2
            cases ef : g d2 rv with
            | none => rw [ef] at p'; exact p'.elim
            | some y2 =>
              rw [ef] at p'
              dsimp only at p'
              split at p'
              · rename_i hfl
                refine hg2 A B v0 v d2 rv y2 _ rr'.sub hb2 (.inl z) ef fun v3 A3 B3 x3 z3 => ?_
                rcases z3 with ⟨z3, _⟩ | ⟨q, _, mo, _⟩
                · exact p' _ _ _ ((rr'.mono x3).set_dat z3) (sA.trans x3.s0)
                · cases mo <;> simp [flatRoot] at hfl
              · exact p'.elim
      | _ => exact p.elim
/-- the last argument is a new thing that nobody else holds -/
inductive ArgT (K : PySem.W.Frag) (H0 : Hp) (u : V) : Nat → List V → List D → Prop
  | last {d : D} : ArgT K H0 u 0 [u] [d]
  | cons {k : Nat} {v : V} {d : D} {vs : List V} {ds : List D} : Dd K H0 v d → ArgT K H0 u k vs ds → ArgT K H0 u (k + 1) (v :: vs) (d :: ds)
theorem ArgT.argx {K : PySem.W.Frag} {H0 : Hp} {u : V} {k : Nat} {vs : List V} {ds : List D} (h : ArgT K H0 u k vs ds) : Argx K H0 u (some k) vs ds := by
  induction h with
  | last => exact .io .nil
  | cons h _ ih => exact .cons h ih
def PostAT (K : PySem.W.Frag) (mg : Str → Option Value) (xs : List Str) (W : WX) (kk : Nat) (σ : L2.St) (H0 H : Hp) (Q : List V → Hp → Prop) : Option ResL → Prop
  | none => False
  | some (.ok ds) => ∀ a d vs H0' H', Ext H0 H H0' H' → H a = none → ds[kk]? = some d → MO K H0' H' a d → ArgT K H0' (.ref a) kk vs ds → Q vs H'
  | some (.exc c p) => ∀ cls dd H0' H', Ext H0 H H0' H' → ExcIs K mg xs c p cls dd H0' H' → W cls dd σ H'
def TauAT (K : PySem.W.Frag) (mg : Str → Option Value) (xs : List Str) (W : WX) (kk : Nat) (m : Rho → Option ResL) : TA := fun σ H Q => ∃ en ρ H0, R K en ρ H0 σ H ∧ PostAT K mg xs W kk σ H0 H Q (m ρ)
def JAT (kk : Nat) (X : Cx) (xs : List Str) (W : WX) (es : List Expr) (m : Rho → Option ResL) : Prop := PA X es (TauAT X.K X.mg xs W kk m)
/-- no flat thing is lent -/
def newA (m : Rho → Option Res) : Rho → Option ResL := fun ρ => match m ρ with
  | some (.ok d) => if flatRoot d = true then none else some (.ok [d])
  | some (.exc c p) => some (.exc c p)
  | none => none
theorem jat_last {e : Expr} {m : Rho → Option Res} (he : JE X xs W e .new m) (hs : starEach [e] X.env = (false, eval e X.env) :: starEach [] X.env) : JAT 0 X xs W [e] (newA m) := by
  refine pa_of (pa_cons he pa_nil hs) fun σ H Q h => ?_
  obtain ⟨en, ρ, H0, rr, p⟩ := h
  refine ⟨en, ρ, H0, rr, ?_⟩
  unfold newA at p
  cases e1 : m ρ with
  | none => rw [e1] at p; exact p.elim
  | some r1 =>
    rw [e1] at p
    cases r1 with
    | exc c q => exact p
    | ok d =>
      intro v H0' H' x1 z1
      dsimp only at p
      split at p
      · exact p.elim
      · rename_i hf
        have z : RS true X.K H H0' H' v d := z1
        rcases z with ⟨_, z⟩ | ⟨a, rfl, m, n⟩
        · exact absurd (z rfl) hf
        · exact p a d _ H0' H' x1 n rfl m .last
theorem jat_cons {kk : Nat} {e : Expr} {es : List Expr} {m : Rho → Option Res} {ms : Rho → Option ResL} (he : JD X xs W e m) (hr : JAT kk X xs W es ms) (hs : starEach (e :: es) X.env = (false, eval e X.env) :: starEach es X.env) :
    JAT (kk + 1) X xs W (e :: es) (consA m ms) := by
  refine pa_of (pa_cons he hr hs) fun σ H Q h => ?_
  obtain ⟨en, ρ, H0, rr, p⟩ := h
  refine ⟨en, ρ, H0, rr, ?_⟩
  unfold consA at p
  cases e1 : m ρ with
  | none => rw [e1] at p; exact p.elim
  | some r1 =>
    rw [e1] at p
    cases r1 with
    | exc c q => exact p
    | ok d1 =>
      intro v H0' H' x1 z1
      refine ⟨en, ρ, H0', rr.mono x1, ?_⟩
      simp only at p
      cases e2 : ms ρ with
      | none => rw [e2] at p; exact p.elim
      | some r2 =>
        rw [e2] at p
        cases r2 with
        | exc c q => exact fun cls dd A B x2 z2 => p cls dd A B (x1.trans x2) z2
        | ok d2 => exact fun a d vs A B x2 n hd mo g => p a d (v :: vs) A B (x1.trans x2) (x1.s.free n) hd mo (.cons (z1.mono x2.s0) g)
def callT (phi : List D → Option Res) (ma : Rho → Option ResL) : Rho → Option Res := fun ρ => match ma ρ with
  | some (.ok ds) => (match phi ds with
    | some (.ok (.tuple [r, _])) => some (.ok r)
    | _ => none)
  | some (.exc c p) => some (.exc c p)
  | none => none
theorem je_callT {k kk : Nat} {f : Addr} {fd : FuncData} {ps : List Str} {x : Str} {p : Pos} {e : Expr} {es : List Expr} {phi : List D → Option Res} {ms : Rho → Option ResL} {pos : Pos} (tk : Takes X W)
    (F : FnOk X.prog X.w X.K X.mg X.base (L2.CX X.prog X.w) k f fd ps (spIO X.K ps.length kk phi)) (hr : Room k X.A) (hg : Gl X x) (hm : X.mg x = some (.ref f)) (hk : PySem.W.keepIn X.K (.ref f) = true) (hb : Binds X.K fd ps [])
    (ha : JAT kk X xs W (e :: es) ms) (hl : ∀ ρ ds, ms ρ = some (.ok ds) → ds.length = ps.length) (hdb : (x == ("__debug__" : Str)) = false) (he : starEach (e :: es) X.env = (false, eval e X.env) :: starEach es X.env) (hpl : (backTo pos (starEach es X.env)).any (·.1) = false) :
    JE X xs W (.Call (.Name x p) (e :: es) [] pos) .any (callT phi ms) := by
  refine pe_of (pe_callS F hr hg hm hk hb (fun σ => passAt tk σ) ha hdb he hpl) fun σ H Q h => ?_
  obtain ⟨en, ρ, H0, rr, p⟩ := h
  refine ⟨en, ρ, H0, rr, ?_⟩
  unfold callT at p
  cases e1 : ms ρ with
  | none => rw [e1] at p; exact p.elim
  | some r1 =>
    rw [e1] at p
    cases r1 with
    | exc c q => exact p
    | ok ds =>
      intro a d vs A B x1 n hd mo g
      dsimp only at p
      cases e2 : phi ds with
      | none => rw [e2] at p; exact p.elim
      | some r2 =>
        rw [e2] at p
        cases r2 with
        | exc c z => exact p.elim
        | ok dd =>
          cases dd with
          | tuple l =>
            match l, p, e2 with
            | [r, y], p, e2 =>
              refine ⟨by rw [g.argx.length]; exact hl ρ ds e1, A, ds, a, d, r, y, x1.sub, g.argx, hd, mo, e2, fun v A2 B2 x2 g1 g2 => ?_⟩
              refine p v A2 B2 ⟨x1.s0.trans x2.s0, fun b o e => ?_, x2.sub, fun b o e => ?_⟩ (.inl ⟨g1, fun e => nomatch e⟩)
              · have hb : b ≠ a := ne_of_none e n
                exact x2.s b o (by rw [del_ne hb]; exact x1.s b o e)
              · have hb : b ≠ a := ne_of_none e n
                rw [x2.new b o (by rw [del_ne hb]; exact x1.s b o e)]
                exact x1.new b o e
            | [], p, _ => exact p.elim
            | [_], p, _ => exact p.elim
            | _ :: _ :: _ :: _, p, _ => exact p.elim
          | _ => exact p.elim
end
end
end
end DD

namespace DD
noncomputable section
open PySem PySem.Spec PyProof.Rows L2

/-! ### set(xs), xs a list of ints -/
section
variable {P : Program} {w : World} {A : Around} {E : Value → Shared → Prop} {s : Shared}
/-- a set as it is made -/
abbrev set0 (w : World) : Obj := { cls := .type "set", dict := none, data := .set #[] 0 (.fresh 0 0 (!w.params.followText "set-order")) }
set_option maxHeartbeats 3200000 in
theorem set_of_list {l : Addr} {its : Array Value} (ns : List Int) {Q : Value → Shared → Prop} (hh : A.handled = none) (hl : s.heap.IsList l its) (hi : IntsAre its.toList ns) (hb : ns.length + 1 < scanBound)
    (q : ∀ (h2 : Heap) (tk c : Nat), SetR w h2 s.heap.objs.size (fun j => decide (j ∈ ns)) c → c ≤ ns.length → (∀ b o, s.heap.get? b = some o → h2.get? b = some o) → Q (.ref s.heap.objs.size) { s with heap := h2, toks := tk }) :
    wpAny (model P w) A (call (.type "set") [.ref l]) Q E s := by
  have hz : its.size = ns.length := (Array.length_toList (xs := its)).symm.trans (IntsAre.length hi)
  obtain ⟨c0, t0, u0⟩ := F.called_set.mro
  have u1 := F.called_set.made
  have u2 := F.called_set.sub
  apply wpAny_call
  apply codeAny_of_tree
  show wpAny (model P w) _ (callAny (.type "set") _) _ _ _
  apply wpAny_pure
  refine ⟨Code.quiet_builtin _ (by decide +kernel), ?_⟩
  refine codeAny_builtin F.entry_type_call ?_
  rw [Around.under_plain (weight_type_call_type "set" [.ref l] []) (by rfl)]
  have u3 := F.called_set.notType
  have u4 := F.called_set.canCreate
  have u5 := F.typeCall_set_1 (.ref l)
  repeat (any_goals first | assumption | wp_step)
  refine codeAny_mono (code_set_led1 (.ref l) (E := E) (Q₁ := fun v t => v = .ref s.heap.objs.size ∧ t = { s with heap := s.heap.push (set0 w) }) ⟨rfl, rfl⟩) ?_
  intro r t hr
  match r, hr with
  | .error e, hr => exact hr
  | .ok (.ret v), hr =>
    obtain ⟨rfl, rfl⟩ := hr
    have g1 : (s.heap.push (set0 w)).get? s.heap.objs.size = some (set0 w) := Heap.get?_push_size _ rfl
    have g2 : Shared.TypeIs { s with heap := s.heap.push (set0 w) } (.ref s.heap.objs.size) "set" := ⟨_, g1, rfl⟩
    have u6 := F.called_set.init.lookup
    have u7 := F.called_set.init.bind (.ref s.heap.objs.size)
    repeat (any_goals first | assumption | wp_step)
    refine codeAny_mono (codeAny_call_builtin (R := wants (fun r t => r = .none ∧ ∃ h2 tk c, t = { s with heap := h2, toks := tk } ∧ SetR w h2 s.heap.objs.size (fun j => decide (j ∈ ns)) c ∧ c ≤ ns.length ∧ (∀ b o, s.heap.get? b = some o → h2.get? b = some o)) E) F.called_set.init.plain F.entry_set_init (check_set_init_1 g2 ?_)) ?_
    · obtain ⟨⟨k1, k2, k3, k4⟩, ho, hc, nl, hd⟩ := hl
      simp only at hc hd
      subst hc
      subst hd
      have ho1 : (s.heap.push (set0 w)).get? l = some ⟨.type "list", k2, .seq its nl, k4⟩ := Heap.get?_push_of_some _ ho
      have v1 := F.sub_list_set
      have v2 := F.sub_list_frozenset
      have v3 : (Value.type "list" == Value.type "dict") = false := by rfl
      have v4 : (s.heap.push (set0 w)).IsList l its := ⟨_, ho1, rfl, nl, rfl⟩
      unfold Builtin.«set.__init__»
      unfold noKeywords
      unfold Builtin.Frozenset.updateFrom
      generalize hpi : pyIter = pit
      wp_walk
      subst hpi
      apply wpAny_pyIter_list v4
      apply wpAny_bind
      apply wpAny_runValue
      have w1 : l < s.heap.objs.size := Heap.lt_size ho
      have w2 : A.in1.in1.in1.handled = none := by simp [hh]
      have w3 : (s.heap.push (set0 w)).objs.size = s.heap.objs.size + 1 := Heap.size_push ..
      have w4 : l ≠ (s.heap.push (set0 w)).objs.size := by
        rw [w3]
        exact Nat.ne_of_lt (Nat.lt_succ_of_lt w1)
      have w5 : s.heap.objs.size ∉ [(s.heap.push (set0 w)).objs.size, l] := by
        intro hm
        rcases List.mem_cons.mp hm with e | e
        · rw [w3] at e
          exact Nat.ne_of_lt (Nat.lt_succ_self _) e
        · rw [List.mem_singleton] at e
          exact Nat.ne_of_lt w1 e.symm
      have w6 : ∀ (i : Nat) (v : Value), its[i]? = some v → ∃ k t, ns[i]? = some k ∧ v = .int k t := by
        intro i v hv
        have hi2 : i < ns.length := by
          have := (Array.getElem?_eq_some_iff.mp hv).1
          omega
        obtain ⟨t, e⟩ := IntsAre.int_at hi i v (by rw [Array.getElem?_toList]; exact hv)
        refine ⟨ns[i], t, List.getElem?_eq_getElem hi2, ?_⟩
        rw [e, List.getD_eq_getElem?_getD, List.getElem?_eq_getElem hi2]
        rfl
      refine set_update_ints (Walks.list w2 _ l w4 its).toS s.heap.objs.size w5 ns hz hb w6 (its.size - 0) 0 _ rfl (Nat.zero_le _) ⟨⟨_, Heap.get?_push_size _ rfl, rfl, rfl⟩, v4.push _⟩ ⟨0, Nat.le_refl 0, setR_new_at (Heap.get?_push_of_some _ g1)⟩ ?_
      rintro ⟨h2, a2, a3, a4, a5⟩ c2 hm hc2 hR
      have y1 : a2 = s.gens := hm.gens
      have y2 : a3 = s.drawn := hm.drawn
      have y3 : a5 = s.os := hm.os
      subst y1 y2 y3
      show wpAny (model P w) _ _ _ _ _
      apply wpAny_pure
      show wpAny (model P w) _ (ret Value.none) _ _ _
      rw [hz] at hc2
      refine wpAny_pure ⟨rfl, h2, a4, c2, rfl, hR, hc2, ?_⟩
      intro b o e
      have z0 := Heap.lt_size e
      refine hm.heap b o ?_ (Heap.get?_push_of_some _ (Heap.get?_push_of_some _ e))
      intro hb2
      rcases List.mem_cons.mp hb2 with e2 | e2
      · exact Nat.ne_of_lt z0 e2
      · rw [List.mem_singleton, w3] at e2
        exact Nat.ne_of_lt (Nat.lt_succ_of_lt z0) e2
    · intro r t hr
      match r, hr with
      | .error e, hr => exact hr
      | .ok (.ret v), hr =>
        obtain ⟨rfl, h2, tk, c2, rfl, hR, hc2, hk⟩ := hr
        repeat (any_goals first | assumption | wp_step)
        exact q _ _ _ hR hc2 hk
end
/-! ### sorted(set(xs)), xs a tuple of ints -/
def ssI (ns : List Int) : List Int := sortI ns.eraseDups
theorem asc_uniq : ∀ {a b : List Int}, a.Pairwise (· < ·) → b.Pairwise (· < ·) → (∀ k, k ∈ a ↔ k ∈ b) → a = b := by
  intro a b h1 h2 h
  have n1 : a.Nodup := h1.imp fun h e => by omega
  have n2 : b.Nodup := h2.imp fun h e => by omega
  refine ints_perm_eq ?_ (h1.imp fun h => by omega) (h2.imp fun h => by omega)
  rw [List.perm_ext_iff_of_nodup n1 n2]
  exact h
theorem mem_dups : ∀ (n : Nat) (ns : List Int), ns.length ≤ n → (∀ k, k ∈ ns.eraseDups ↔ k ∈ ns) ∧ ns.eraseDups.Nodup
  | _, [], _ => by
    rw [List.eraseDups_nil]
    exact ⟨fun k => Iff.rfl, List.nodup_nil⟩
  | 0, x :: xs, h => absurd h (by simp)
  | n + 1, x :: xs, h => by
    have hf := List.length_filter_le (fun b => !b == x) xs
    obtain ⟨h1, h2⟩ := mem_dups n (xs.filter fun b => !b == x) (by rw [List.length_cons] at h; omega)
    rw [List.eraseDups_cons]
    refine ⟨fun k => ?_, ?_⟩
    · rw [List.mem_cons, List.mem_cons, h1, List.mem_filter]
      constructor
      · rintro (e | ⟨e, _⟩)
        · exact .inl e
        · exact .inr e
      · rintro (e | e)
        · exact .inl e
        · by_cases hk : k = x
          · exact .inl hk
          · exact .inr ⟨e, by simp [hk]⟩
    · rw [List.nodup_cons]
      refine ⟨fun hm => ?_, h2⟩
      rw [h1, List.mem_filter] at hm
      simp at hm
theorem ssI_mem (ns : List Int) (k : Int) : k ∈ ssI ns ↔ k ∈ ns := by
  unfold ssI
  rw [(sortI_perm _).mem_iff]
  exact (mem_dups _ ns (Nat.le_refl _)).1 k
theorem ssI_asc (ns : List Int) : (ssI ns).Pairwise (· < ·) := by
  have h1 := sortI_sorted ns.eraseDups
  have h2 : (sortI ns.eraseDups).Nodup := (sortI_perm _).nodup_iff.mpr (mem_dups _ ns (Nat.le_refl _)).2
  exact (h1.and h2).imp fun ⟨a, b⟩ => by omega
theorem ssI_eq {ys ns : List Int} (h1 : ys.Pairwise (· < ·)) (h2 : ∀ k, k ∈ ys ↔ k ∈ ns) : ys = ssI ns := asc_uniq h1 (ssI_asc ns) fun k => (h2 k).trans (ssI_mem ns k).symm
theorem setR_size {w : World} {h : Heap} {a : Addr} {S : Int → Bool} {n : Nat} (R : SetR w h a S n) {L : List Int} (h1 : L.Nodup) (h2 : ∀ k, k ∈ L ↔ S k = true) : L.length = n := by
  obtain ⟨o, es, ep, t, _, _, _, _, nd, hm, _, _, hn, _, _⟩ := R
  have hp : L.Perm (es.toList.map keyOf) := (List.perm_ext_iff_of_nodup h1 nd).mpr fun k => (h2 k).trans (hm k)
  have e1 := hp.length_eq
  rw [List.length_map] at e1
  have e2 : es.toList.length = es.size := Array.length_toList
  omega
def tSSet (K : PySem.W.Frag) (ta : TE) : TE := fun σ H Q => ta σ H fun x H1 => ∃ (l : Addr) (ns : List Int), x = .ref l ∧ (SqL K H1 l (ns.map V.int) ∨ SqT K H1 l (ns.map V.int)) ∧ (ns.length < 4000 ∧ (ssI ns).length < 64) ∧
  ∀ (p : Addr), H1 p = none → Q (.ref p) (upd H1 p (.lst ((ssI ns).map V.int)))
section
variable {X : Cx} {xs : List Str} {W : WX} {a : Expr} {sa : Src} {ma : Rho → Option Res} {p p2 q pos : Pos} {ta : TE}
theorem pe_sset (hc : X.calm = true) (hg : Gl X "sorted") (hm : X.mg "sorted" = none) (hg2 : Gl X "set") (hm2 : X.mg "set" = none) (ha : PE X a ta) (na : starEach [a] X.env = (false, eval a X.env) :: starEach [] X.env) :
    PE X (.Call (.Name "sorted" p) [.Call (.Name "set" p2) [a] [] q] [] pos) (tSSet X.K ta) := by
  constructor
  intro pins s σ H Q I h
  refine Call_ (ld_blt I hg hm PyProof.Rows.boot_sorted ?_)
  refine PyProof.Rows.callWith_builtin1 (he := rfl) (hplain := rfl) ?_
  refine PyProof.Rows.args_cons (Call_ (ld_blt I hg2 hm2 PyProof.Rows.boot_set ?_)) rfl
  refine PyProof.Rows.callWith_type1 ?_ na rfl
  refine PyProof.Rows.args_cons (thn (ha.run pins s σ H _ I h) ?_) na
  rintro v s1 ⟨x, H1, I1, r1, l, ns, rfl, hq, h64, q1⟩
  apply PyProof.Rows.args_nil
  cases r1
  have hh := I1.ok.hd hc
  have fin : ∀ (h' : Heap) (tk c : Nat), SetR X.w h' s1.heap.objs.size (fun j => decide (j ∈ ns)) c → c ≤ ns.length → (∀ b o, s1.heap.get? b = some o → h'.get? b = some o) →
      wpAny (model X.prog X.w) X.A (spliced (backTo pos (starEach [] X.env))) (fun vs s₂ => wpAny (model X.prog X.w) X.A (call (.builtin "sorted") (Value.ref s1.heap.objs.size :: vs)) (EP X pins σ Q) X.xe s₂) X.xe { s1 with heap := h', toks := tk } := by
    intro h' tk c R hc' hk
    apply PyProof.Rows.args_nil
    have I2 : Inv X pins σ H1 { s1 with heap := h', toks := tk } := I1.kept hk
    have hcc := setR_size R (L := ssI ns) ((ssI_asc ns).imp fun h e => by omega) (fun k => by rw [ssI_mem, decide_eq_true_iff])
    refine sorted_set R (I2.ok.hd hc) (by omega) ?_
    intro s' pp out cc ys k g o hp hge hi hs hmm hl
    have ey : ys = ssI ns := ssI_eq hs fun j => by rw [hmm j, decide_eq_true_iff]
    subst ey
    have hlen : ((ssI ns).map V.int).length ≤ sizeLine := by
      rw [List.length_map, sizeLine_eq]
      omega
    have hn : H1 pp = none := I2.hok.fresh hp
    refine ⟨.ref pp, upd H1 pp (.lst ((ssI ns).map V.int)), ?_, rfl, q1 pp hn⟩
    have J : Inv X pins σ (upd H1 pp (.lst ((ssI ns).map V.int))) { { s1 with heap := h', toks := tk } with heap := s'.heap, gens := s'.gens, drawn := s'.drawn, toks := s'.toks } :=
      I2.call (ch := []) (Un.laid k hp hn) (I2.hok.laid k hp ⟨hlen, out.toList, cc, vals_of_ints hi, hge⟩) (by rw [g]; exact I2.bare) (fun _ z => nomatch z)
    have e : s' = { s1 with heap := s'.heap, gens := s'.gens, drawn := s'.drawn, toks := s'.toks } := by
      cases s'; cases s1; cases o; rfl
    rw [e]
    exact J
  rcases hq with hq | hq
  · obtain ⟨its, r, pl, hz⟩ := I1.list hq
    exact set_of_list ns hh pl.isList (by simpa using r.ints) (by unfold scanBound; omega) fin
  · obtain ⟨its, r, pl, hz⟩ := I1.tuple hq
    exact call_set_tupI ns hh pl (by simpa using r.ints) (by unfold scanBound; omega) fin
def ssetD : D → Option D
  | .list ds => (match intsOf ds with
    | some ns => if ns.length < 4000 ∧ (ssI ns).length < 64 then some (.list ((ssI ns).map .int)) else none
    | none => none)
  | .tuple ds => (match intsOf ds with
    | some ns => if ns.length < 4000 ∧ (ssI ns).length < 64 then some (.list ((ssI ns).map .int)) else none
    | none => none)
  | _ => none
theorem je_sset (hc : X.calm = true) (hg : Gl X "sorted") (hm : X.mg "sorted" = none) (hg2 : Gl X "set") (hm2 : X.mg "set" = none) (ha : JE X xs W a sa ma) (na : starEach [a] X.env = (false, eval a X.env) :: starEach [] X.env) :
    JE X xs W (.Call (.Name "sorted" p) [.Call (.Name "set" p2) [a] [] q] [] pos) .new (lift1 ssetD ma) := by
  refine pe_of (pe_sset hc hg hm hg2 hm2 ha na) fun σ H Q h => ?_
  obtain ⟨en, ρ, H0, rr, p⟩ := h
  refine ⟨en, ρ, H0, rr, ?_⟩
  unfold lift1 at p
  cases e1 : ma ρ with
  | none => rw [e1] at p; exact p.elim
  | some r1 =>
    rw [e1] at p
    cases r1 with
    | exc c q => exact p
    | ok d1 =>
      intro v H0' H' x1 z1
      dsimp only at p
      cases e2 : ssetD d1 with
      | none => rw [e2] at p; exact p.elim
      | some d2 =>
        rw [e2] at p
        unfold ssetD at e2
        split at e2
        · split at e2
          · rename_i ns en
            split at e2
            · rename_i h64
              cases e2
              obtain ⟨t, ys, rfl, r1, k1⟩ := z1.rb.list x1.sub
              rw [intsOf_eq en] at k1
              have ey := k1.ints
              subst ey
              exact ⟨t, ns, rfl, .inl (.inl r1), h64, fun pp hp => rs_lst (n := true) x1.sub (dds_ints _) hp fun v3 H3 H4 x3 z3 => p v3 H3 H4 (x1.trans x3) (RS.rz (n := true) x1.s z3)⟩
            · cases e2
          · cases e2
        · split at e2
          · rename_i ns en
            split at e2
            · rename_i h64
              cases e2
              obtain ⟨t, ys, rfl, r1, k1⟩ := z1.rb.tuple x1.sub
              rw [intsOf_eq en] at k1
              have ey := k1.ints
              subst ey
              exact ⟨t, ns, rfl, .inr (.inl r1), h64, fun pp hp => rs_lst (n := true) x1.sub (dds_ints _) hp fun v3 H3 H4 x3 z3 => p v3 H3 H4 (x1.trans x3) (RS.rz (n := true) x1.s z3)⟩
            · cases e2
          · cases e2
        · cases e2
end
end
end DD

namespace DD
noncomputable section
open PySem PySem.Spec PyProof.Rows L2
/-! ### list(range(n)) -/
section
variable {X : Cx} {xs : List Str} {W : WX} {a : Expr} {sa : Src} {ma : Rho → Option Res} {pos p p2 q : Pos}
def lrngD : D → Option D
  | .int j => if rngOk 0 j = true then some (.list (rngL 0 j)) else none
  | _ => none
theorem dds_rg {K : PySem.W.Frag} {H : Hp} (a b : Int) : Dds K H (rgV a b) (rngL a b) := by
  unfold rgV rngL
  generalize List.range (b - a).toNat = l
  induction l with
  | nil => exact .nil
  | cons i l ih => exact .cons (.int _) ih
theorem je_lrng (hc : X.calm = true) (hg : Gl X "list") (hm : X.mg "list" = none) (hg2 : Gl X "range") (hm2 : X.mg "range" = none) (ha : JE X xs W a sa ma) (na : starEach [a] X.env = (false, eval a X.env) :: starEach [] X.env) :
    JE X xs W (.Call (.Name "list" p) [.Call (.Name "range" p2) [a] [] q] [] pos) .new (lift1 lrngD ma) := by
  refine pe_of (pe_listRg hc hg hm (prg_1 hg2 hm2 ha na)) fun σ H Q h => ?_
  obtain ⟨en, ρ, H0, rr, p⟩ := h
  refine ⟨en, ρ, H0, rr, ?_⟩
  unfold lift1 at p
  cases e1 : ma ρ with
  | none => rw [e1] at p; exact p.elim
  | some r1 =>
    rw [e1] at p
    cases r1 with
    | exc c q => exact p
    | ok d1 =>
      intro v H0' H' x1 z1
      dsimp only at p
      cases e2 : lrngD d1 with
      | none => rw [e2] at p; exact p.elim
      | some d2 =>
        rw [e2] at p
        unfold lrngD at e2
        split at e2
        · split at e2
          · rename_i j hz
            cases e2
            cases z1.rb.int
            rw [rngOk_eq] at hz
            have hz := of_decide_eq_true hz
            exact ⟨j, rfl, ⟨by omega, by omega, by omega, by omega, by omega⟩, fun pp hp => rs_lst (n := true) x1.sub (dds_rg 0 j) hp fun v3 H3 H4 x3 z3 => p v3 H3 H4 (x1.trans x3) (RS.rz (n := true) x1.s z3)⟩
          · cases e2
        · cases e2
end
end
end DD

namespace DD
noncomputable section
open PySem PySem.Spec PyProof.Rows L2
/-! ### comprehensions with two generators -/
/-- no slot is one's own to change -/
def noMut (ρ : Rho) : Bool := ρ.all fun s => match s with
  | some (fl, _) => !fl.mut
  | none => true
theorem noMut_at {ρ : Rho} (h : noMut ρ = true) {j : Nat} {fl : Fl} {d : D} (e : ρ[j]? = some (some (fl, d))) : fl.mut = false := by
  have := List.all_eq_true.mp h _ (List.mem_of_getElem? e)
  simpa using this
def compL2 (b : D → Rho → Option Rho) (mt : Rho → Option ResB) (mi1 : Rho → Option ResL) (vs1 : List Nat) (b1 : D → Rho → Option Rho) (mt1 : Rho → Option ResB) (me : Rho → Option Res) (ρ : Rho) : List D → Option (List D)
  | [] => some []
  | x :: r => (match b x ρ with
    | some ρ1 => (match noMut ρ1, mt ρ1 with
      | true, some (.ok true) => (match mi1 ρ1 with
        | some (.ok items1) => (match compL b1 mt1 me (wipeR ρ1 vs1) items1 with
          | some ds => (compL2 b mt mi1 vs1 b1 mt1 me ρ r).map (ds ++ ·)
          | none => none)
        | _ => none)
      | true, some (.ok false) => compL2 b mt mi1 vs1 b1 mt1 me ρ r
      | _, _ => none)
    | none => none)
def compV2 (mi : Rho → Option ResL) (vs : List Nat) (b : D → Rho → Option Rho) (mt : Rho → Option ResB) (mi1 : Rho → Option ResL) (vs1 : List Nat) (b1 : D → Rho → Option Rho) (mt1 : Rho → Option ResB) (me : Rho → Option Res) : Rho → Option Res := fun ρ => match mi ρ with
  | some (.ok items) => (match compL2 b mt mi1 vs1 b1 mt1 me (wipeR ρ vs) items with
    | some ds => if ds.length ≤ 4096 then some (.ok (.list ds)) else none
    | none => none)
  | some (.exc c p) => some (.exc c p)
  | none => none
theorem r_besides {K : PySem.W.Frag} {en : Ent} {ρ : Rho} {H0 H H0' H' : Hp} {σ : L2.St} {a : Addr} (r : R K en ρ H0 σ H) (hm : noMut ρ = true) (hna : en.H a = none) (hio : en.io ≠ some a) (e : Ext H0 (del H a) H0' H') : R K en ρ H0' σ H' where
  sub := e.sub
  len := r.len
  slot := fun i fl d h => by
    obtain ⟨v, h1, h2⟩ := r.slot i fl d h
    exact ⟨v, h1, h2.but e hna fun z => by rw [noMut_at hm h] at z; cases z⟩
  apart := r.apart
  lent := fun b h => by
    obtain ⟨o, ho⟩ := r.lent b h
    exact ⟨o, e.s _ _ (by rw [del_ne (fun z => hio (by rw [← z]; exact h))]; exact ho)⟩
  e1 := fun b o q => e.s b o (by rw [del_ne (ne_of_none q hna)]; exact r.e1 b o q)
  e2 := r.e2.trans e.s0
  e3 := fun b o q => (e.new b o (by rw [del_ne (ne_of_none q hna)]; exact r.e1 b o q)).trans (r.e3 b o q)
  hn := r.hn
theorem ext_del {A B C E : Hp} {a : Addr} (x : Ext A B C E) (nB : B a = none) (nC : C a = none) : Ext A B C (del E a) :=
  ⟨x.s0, fun b o e => by rw [del_ne (ne_of_none e nB)]; exact x.s b o e, fun b o e => by rw [del_ne (ne_of_none e nC)]; exact x.sub b o e, x.new⟩
theorem ext_cut {A E : Hp} {a : Addr} (s : Same A E) (n : A a = none) : Ext A (del E a) A E :=
  ⟨Same.refl _, fun b o e => (del_some e).2, s, fun _ _ _ => rfl⟩
section
variable {K : PySem.W.Frag} {mg : Str → Option Value} {xs : List Str} {W : WX}
theorem tau_lc2 {mm mm1 : Bool} {σ : L2.St} {H : Hp} {Q : VK} {mi mi1 : Rho → Option ResL} {vs us vs1 us1 : List Nat} {b b1 : D → Rho → Option Rho} {mt mt1 : Rho → Option ResB} {me : Rho → Option Res} (hu : ∀ i ∈ us, i ∈ vs) (hu1 : ∀ i ∈ us1, i ∈ vs1)
    (h : Tau K mg xs W .new (compV2 mi vs b mt mi1 vs1 b1 mt1 me) σ H Q) : tLc2 (TauI mm K mg xs W mi) (TauG mm K us b) (TauB K mg xs W0 mt) (TauI mm1 K mg xs W0 mi1) (TauG mm1 K us1 b1) (TauB K mg xs W0 mt1) (TauD K mg xs W0 me) vs vs1 σ H Q := by
  obtain ⟨en, ρ, H0, rr, p⟩ := h
  refine ⟨en, ρ, H0, rr, ?_⟩
  unfold compV2 at p
  cases e1 : mi ρ with
  | none => rw [e1] at p; exact p.elim
  | some r1 =>
    rw [e1] at p
    cases r1 with
    | exc c q => exact p
    | ok items =>
      intro J H0' H1 x1 io hz Dn nD
      dsimp only at p
      cases e2 : compL2 b mt mi1 vs1 b1 mt1 me (wipeR ρ vs) items with
      | none => rw [e2] at p; exact p.elim
      | some total =>
        rw [e2] at p
        dsimp only at p
        split at p
        rotate_left
        · exact p.elim
        rename_i hsz
        have p : ∀ v H0' H', Ext H0 H H0' H' → RS true K H H0' H' v (.list total) → Q v H' := p
        have nD0 : H0' Dn = none := not_settled x1.sub nD
        have rr1 := rr.mono x1
        have hna : en.H Dn = none := rr1.e1.free nD
        have hio : en.io ≠ some Dn := fun z => by
          obtain ⟨o, ho⟩ := rr1.lent Dn z
          rw [nD] at ho
          cases ho
        refine ⟨fun i m HH => m = items.length - i ∧ i ≤ items.length ∧ ∃ H0i acc out rest, Ext H0' H1 H0i HH ∧ HH Dn = some (.lst acc) ∧ H0i Dn = none ∧ Dds K H0i acc out ∧ compL2 b mt mi1 vs1 b1 mt1 me (wipeR ρ vs) (items.drop i) = some rest ∧ total = out ++ rest,
          ⟨items.length, by simp, Nat.zero_le _, H0', [], [], total, ext_new x1.sub nD, upd_same, nD0, .nil, by simpa using e2, rfl⟩, ?_⟩
        rintro i m HH ⟨rfl, hi, H0i, acc, out, rest, x2, hD, nDi, k2, ec, et⟩
        have rri := rr1.mono x2
        by_cases hlt : i < items.length
        · right
          have hg := List.getElem?_eq_getElem hlt
          have hdrop : items.drop i = items[i] :: items.drop (i + 1) := List.drop_eq_getElem_cons hlt
          rw [hdrop] at ec
          unfold compL2 at ec
          obtain ⟨go, yl⟩ := io.go i _ H0i HH hg rri.e1 x2.s0 x2.sub
          refine ⟨go, fun HH' => i + 1 ≤ items.length ∧ ∃ H0i acc out rest, Ext H0' H1 H0i HH' ∧ HH' Dn = some (.lst acc) ∧ H0i Dn = none ∧ Dds K H0i acc out ∧ compL2 b mt mi1 vs1 b1 mt1 me (wipeR ρ vs) (items.drop (i + 1)) = some rest ∧ total = out ++ rest, fun HH' hN => ⟨items.length - (i + 1), by omega, rfl, hN.1, hN.2⟩, fun x HH' hy => ?_⟩
          obtain ⟨H0y, x3, hd⟩ := yl x HH' hy
          cases eb : b items[i] (wipeR ρ vs) with
          | none => rw [eb] at ec; cases ec
          | some ρ1 =>
            rw [eb] at ec
            dsimp only at ec
            have rw1 := (rri.mono x3).wipe vs
            refine ⟨en, wipeR ρ vs, H0y, items[i], ρ1, rw1, hd, eb, fun σ2 r2 kk => ⟨wipe_keeps kk hu, ?_⟩⟩
            refine ⟨en, ρ1, H0y, r2, ?_⟩
            cases hnm : noMut ρ1 with
            | false => rw [hnm] at ec; cases ec
            | true =>
            rw [hnm] at ec
            cases em : mt ρ1 with
            | none => rw [em] at ec; cases ec
            | some rm =>
              rw [em] at ec
              cases rm with
              | exc c q => cases ec
              | ok kb =>
                intro H0t Ht x4
                have x34 := x3.trans x4
                have x24 := x2.trans x34
                cases kb with
                | false =>
                  refine iteF ⟨hlt, H0t, acc, out, rest, x24, x34.s _ _ hD, by rw [x34.new _ _ hD]; exact nDi, k2.mono x34.s0, ec, et⟩
                | true =>
                  dsimp only at ec
                  refine iteT ⟨en, ρ1, H0t, r2.mono x4, ?_⟩
                  cases ei : mi1 ρ1 with
                  | none => rw [ei] at ec; cases ec
                  | some ri =>
                    rw [ei] at ec
                    cases ri with
                    | exc c q => cases ec
                    | ok items1 =>
                      dsimp only at ec
                      intro J1 H0'' H4 x5 io1 hz1
                      cases ej : compL b1 mt1 me (wipeR ρ1 vs1) items1 with
                      | none => rw [ej] at ec; cases ec
                      | some tot1 =>
                        rw [ej] at ec
                        dsimp only at ec
                        cases eo : compL2 b mt mi1 vs1 b1 mt1 me (wipeR ρ vs) (items.drop (i + 1)) with
                        | none => rw [eo] at ec; cases ec
                        | some restO =>
                          rw [eo] at ec
                          cases ec
                          have x35 := x34.trans x5
                          have hD4 : H4 Dn = some (.lst acc) := x35.s _ _ hD
                          have nD'' : H0'' Dn = none := by rw [x35.new _ _ hD]; exact nDi
                          have r4 : R K en ρ1 H0'' σ2 H4 := (r2.mono x4).mono x5
                          have xb : Ext H0' H1 H0'' (del H4 Dn) := ext_del (x2.trans x35) nD nD''
                          refine ⟨fun j k HH => k = items1.length - j ∧ j ≤ items1.length ∧ ∃ H0j acc out1 rest1, Ext H0'' (del H4 Dn) H0j HH ∧ HH Dn = some (.lst acc) ∧ H0j Dn = none ∧ Dds K H0j acc out1 ∧ compL b1 mt1 me (wipeR ρ1 vs1) (items1.drop j) = some rest1 ∧ total = out1 ++ (rest1 ++ restO),
                            ⟨items1.length, by simp, Nat.zero_le _, H0'', acc, out, tot1, ext_cut x5.sub nD'', hD4, nD'', k2.mono x35.s0, by simpa using ej, et⟩, ?_⟩
                          rintro j k HHj ⟨rfl, hj, H0j, accj, out1, rest1, x6, hDj, nDj, k6, ec1, et1⟩
                          have rrj := r_besides r4 hnm hna hio x6
                          by_cases hlt1 : j < items1.length
                          · right
                            have hg1 := List.getElem?_eq_getElem hlt1
                            have hdrop1 : items1.drop j = items1[j] :: items1.drop (j + 1) := List.drop_eq_getElem_cons hlt1
                            rw [hdrop1] at ec1
                            unfold compL at ec1
                            obtain ⟨go1, yl1⟩ := io1.go j _ H0j HHj hg1 rrj.e1 x6.s0 x6.sub
                            refine ⟨go1, fun HH' => j + 1 ≤ items1.length ∧ ∃ H0j acc out1 rest1, Ext H0'' (del H4 Dn) H0j HH' ∧ HH' Dn = some (.lst acc) ∧ H0j Dn = none ∧ Dds K H0j acc out1 ∧ compL b1 mt1 me (wipeR ρ1 vs1) (items1.drop (j + 1)) = some rest1 ∧ total = out1 ++ (rest1 ++ restO), fun HH' hN => ⟨items1.length - (j + 1), by omega, rfl, hN.1, hN.2⟩, fun x1 HH1 hy1 => ?_⟩
                            obtain ⟨H0z, x7, hd1⟩ := yl1 x1 HH1 hy1
                            cases eb1 : b1 items1[j] (wipeR ρ1 vs1) with
                            | none => rw [eb1] at ec1; cases ec1
                            | some ρ2 =>
                              rw [eb1] at ec1
                              dsimp only at ec1
                              have rw2 := (rrj.mono x7).wipe vs1
                              refine ⟨en, wipeR ρ1 vs1, H0z, items1[j], ρ2, rw2, hd1, eb1, fun σ3 r3 kk1 => ⟨wipe_keeps kk1 hu1, ?_⟩⟩
                              refine ⟨en, ρ2, H0z, r3, ?_⟩
                              cases em1 : mt1 ρ2 with
                              | none => rw [em1] at ec1; cases ec1
                              | some rm1 =>
                                rw [em1] at ec1
                                cases rm1 with
                                | exc c q => cases ec1
                                | ok kb1 =>
                                  intro H0u Hu x8
                                  have x78 := x7.trans x8
                                  have x68 := x6.trans x78
                                  cases kb1 with
                                  | false =>
                                    refine iteF ⟨hlt1, H0u, accj, out1, rest1, x68, x78.s _ _ hDj, by rw [x78.new _ _ hDj]; exact nDj, k6.mono x78.s0, ec1, et1⟩
                                  | true =>
                                    dsimp only at ec1
                                    refine iteT ⟨en, ρ2, H0u, r3.mono x8, ?_⟩
                                    cases ee : me ρ2 with
                                    | none => rw [ee] at ec1; cases ec1
                                    | some re =>
                                      rw [ee] at ec1
                                      cases re with
                                      | exc c q => cases ec1
                                      | ok d =>
                                        dsimp only at ec1
                                        intro y H0e He x9 hy2
                                        have x79 := x78.trans x9
                                        have hDe := x79.s _ _ hDj
                                        have nDe : H0e Dn = none := by rw [x79.new _ _ hDj]; exact nDj
                                        cases er : compL b1 mt1 me (wipeR ρ1 vs1) (items1.drop (j + 1)) with
                                        | none => rw [er] at ec1; cases ec1
                                        | some rest' =>
                                          rw [er] at ec1
                                          cases ec1
                                          refine ⟨accj, hDe, ?_, hlt1, ?_⟩
                                          · rw [k6.length, sizeLine_eq]
                                            have : total.length = out1.length + ((rest'.length + 1) + restO.length) := by rw [et1]; simp; omega
                                            omega
                                          · have x69 := x6.trans x79
                                            refine ⟨H0e, accj ++ [y], out1 ++ [d], rest', ⟨x69.s0, fun c o e => ?_, fun c o e => ?_, x69.new⟩, upd_same, nDe, (k6.mono x79.s0).append (.cons hy2 .nil), rfl, ?_⟩
                                            · rw [upd_ne (del_some e).1]; exact x69.s c o e
                                            · rw [upd_ne (ne_of_none e nDe)]; exact x69.sub c o e
                                            · rw [et1]; simp
                          · left
                            have hje : j = items1.length := by omega
                            subst hje
                            refine ⟨io1.stop _ H0j HHj rfl rrj.e1 x6.s0 x6.sub, hlt, ?_⟩
                            rw [List.drop_length] at ec1
                            cases ec1
                            exact ⟨H0j, accj, out1, restO, xb.trans x6, hDj, nDj, k6, rfl, et1⟩
        · left
          have hie : i = items.length := by omega
          subst hie
          refine ⟨io.stop _ H0i HH rfl rri.e1 x2.s0 x2.sub, ?_⟩
          rw [List.drop_length] at ec
          cases ec
          rw [List.append_nil] at et
          subst et
          exact p _ H0i HH (x1.trans x2) (.inr ⟨Dn, rfl, .lst nDi hD k2, x1.s.free nD⟩)
end
section
variable {X : Cx} {xs : List Str} {W : WX} {nw : Mo} {pos : Pos}
variable {i : Nat} {y : Str} {py : Pos} {elt tg iter tg1 iter1 : Expr} {ifs ifs1 : List Expr} {scope : Scope} {own : List (Str × Nat)} {cpos spos : Pos} {mi mi1 : Rho → Option ResL} {us vs1 : List Nat} {bb bb1 : D → Rho → Option Rho} {mt mt1 : Rho → Option ResB} {me : Rho → Option Res}
theorem je_comp2 {mm mm1 : Bool} (hc : X.calm = true) (hN : X.N.Nodup) (hi : JI mm X xs W tg iter mi) (ok : BlkOk X.N X.env.scope scope own) (hv : ∀ i ∈ vs1, i ∈ own.map (·.2)) (hu : ∀ i ∈ us, i ∈ own.map (·.2))
    (hg : ∀ (s : Shared) (H : Hp) (C : Addr) (cl : List (Str × Addr)) (fp : List Addr), PG (X.blk s H scope (compEnvC scope cl C X.env) fp) tg (TauG mm X.K us bb)) (ht : ∀ (s : Shared) (H : Hp) (C : Addr) (cl : List (Str × Addr)) (fp : List Addr), PTs (X.blk s H scope (compEnvC scope cl C X.env) fp) ifs (TauB X.K X.mg xs W0 mt))
    (hi1 : ∀ (s : Shared) (H : Hp) (C : Addr) (cl : List (Str × Addr)) (fp : List Addr), JI mm1 (X.blk s H scope (compEnvC scope cl C X.env) fp) xs W0 tg1 iter1 mi1)
    (hg1 : ∀ (s : Shared) (H : Hp) (C : Addr) (cl : List (Str × Addr)) (fp : List Addr), PG (X.blk s H scope (compEnvC scope cl C X.env) fp) tg1 (TauG mm1 X.K vs1 bb1)) (ht1 : ∀ (s : Shared) (H : Hp) (C : Addr) (cl : List (Str × Addr)) (fp : List Addr), PTs (X.blk s H scope (compEnvC scope cl C X.env) fp) ifs1 (TauB X.K X.mg xs W0 mt1))
    (he : ∀ (s : Shared) (H : Hp) (C : Addr) (cl : List (Str × Addr)) (fp : List Addr), JD (X.blk s H scope (compEnvC scope cl C X.env) fp) xs W0 elt me) (hs : ∀ x, foldedSetIterable iter X.env x = pure x) (hs1 : ∀ env x, foldedSetIterable iter1 env x = pure x) :
    JE X xs W (.ListComp elt [⟨tg, iter, ifs, 0⟩, ⟨tg1, iter1, ifs1, 0⟩] scope pos) .new (compV2 mi (own.map (·.2)) bb mt mi1 vs1 bb1 mt1 me) :=
  pe_of (pe_lc2 (wi1 := TauI mm1 X.K X.mg xs W0 mi1) (te := TauD X.K X.mg xs W0 me) hc hN hi ok hv hg ht hi1 hg1 ht1 he hs hs1) fun σ H Q h => tau_lc2 hu (fun _ h => h) h
theorem js_datLc2 {mm mm1 : Bool} (hc : X.calm = true) (hN : X.N.Nodup) (hy : X.N[i]? = some y) (hyl : X.env.scope.names.lookup y = some .local)
    (hsw : swapsWith (.ListComp elt [⟨tg, iter, ifs, 0⟩, ⟨tg1, iter1, ifs1, 0⟩] scope cpos) (some (.Name y py)) spos.line X.env = pure true) (hi : JI mm X xs W tg iter mi) (ok : BlkOk X.N X.env.scope scope own) (hv : ∀ i ∈ vs1, i ∈ own.map (·.2)) (hu : ∀ i ∈ us, i ∈ own.map (·.2))
    (hg : ∀ (s : Shared) (H : Hp) (C : Addr) (cl : List (Str × Addr)) (fp : List Addr), PG (X.blk s H scope (compEnvC scope cl C X.env) fp) tg (TauG mm X.K us bb)) (ht : ∀ (s : Shared) (H : Hp) (C : Addr) (cl : List (Str × Addr)) (fp : List Addr), PTs (X.blk s H scope (compEnvC scope cl C X.env) fp) ifs (TauB X.K X.mg xs W0 mt))
    (hi1 : ∀ (s : Shared) (H : Hp) (C : Addr) (cl : List (Str × Addr)) (fp : List Addr), JI mm1 (X.blk s H scope (compEnvC scope cl C X.env) fp) xs W0 tg1 iter1 mi1)
    (hg1 : ∀ (s : Shared) (H : Hp) (C : Addr) (cl : List (Str × Addr)) (fp : List Addr), PG (X.blk s H scope (compEnvC scope cl C X.env) fp) tg1 (TauG mm1 X.K vs1 bb1)) (ht1 : ∀ (s : Shared) (H : Hp) (C : Addr) (cl : List (Str × Addr)) (fp : List Addr), PTs (X.blk s H scope (compEnvC scope cl C X.env) fp) ifs1 (TauB X.K X.mg xs W0 mt1))
    (he : ∀ (s : Shared) (H : Hp) (C : Addr) (cl : List (Str × Addr)) (fp : List Addr), JD (X.blk s H scope (compEnvC scope cl C X.env) fp) xs W0 elt me) (hs : ∀ x, foldedSetIterable iter X.env x = pure x) (hs1 : ∀ env x, foldedSetIterable iter1 env x = pure x) :
    JS X xs W nw (.Assign [.Name y py] (.ListComp elt [⟨tg, iter, ifs, 0⟩, ⟨tg1, iter1, ifs1, 0⟩] scope cpos) spos) (thenS (compV2 mi (own.map (·.2)) bb mt mi1 vs1 bb1 mt1 me) (datK i)) :=
  ps_of (ps_setLc2 (wi1 := TauI mm1 X.K X.mg xs W0 mi1) (te := TauD X.K X.mg xs W0 me) hc hN hy hyl hsw hi ok hv hg ht hi1 hg1 ht1 he hs hs1) fun Dn σ H h => tau_lc2 hu (fun _ h => h) (tau_then (Q := fun x H1 => gName i x σ H1 Dn.nx) (src := .new) h fun en ρ H0 d v H0' H' rr x1 z ez p => by
    have nd : isDict d = false := by
      unfold compV2 at ez
      split at ez
      · rename_i items _
        cases ec : compL2 bb mt mi1 vs1 bb1 mt1 me (wipeR ρ (own.map (·.2))) items with
        | none => rw [ec] at ez; cases ez
        | some ds =>
          rw [ec] at ez
          dsimp only at ez
          split at ez
          · cases ez; rfl
          · cases ez
      · cases ez
      · cases ez
    obtain ⟨H02, k1, _, _, _, k5⟩ := RS.settle x1 z (not_dict nd)
    exact p _ _ _ ((rr.mono k1).set_dat k5) k1.s0)
theorem js_ownLc2 {mm mm1 : Bool} (hc : X.calm = true) (hN : X.N.Nodup) (hy : X.N[i]? = some y) (hyl : X.env.scope.names.lookup y = some .local)
    (hsw : swapsWith (.ListComp elt [⟨tg, iter, ifs, 0⟩, ⟨tg1, iter1, ifs1, 0⟩] scope cpos) (some (.Name y py)) spos.line X.env = pure true) (hi : JI mm X xs W tg iter mi) (ok : BlkOk X.N X.env.scope scope own) (hv : ∀ i ∈ vs1, i ∈ own.map (·.2)) (hu : ∀ i ∈ us, i ∈ own.map (·.2))
    (hg : ∀ (s : Shared) (H : Hp) (C : Addr) (cl : List (Str × Addr)) (fp : List Addr), PG (X.blk s H scope (compEnvC scope cl C X.env) fp) tg (TauG mm X.K us bb)) (ht : ∀ (s : Shared) (H : Hp) (C : Addr) (cl : List (Str × Addr)) (fp : List Addr), PTs (X.blk s H scope (compEnvC scope cl C X.env) fp) ifs (TauB X.K X.mg xs W0 mt))
    (hi1 : ∀ (s : Shared) (H : Hp) (C : Addr) (cl : List (Str × Addr)) (fp : List Addr), JI mm1 (X.blk s H scope (compEnvC scope cl C X.env) fp) xs W0 tg1 iter1 mi1)
    (hg1 : ∀ (s : Shared) (H : Hp) (C : Addr) (cl : List (Str × Addr)) (fp : List Addr), PG (X.blk s H scope (compEnvC scope cl C X.env) fp) tg1 (TauG mm1 X.K vs1 bb1)) (ht1 : ∀ (s : Shared) (H : Hp) (C : Addr) (cl : List (Str × Addr)) (fp : List Addr), PTs (X.blk s H scope (compEnvC scope cl C X.env) fp) ifs1 (TauB X.K X.mg xs W0 mt1))
    (he : ∀ (s : Shared) (H : Hp) (C : Addr) (cl : List (Str × Addr)) (fp : List Addr), JD (X.blk s H scope (compEnvC scope cl C X.env) fp) xs W0 elt me) (hs : ∀ x, foldedSetIterable iter X.env x = pure x) (hs1 : ∀ env x, foldedSetIterable iter1 env x = pure x) :
    JS X xs W nw (.Assign [.Name y py] (.ListComp elt [⟨tg, iter, ifs, 0⟩, ⟨tg1, iter1, ifs1, 0⟩] scope cpos) spos) (thenS (compV2 mi (own.map (·.2)) bb mt mi1 vs1 bb1 mt1 me) (ownK i)) :=
  ps_of (ps_setLc2 (wi1 := TauI mm1 X.K X.mg xs W0 mi1) (te := TauD X.K X.mg xs W0 me) hc hN hy hyl hsw hi ok hv hg ht hi1 hg1 ht1 he hs hs1) fun Dn σ H h => tau_lc2 hu (fun _ h => h) (tau_then (Q := fun x H1 => gName i x σ H1 Dn.nx) (src := .new) h fun en ρ H0 d v H0' H' rr x1 z _ p => by
    unfold ownK at p
    split at p
    · exact p.elim
    · rename_i hf
      exact p _ _ _ (own_new rr x1 z hf) x1.s0)
end
end
end DD

namespace DD
noncomputable section
open PySem PySem.Spec PyProof.Rows L2

/-! ### and, or by truth -/
def andT (ma mb : Rho → Option Res) : Rho → Option Res := fun ρ => match ma ρ with
  | some (.ok d) => (match truthD d with
    | some true => mb ρ
    | some false => some (.ok d)
    | none => none)
  | some (.exc c p) => some (.exc c p)
  | none => none
def orT (ma mb : Rho → Option Res) : Rho → Option Res := fun ρ => match ma ρ with
  | some (.ok d) => (match truthD d with
    | some true => some (.ok d)
    | some false => mb ρ
    | none => none)
  | some (.exc c p) => some (.exc c p)
  | none => none
section
variable {X : Cx} {xs : List Str} {W : WX} {a b c : Expr} {ma mb : Rho → Option Res} {pos : Pos}
theorem dd_tru {K : PySem.W.Frag} {H0 H : Hp} {v : V} {d : D} {k : Bool} (s : Same H0 H) (h : Dd K H0 v d) (e : truthD d = some k) : TruV K v H k := truV_of s (.inl h) e
theorem jd_andT {rest : List Expr} (ha : JD X xs W a ma) (hb : JD X xs W (.BoolOp .And (b :: rest) pos) mb) : JD X xs W (.BoolOp .And (a :: b :: rest) pos) (andT ma mb) := by
  refine pe_of (pe_andT ha hb) fun σ H Q h => ?_
  obtain ⟨en, ρ, H0, rr, p⟩ := h
  refine ⟨en, ρ, H0, rr, ?_⟩
  unfold andT at p
  cases e1 : ma ρ with
  | none => rw [e1] at p; exact p.elim
  | some r1 =>
    rw [e1] at p
    cases r1 with
    | exc c q => exact p
    | ok d1 =>
      intro v H0' H' x1 z1
      dsimp only at p
      cases e3 : truthD d1 with
      | none => rw [e3] at p; exact p.elim
      | some k =>
        rw [e3] at p
        refine ⟨k, dd_tru x1.sub z1 e3, ?_⟩
        cases k with
        | false => exact iteF (p _ _ _ x1 z1)
        | true => exact iteT ⟨en, ρ, H0', rr.mono x1, postD_trans x1 p⟩
theorem jd_orT {rest : List Expr} (ha : JD X xs W a ma) (hb : JD X xs W (.BoolOp .Or (b :: rest) pos) mb) : JD X xs W (.BoolOp .Or (a :: b :: rest) pos) (orT ma mb) := by
  refine pe_of (pe_orT ha hb) fun σ H Q h => ?_
  obtain ⟨en, ρ, H0, rr, p⟩ := h
  refine ⟨en, ρ, H0, rr, ?_⟩
  unfold orT at p
  cases e1 : ma ρ with
  | none => rw [e1] at p; exact p.elim
  | some r1 =>
    rw [e1] at p
    cases r1 with
    | exc c q => exact p
    | ok d1 =>
      intro v H0' H' x1 z1
      dsimp only at p
      cases e3 : truthD d1 with
      | none => rw [e3] at p; exact p.elim
      | some k =>
        rw [e3] at p
        refine ⟨k, dd_tru x1.sub z1 e3, ?_⟩
        cases k with
        | true => exact iteT (p _ _ _ x1 z1)
        | false => exact iteF ⟨en, ρ, H0', rr.mono x1, postD_trans x1 p⟩
/-- a test whose answer is less often told -/
theorem jt_weak {e : Expr} {m m' : Rho → Option ResB} (h : JT X xs W e m) (w : ∀ ρ r, m' ρ = some r → m ρ = some r) : JT X xs W e m' := by
  refine pt_of h fun σ H Q q => ?_
  obtain ⟨en, ρ, H0, rr, p⟩ := q
  refine ⟨en, ρ, H0, rr, ?_⟩
  cases e1 : m' ρ with
  | none => rw [e1] at p; exact p.elim
  | some r => rw [e1] at p; rw [w ρ r e1]; exact p
theorem jw_weak {e : Expr} {m m' : Rho → Option ResB} (h : JW X xs W e m) (w : ∀ ρ r, m' ρ = some r → m ρ = some r) : JW X xs W e m' := by
  refine pw_of h fun σ H Q q => ?_
  obtain ⟨en, ρ, H0, rr, p⟩ := q
  refine ⟨en, ρ, H0, rr, ?_⟩
  cases e1 : m' ρ with
  | none => rw [e1] at p; exact p.elim
  | some r => rw [e1] at p; rw [w ρ r e1]; exact p
theorem tst_not {m : Rho → Option Res} : tstB (notV m) = notB (tstB m) := by
  funext ρ
  simp only [tstB, notV, notB]
  cases m ρ with
  | none => rfl
  | some r =>
    cases r with
    | exc c p => rfl
    | ok d =>
      dsimp only
      cases truthD d with
      | none => rfl
      | some b => cases b <;> rfl
theorem tst_and {m n : Rho → Option Res} : tstB (andT m n) = andB (tstB m) (tstB n) := by
  funext ρ
  simp only [tstB, andT, andB]
  cases m ρ with
  | none => rfl
  | some r =>
    cases r with
    | exc c p => rfl
    | ok d =>
      dsimp only
      cases e : truthD d with
      | none => rfl
      | some b =>
        cases b with
        | true => rfl
        | false => simp [e]
theorem tst_or {m n : Rho → Option Res} : tstB (orT m n) = orB (tstB m) (tstB n) := by
  funext ρ
  simp only [tstB, orT, orB]
  cases m ρ with
  | none => rfl
  | some r =>
    cases r with
    | exc c p => rfl
    | ok d =>
      dsimp only
      cases e : truthD d with
      | none => rfl
      | some b =>
        cases b with
        | true => simp [e]
        | false => rfl
def ifB (mc ma mb : Rho → Option ResB) : Rho → Option ResB := fun ρ => match mc ρ with
  | some (.ok true) => ma ρ
  | some (.ok false) => mb ρ
  | some (.exc c p) => some (.exc c p)
  | none => none
theorem tst_if {mc : Rho → Option ResB} {m n : Rho → Option Res} : tstB (ifV mc m n) = ifB mc (tstB m) (tstB n) := by
  funext ρ
  simp only [tstB, ifV, ifB]
  cases mc ρ with
  | none => rfl
  | some r =>
    cases r with
    | exc c p => rfl
    | ok d => cases d <;> rfl
theorem postB_trans {K : PySem.W.Frag} {mg : Str → Option Value} {σ : L2.St} {H0 H H0' H' : Hp} {Q : Bool → Hp → Prop} {r : Option ResB} (x1 : Ext H0 H H0' H') (p : PostB K mg xs W σ H0 H Q r) : PostB K mg xs W σ H0' H' Q r := by
  cases r with
  | none => exact p
  | some r =>
    cases r with
    | exc c q => exact fun cls dd A B x2 z2 => p cls dd A B (x1.trans x2) z2
    | ok d => exact fun A B x2 => p A B (x1.trans x2)
theorem jt_if {mc m n : Rho → Option ResB} (hc : JT X xs W c mc) (ha : JT X xs W a m) (hb : JT X xs W b n) : JT X xs W (.IfExp c a b pos) (ifB mc m n) := by
  refine ⟨fun pins s σ H Q I h => ?_⟩
  obtain ⟨en, ρ, H0, rr, p⟩ := h
  show wpAny _ _ (do if ← isTrue c X.env (eval c X.env) then isTrue a X.env (eval a X.env) else isTrue b X.env (eval b X.env)) _ _ _
  have hc' : TauB X.K X.mg xs W mc σ H (fun k H1 => (k = true → TauB X.K X.mg xs W m σ H1 Q) ∧ (k = false → TauB X.K X.mg xs W n σ H1 Q)) := by
    refine ⟨en, ρ, H0, rr, ?_⟩
    unfold ifB at p
    cases e1 : mc ρ with
    | none => rw [e1] at p; exact p.elim
    | some r1 =>
      rw [e1] at p
      cases r1 with
      | exc c q => exact p
      | ok k =>
        intro H0' H' x1
        cases k with
        | true => exact And.intro (fun _ => ⟨en, ρ, H0', rr.mono x1, postB_trans x1 p⟩) (fun e => nomatch e)
        | false => exact And.intro (fun e => nomatch e) (fun _ => ⟨en, ρ, H0', rr.mono x1, postB_trans x1 p⟩)
  refine wpAny_bind (thn (hc.run pins s σ H _ I hc') fun k s1 ⟨H1, I1, q1, q2⟩ => ?_)
  cases k with
  | true => exact ha.run pins s1 σ H1 Q I1 (q1 rfl)
  | false => exact hb.run pins s1 σ H1 Q I1 (q2 rfl)
end

/-! ### the language -/
inductive Cst where
  | none | bool (b : Bool) | int (i : Int) | str (x : Str)
def Cst.d : Cst → D
  | .none => .none
  | .bool b => .bool b
  | .int i => .int i
  | .str x => .str x
inductive O2 where
  | add | sub | mul | fdiv | mod | pow
  deriving DecidableEq
inductive C2 where
  | eq | ne | lt | le | gt | ge | isin | notin
  deriving DecidableEq
inductive Ty where
  | int | bool | str | list | tuple
  deriving DecidableEq
inductive Bl where
  | len | sum | max | min | abs | int | list | tuple | sorted
  deriving DecidableEq
mutual
inductive E where
  | var (i : Nat)
  | cst (c : Cst)
  | glb (k : Nat)
  | tup (es : Es)
  | lst (es : Es)
  | op (o : O2) (a b : E)
  | cmp (o : C2) (a b : E)
  | chain (a : E) (ch : Ch)
  | neg (a : E)
  | not (a : E)
  | and (es : Es)
  | or (es : Es)
  | ifE (c a b : E)
  | isN (a : E)
  | notN (a : E)
  | idx (a i : E)
  | slc (a : E) (lo hi : Oe)
  | rev (a : E)
  | hole
  | isi (a : E) (t : Ty)
  | blt (b : Bl) (es : Es)
  | call (j : Nat) (es : Es)
  | make (j : Nat) (es : Es)
  | cnt (a b : E)
  | sset (a : E)
  | lrng (a : E)
  | dct0
  | dct1 (k v : E)
  | callT (j : Nat) (es : Es)
  | comp (elt : E) (tg : Tg) (it : Itb) (ifs : Oe) (own : List (Str × Nat))
  | comp2 (elt : E) (tg : Tg) (it : Itb) (ifs : Oe) (tg1 : Tg) (it1 : Itb) (ifs1 : Oe) (own : List (Str × Nat))
inductive Es where
  | nil
  | cons (e : E) (es : Es)
inductive Oe where
  | no
  | yes (e : E)
inductive Itb where
  | seq (e : E)
  | rng (es : Es)
  | zip (es : Es)
  | enm (es : Es)
inductive Ch where
  | last (o : C2) (b : E)
  | link (o : C2) (b : E) (r : Ch)
end
def E.src : E → Src
  | .var i => .slot i
  | .idx _ _ => .any
  | .ifE _ _ _ => .any
  | .and _ => .any
  | .or _ => .any
  | .call _ _ => .any
  | .make _ _ => .any
  | .callT _ _ => .any
  | _ => .new
/-- a called def: its name, how many arguments, whether what it hands back is new, what it answers -/
structure FnE where
  name : Str
  ar : Nat
  nw : Bool
  phi : List D → Option Res
/-- a def to which a thing is lent: its name, how many arguments, at which place, the answer with what the thing holds then -/
structure FnI where
  name : Str
  ar : Nat
  at_ : Nat
  phi : List D → Option Res
structure Gb where
  csts : List (Str × Cst)
  excs : List Str
  /-- which of them are raised with a text alone -/
  rz : List Bool
  /-- which is a class of which -/
  sub : Sub
  fns : List FnE
  /-- classes: what their __init__ raises -/
  mks : List FnE
  ios : List FnI
def Gb.phiI (G : Gb) (j : Nat) : List D → Option Res := match G.ios[j]? with
  | some F => F.phi
  | none => fun _ => none
def Gb.phiM (G : Gb) (j : Nat) : List D → Option Res := match G.mks[j]? with
  | some F => F.phi
  | none => fun _ => none
def Gb.phi (G : Gb) (j : Nat) : List D → Option Res := match G.fns[j]? with
  | some F => F.phi
  | none => fun _ => none
/-- where an answer comes from, with the called defs' word -/
def E.srcG (G : Gb) : E → Src
  | .call j _ => (match G.fns[j]? with
    | some F => Src.nw F.nw
    | none => .any)
  | e => e.src
def sem2 : O2 → D → D → Option D
  | .add => addD
  | .sub => subD
  | .mul => mulD
  | .fdiv => fdivD
  | .mod => modD
  | .pow => powD
def semC : C2 → D → D → Option D
  | .eq => eqD
  | .ne => neD
  | .lt => ltD
  | .le => leD
  | .gt => gtD
  | .ge => geD
  | .isin => fun x y => (inD2 x y).map .bool
  | .notin => fun x y => (inD2 x y).map fun b => .bool (!b)
def negD : D → Option D
  | .int i => some (.int (-i))
  | _ => none
def Ty.nm : Ty → String
  | .int => "int"
  | .bool => "bool"
  | .str => "str"
  | .list => "list"
  | .tuple => "tuple"
def semB : Bl → List D → Option D
  | .len => lenD
  | .sum => sumD
  | .max => maxD
  | .min => minD
  | .abs => absD
  | .int => intD
  | .list => listD
  | .tuple => tupleD
  | .sorted => sortedD
def boolRes : Option D → Option Bool
  | some (.bool b) => some b
  | _ => none
mutual
def evalE (G : Gb) : E → Rho → Option Res
  | .var i => fun ρ => slotVal ρ i
  | .cst c => fun _ => some (.ok c.d)
  | .glb k => fun _ => match G.csts[k]? with
    | some (_, c) => some (.ok c.d)
    | none => none
  | .tup es => liftA (fun ds => if okSize ds then some (.tuple ds) else none) (evalK G es)
  | .lst es => liftA (fun ds => if okSize ds then some (.list ds) else none) (evalK G es)
  | .op o a b => lift2 (sem2 o) (evalE G a) (evalE G b)
  | .cmp o a b => lift2 (semC o) (evalE G a) (evalE G b)
  | .chain a ch => fun ρ => match evalE G a ρ with
    | some (.ok d) => evalC G ch d ρ
    | some (.exc c p) => some (.exc c p)
    | none => none
  | .neg a => lift1 negD (evalE G a)
  | .not a => notV (evalE G a)
  | .and es => evalAnd G es
  | .or es => evalOr G es
  | .ifE c a b => ifV (tstB (evalE G c)) (keep a.src (evalE G a)) (keep b.src (evalE G b))
  | .isN a => lift1 (fun d => some (.bool (isNone d))) (evalE G a)
  | .notN a => lift1 (fun d => some (.bool (!isNone d))) (evalE G a)
  | .idx a i => lift2 ixD2 (evalE G a) (evalE G i)
  | .slc a lo hi => slcV (evalE G a) (evalO G lo) (evalO G hi)
  | .rev a => revV (evalE G a)
  | .hole => fun _ => none
  | .isi a t => lift1 (isiD t.nm) (evalE G a)
  | .blt b es => liftA (semB b) (evalA G es)
  | .call j es => callF (G.phi j) (evalA G es)
  | .make j es => mkF (G.phiM j) (evalA G es)
  | .cnt a b => cntV (evalE G a) (evalE G b)
  | .sset a => lift1 ssetD (evalE G a)
  | .lrng a => lift1 lrngD (evalE G a)
  | .dct0 => fun _ => some (.ok (.dict []))
  | .dct1 k v => lift2 dct1 (evalE G k) (keep v.src (evalE G v))
  | .callT j es => callT (G.phiI j) (evalT G es)
  | .comp elt tg it ifs own => compV (evalI G it) (own.map (·.2)) tg.bind (evalF G ifs) (keep elt.src (evalE G elt))
  | .comp2 elt tg it ifs tg1 it1 ifs1 own => compV2 (evalI G it) (own.map (·.2)) tg.bind (evalF G ifs) (evalI G it1) tg1.slots tg1.bind (evalF G ifs1) (keep elt.src (evalE G elt))
def evalK (G : Gb) : Es → Rho → Option ResL
  | .nil => fun _ => some (.ok [])
  | .cons e es => consA (keep e.src (evalE G e)) (evalK G es)
def evalA (G : Gb) : Es → Rho → Option ResL
  | .nil => fun _ => some (.ok [])
  | .cons e es => consA (evalE G e) (evalA G es)
def evalZ (G : Gb) : Es → Rho → Option ResL
  | .nil => fun _ => some (.ok [])
  | .cons e es => consA (keepB e.src (evalE G e)) (evalZ G es)
def evalT (G : Gb) : Es → Rho → Option ResL
  | .nil => fun _ => none
  | .cons e .nil => newA (evalE G e)
  | .cons e (.cons f es) => consA (keep e.src (evalE G e)) (evalT G (.cons f es))
def evalX (G : Gb) : Option Nat → Es → Rho → Option ResL
  | none, .nil => fun _ => some (.ok [])
  | none, .cons e es => consA (keep e.src (evalE G e)) (evalX G none es)
  | some 0, .cons e es => consA (evalE G e) (evalX G none es)
  | some (k + 1), .cons e es => consA (keep e.src (evalE G e)) (evalX G (some k) es)
  | some _, .nil => fun _ => none
def evalAnd (G : Gb) : Es → Rho → Option Res
  | .nil => fun _ => none
  | .cons e .nil => keep e.src (evalE G e)
  | .cons e (.cons f es) => andT (keep e.src (evalE G e)) (evalAnd G (.cons f es))
def evalOr (G : Gb) : Es → Rho → Option Res
  | .nil => fun _ => none
  | .cons e .nil => keep e.src (evalE G e)
  | .cons e (.cons f es) => orT (keep e.src (evalE G e)) (evalOr G (.cons f es))
def evalO (G : Gb) : Oe → Rho → Option ResO
  | .no => fun _ => some (.ok none)
  | .yes e => partV (evalE G e)
def evalF (G : Gb) : Oe → Rho → Option ResB
  | .no => fun _ => some (.ok true)
  | .yes e => tstB (evalE G e)
def evalI (G : Gb) : Itb → Rho → Option ResL
  | .seq e => seqI e.src (evalE G e)
  | .rng es => rngI (evalA G es)
  | .zip es => zipI (evalZ G es)
  | .enm es => enumI (evalZ G es)
def evalC (G : Gb) : Ch → D → Rho → Option Res
  | .last o b => fun d ρ => match evalE G b ρ with
    | some (.ok e) => (match boolRes (semC o d e) with
      | some k => some (.ok (.bool k))
      | none => none)
    | some (.exc c p) => some (.exc c p)
    | none => none
  | .link o b r => fun d ρ => match evalE G b ρ with
    | some (.ok e) => (match boolRes (semC o d e) with
      | some true => evalC G r e ρ
      | some false => some (.ok (.bool false))
      | none => none)
    | some (.exc c p) => some (.exc c p)
    | none => none
end

/-! ### the look at the text -/
def O2.is : O2 → Operator → Bool
  | .add, .Add => true
  | .sub, .Sub => true
  | .mul, .Mult => true
  | .fdiv, .FloorDiv => true
  | .mod, .Mod => true
  | .pow, .Pow => true
  | _, _ => false
def C2.is : C2 → CmpOp → Bool
  | .eq, .Eq => true
  | .ne, .NotEq => true
  | .lt, .Lt => true
  | .le, .LtE => true
  | .gt, .Gt => true
  | .ge, .GtE => true
  | .isin, .In => true
  | .notin, .NotIn => true
  | _, _ => false
def Cst.is : Cst → Const → Bool
  | .none, .none => true
  | .bool b, .bool b' => b == b'
  | .int i, .int j => decide (i = j)
  | .str x, .str y => decide (x = y)
  | _, _ => false
def noStar : Expr → Bool
  | .Starred _ _ => false
  | _ => true
def noSet : Expr → Bool
  | .Set _ _ _ => false
  | _ => true
def noSlice : Expr → Bool
  | .Slice _ _ _ _ => false
  | _ => true
def bltNm : Bl → Str
  | .len => "len"
  | .sum => "sum"
  | .max => "max"
  | .min => "min"
  | .abs => "abs"
  | .int => "int"
  | .list => "list"
  | .tuple => "tuple"
  | .sorted => "sorted"
def tyNm : Ty → Str
  | .int => "int"
  | .bool => "bool"
  | .str => "str"
  | .list => "list"
  | .tuple => "tuple"
def isGlob (sc : Scope) (x : Str) : Bool := decide (sc.names.lookup x = some .globalImplicit)
def visB (sc : Scope) (x : Str) : Bool := match sc.names.lookup x with
  | some .local => true
  | some .cell => true
  | some .free => true
  | _ => false
def plainNm (x : Str) : Bool := !(x == ("__debug__" : Str)) && !(x == ("__classdict__" : Str)) && decide (x ≠ "__name__")
def isNoneC : Expr → Bool
  | .Constant .none _ _ => true
  | _ => false
/-- a stored name: local, or (in a def's own frame) a cell -/
def locB (top : Bool) (sc : Scope) (x : Str) : Bool := match sc.names.lookup x with
  | some .local => true
  | some .cell => top
  | _ => false
/-- in a comprehension's block: local, or its own cell -/
def locC (scope sc : Scope) (x : Str) : Bool := match (relS scope sc).names.lookup x with
  | some .local => true
  | some .cell => scope.names.lookup x == some .cell
  | _ => false
mutual
def chkG (loc : Str → Bool) (N : List Str) : Tg → Expr → Bool
  | .one i, .Name x _ => decide (N[i]? = some x) && loc x
  | .many ts, .Tuple es _ _ => chkGs loc N ts es
  | _, _ => false
def chkGs (loc : Str → Bool) (N : List Str) : Tgs → List Expr → Bool
  | .nil, [] => true
  | .cons t ts, e :: es => noStar e && chkG loc N t e && chkGs loc N ts es
  | _, _ => false
end
def Es.len : Es → Nat
  | .nil => 0
  | .cons _ es => es.len + 1
def isTupX : Expr → Bool
  | .Tuple _ _ _ => true
  | _ => false
/-- no super() and no module's name stands ahead of the dot -/
def noSup : Expr → Bool
  | .Name _ _ => true
  | .Subscript _ _ _ => true
  | .ListComp _ _ _ _ => true
  | _ => false
/-- what is lent is new -/
def lastNew : Es → Bool
  | .nil => false
  | .cons e .nil => (match e with
    | .dct0 => true
    | .dct1 _ _ => true
    | .lst _ => true
    | _ => false)
  | .cons _ es => lastNew es
mutual
def chkE (G : Gb) (N : List Str) (sc : Scope) : E → Expr → Bool
  | .var i, x => (match x with
    | .Name y _ => decide (N[i]? = some y) && visB sc y && plainNm y
    | _ => false)
  | .cst c, x => (match x with
    | .Constant k _ _ => c.is k
    | _ => false)
  | .glb k, x => (match x with
    | .Name y _ => (match G.csts[k]? with
      | some (z, _) => decide (y = z) && isGlob sc y && plainNm y
      | none => false)
    | _ => false)
  | .tup es, x => (match x with
    | .Tuple ys _ _ => chkA G N sc es ys
    | _ => false)
  | .lst es, x => (match x with
    | .List ys _ => chkA G N sc es ys
    | _ => false)
  | .op o a b, x => (match x with
    | .BinOp l p r _ => o.is p && chkE G N sc a l && chkE G N sc b r
    | _ => false)
  | .cmp o a b, x => (match x with
    | .Compare l [p] [r] _ => o.is p && noSet r && chkE G N sc a l && chkE G N sc b r
    | _ => false)
  | .chain a ch, x => (match x with
    | .Compare l (p :: q :: ps) (r :: s :: rs) _ => chkE G N sc a l && chkC G N sc ch (p :: q :: ps) (r :: s :: rs)
    | _ => false)
  | .neg a, x => (match x with
    | .UnaryOp .USub y _ => chkE G N sc a y
    | _ => false)
  | .not a, x => (match x with
    | .UnaryOp .Not y _ => chkE G N sc a y
    | _ => false)
  | .and es, x => (match x with
    | .BoolOp .And (y :: ys) _ => chkA G N sc es (y :: ys)
    | _ => false)
  | .or es, x => (match x with
    | .BoolOp .Or (y :: ys) _ => chkA G N sc es (y :: ys)
    | _ => false)
  | .ifE c a b, x => (match x with
    | .IfExp k l r _ => chkE G N sc c k && chkE G N sc a l && chkE G N sc b r
    | _ => false)
  | .isN a, x => (match x with
    | .Compare l [.Is] [k] _ => chkE G N sc a l && isNoneC k
    | _ => false)
  | .notN a, x => (match x with
    | .Compare l [.IsNot] [k] _ => chkE G N sc a l && isNoneC k
    | _ => false)
  | .idx a i, x => (match x with
    | .Subscript l r _ => chkE G N sc a l && chkE G N sc i r && noSlice r
    | _ => false)
  | .slc a lo hi, x => (match x with
    | .Subscript l (.Slice p q none _) _ => chkE G N sc a l && chkO G N sc lo p && chkO G N sc hi q
    | _ => false)
  | .rev a, x => (match x with
    | .Subscript l (.Slice none none (some (.UnaryOp .USub (.Constant (.int 1) _ _) _)) _) _ => chkE G N sc a l
    | _ => false)
  | .hole, _ => true
  | .isi a t, x => (match x with
    | .Call (.Name f _) [l, .Name y _] [] _ => decide (f = "isinstance") && isGlob sc f && noStar l && chkE G N sc a l && decide (y = tyNm t) && isGlob sc y
    | _ => false)
  | .blt b es, x => (match x with
    | .Call (.Name f _) (y :: ys) [] _ => decide (f = bltNm b) && isGlob sc f && chkA G N sc es (y :: ys)
    | _ => false)
  | .call j es, x => (match x with
    | .Call (.Name f _) (y :: ys) [] _ => (match G.fns[j]? with
      | some F => decide (f = F.name) && isGlob sc f && plainNm f && decide (es.len = F.ar) && chkA G N sc es (y :: ys)
      | none => false)
    | _ => false)
  | .make j es, x => (match x with
    | .Call (.Name f _) (y :: ys) [] _ => (match G.mks[j]? with
      | some F => decide (f = F.name) && isGlob sc f && plainNm f && decide (es.len = F.ar) && chkA G N sc es (y :: ys)
      | none => false)
    | _ => false)
  | .cnt a b, x => (match x with
    | .Call (.Attribute l m ap) [r] [] cp => decide (m = "count") && noSup l && noStar r && (ap.endLine == cp.line) && chkE G N sc a l && chkE G N sc b r
    | _ => false)
  | .sset a, x => (match x with
    | .Call (.Name f _) [.Call (.Name g _) [y] [] _] [] _ => decide (f = "sorted") && decide (g = "set") && isGlob sc f && isGlob sc g && noStar y && chkE G N sc a y
    | _ => false)
  | .lrng a, x => (match x with
    | .Call (.Name f _) [.Call (.Name g _) [y] [] _] [] _ => decide (f = "list") && decide (g = "range") && isGlob sc f && isGlob sc g && noStar y && chkE G N sc a y
    | _ => false)
  | .dct0, x => (match x with
    | .Dict [] [] _ => true
    | _ => false)
  | .dct1 k v, x => (match x with
    | .Dict [some l] [r] _ => chkE G N sc k l && chkE G N sc v r
    | _ => false)
  | .callT j es, x => (match x with
    | .Call (.Name f _) (y :: ys) [] _ => (match G.ios[j]? with
      | some F => decide (f = F.name) && isGlob sc f && plainNm f && decide (es.len = F.ar) && decide (F.at_ + 1 = F.ar) && lastNew es && chkA G N sc es (y :: ys)
      | none => false)
    | _ => false)
  | .comp elt tg it ifs own, x => (match x with
    | .ListComp y [⟨t, i, fs, 0⟩] scope _ => chkI G N sc it t i && noSet i && blkC N sc scope own && chkG (locC scope sc) N tg t && (tg.slots.all fun k => decide (k ∈ own.map (·.2))) && chkF G N (relS scope sc) ifs fs && chkE G N (relS scope sc) elt y
    | _ => false)
  | .comp2 elt tg it ifs tg1 it1 ifs1 own, x => (match x with
    | .ListComp y [⟨t, i, fs, 0⟩, ⟨t1, i1, fs1, 0⟩] scope _ => chkI G N sc it t i && noSet i && noSet i1 && blkC N sc scope own && chkG (locC scope sc) N tg t && (tg.slots.all fun k => decide (k ∈ own.map (·.2))) && chkF G N (relS scope sc) ifs fs && chkI G N (relS scope sc) it1 t1 i1 && chkG (locC scope sc) N tg1 t1 && (tg1.slots.all fun k => decide (k ∈ own.map (·.2))) && chkF G N (relS scope sc) ifs1 fs1 && chkE G N (relS scope sc) elt y
    | _ => false)
def chkA (G : Gb) (N : List Str) (sc : Scope) : Es → List Expr → Bool
  | .nil, ys => (match ys with
    | [] => true
    | _ => false)
  | .cons e es, ys => (match ys with
    | y :: r => noStar y && chkE G N sc e y && chkA G N sc es r
    | _ => false)
def chkO (G : Gb) (N : List Str) (sc : Scope) : Oe → Option Expr → Bool
  | .no, y => (match y with
    | none => true
    | _ => false)
  | .yes e, y => (match y with
    | some z => chkE G N sc e z
    | none => false)
def chkF (G : Gb) (N : List Str) (sc : Scope) : Oe → List Expr → Bool
  | .no, y => (match y with
    | [] => true
    | _ => false)
  | .yes e, y => (match y with
    | [z] => chkE G N sc e z
    | _ => false)
def chkI (G : Gb) (N : List Str) (sc : Scope) : Itb → Expr → Expr → Bool
  | .seq e, t, y => chkE G N sc e y
  | .zip es, t, y => (match y with
    | .Call (.Name f _) (z :: zs) [] _ => isTupX t && decide (f = "zip") && isGlob sc f && chkA G N sc es (z :: zs) && (decide (es.len = 2) || decide (es.len = 3))
    | _ => false)
  | .enm es, t, y => (match y with
    | .Call (.Name f _) (z :: zs) [] _ => isTupX t && decide (f = "enumerate") && isGlob sc f && chkA G N sc es (z :: zs) && decide (es.len = 1)
    | _ => false)
  | .rng es, t, y => (match y with
    | .Call (.Name f _) (z :: zs) [] _ => decide (f = "range") && isGlob sc f && chkA G N sc es (z :: zs) && (decide (es.len = 1) || decide (es.len = 2))
    | _ => false)
def chkC (G : Gb) (N : List Str) (sc : Scope) : Ch → List CmpOp → List Expr → Bool
  | .last o b, ps, rs => (match ps, rs with
    | [p], [r] => o.is p && noSet r && chkE G N sc b r
    | _, _ => false)
  | .link o b ch, ps, rs => (match ps, rs with
    | p :: q :: ps, r :: s :: rs => o.is p && chkE G N sc b r && chkC G N sc ch (q :: ps) (s :: rs)
    | _, _ => false)
end
end
end DD

namespace DD
noncomputable section
open PySem PySem.Spec PyProof.Rows L2

def Cst.v : Cst → V
  | .none => .non
  | .bool b => .bl b
  | .int i => .int i
  | .str x => .str x
theorem Cst.dd (c : Cst) (K : PySem.W.Frag) (H : Hp) : Dd K H c.v c.d := by
  cases c <;> constructor
def bltNames : List Str := ["len", "sum", "max", "min", "abs", "int", "list", "tuple", "isinstance", "bool", "str", "range", "enumerate", "zip", "sorted", "set"]
structure MdOk (P : Program) (w : World) (K : PySem.W.Frag) (mg : Str → Option Value) (base : Heap) (G : Gb) (k : Nat) : Prop where
  blt : ∀ x, x ∈ bltNames → mg x = none
  cst : ∀ (j : Nat) z c, G.csts[j]? = some (z, c) → ∃ u, mg z = some u ∧ RelV (Cst.v c) u
  exc : ∀ (j : Nat) x, G.excs[j]? = some x → G.rz[j]? = some true → ∃ C, mg x = some (.ref C) ∧ PySem.W.excIn K C [.type "ValueError", .type "Exception", .type "BaseException", .type "object"] "ValueError.__new__" = true ∧ PySem.W.keepIn K (.ref C) = true ∧ PySem.W.subIn K (.ref C) (.type "BaseException") = some true ∧ PySem.W.typeIn K (.ref C) = some (.type "type")
  xc : ∀ (j : Nat) x C, G.excs[j]? = some x → mg x = some (.ref C) → ExcC K C
  xg : ∀ (j : Nat) x, G.excs[j]? = some x → ∃ C, mg x = some (.ref C)
  xx : ∀ (j l : Nat) x y C D, G.excs[j]? = some x → G.excs[l]? = some y → mg x = some (.ref C) → mg y = some (.ref D) → PySem.W.exmOne K (.ref C) (.ref D) = some (G.sub j l) ∧ PySem.W.kitOne K (.ref C) (.ref D) = some (G.sub j l)
  fns : ∀ (j : Nat) F, G.fns[j]? = some F → ∃ f fd ps kk, kk ≤ k ∧ ps.length = F.ar ∧ FnOk P w K mg base (L2.CX P w) kk f fd ps (spOf F.nw K mg G.excs ps.length F.phi) ∧ mg F.name = some (.ref f) ∧ PySem.W.keepIn K (.ref f) = true ∧ Binds K fd ps []
  mks : ∀ (j : Nat) F, G.mks[j]? = some F → ∃ C f fd ps kk, kk + 1 ≤ k ∧ ps.length = F.ar + 1 ∧ Mk K C f ∧ FnOk P w K mg base (L2.CX P w) kk f fd ps (spIn K mg G.excs ps.length F.phi) ∧ mg F.name = some (.ref C) ∧ Binds K fd ps []
  ios : ∀ (j : Nat) F, G.ios[j]? = some F → ∃ f fd ps kk, kk ≤ k ∧ ps.length = F.ar ∧ FnOk P w K mg base (L2.CX P w) kk f fd ps (spIO K ps.length F.at_ F.phi) ∧ mg F.name = some (.ref f) ∧ PySem.W.keepIn K (.ref f) = true ∧ Binds K fd ps []
structure Cc (X : Cx) (G : Gb) (N : List Str) (sc : Scope) (top : Bool) (k : Nat) : Prop where
  hN : X.N = N
  nd : N.Nodup
  hsc : X.env.scope = sc
  calm : X.calm = true
  room : Room k X.A
  fn : top = true → ∀ x, X.fn x = true
  mod : MdOk X.prog X.w X.K X.mg X.base G k
theorem Cc.blk {X : Cx} {G : Gb} {N : List Str} {sc : Scope} {top : Bool} {k : Nat} (c : Cc X G N sc top k) (s : Shared) (H : Hp) (scope : Scope) (cl : List (Str × Addr)) (C : Addr) (fp : List Addr) :
    Cc (X.blk s H scope (compEnvC scope cl C X.env) fp) G N (relS scope sc) false k where
  hN := c.hN
  nd := c.nd
  hsc := by rw [← c.hsc]; rfl
  calm := c.calm
  room := c.room
  fn := fun e => nomatch e
  mod := c.mod
theorem star1 {x : Expr} {es : List Expr} {env : Env} (h : noStar x = true) : starEach (x :: es) env = (false, eval x env) :: starEach es env := by
  cases x <;> first | rfl | (simp [noStar] at h)
theorem tg_star {x : Expr} {es : List Expr} {env : Env} (h : noStar x = true) : assignEach (x :: es) env = (false, assign x env) :: assignEach es env := by
  cases x <;> first | rfl | (simp [noStar] at h)
def noStars : List Expr → Bool
  | [] => true
  | x :: r => noStar x && noStars r
theorem back_star {pos : Pos} : ∀ {es : List Expr} {env : Env}, noStars es = true → (backTo pos (starEach es env)).any (·.1) = false
  | [], _, _ => rfl
  | x :: r, env, h => by
    unfold noStars at h
    rw [Bool.and_eq_true] at h
    rw [star1 h.1]
    show (false || (backTo pos (starEach r env)).any (·.1)) = false
    rw [back_star h.2]
    rfl
theorem chkA_stars {G : Gb} {N : List Str} {sc : Scope} : ∀ {es : Es} {ys : List Expr}, chkA G N sc es ys = true → noStars ys = true ∧ ys.length = es.len
  | .nil, ys, h => by
    unfold chkA at h
    cases ys with
    | nil => exact ⟨rfl, rfl⟩
    | cons y r => cases h
  | .cons e es, ys, h => by
    unfold chkA at h
    cases ys with
    | nil => cases h
    | cons y r =>
      simp only [Bool.and_eq_true] at h
      obtain ⟨h1, h2⟩ := chkA_stars h.2
      refine ⟨?_, ?_⟩
      · unfold noStars
        rw [h.1.1, h1]
        rfl
      · rw [List.length_cons, h2]
        rfl
theorem evalA_len {G : Gb} : ∀ {es : Es} {ρ : Rho} {ds : List D}, evalA G es ρ = some (.ok ds) → ds.length = es.len
  | .nil, ρ, ds, h => by
    unfold evalA at h
    cases h
    rfl
  | .cons e es, ρ, ds, h => by
    unfold evalA consA at h
    split at h
    · split at h
      · rename_i d _ _ ds' e2
        cases h
        rw [List.length_cons, evalA_len e2]
        rfl
      · cases h
      · cases h
    · cases h
    · cases h
theorem vis_of {sc : Scope} {x : Str} (h : visB sc x = true) : Vis sc x := by
  unfold visB at h
  unfold Vis
  cases e : sc.names.lookup x with
  | none => rw [e] at h; cases h
  | some k =>
    rw [e] at h
    cases k <;> first | exact .inl rfl | exact .inr (.inl rfl) | exact .inr (.inr rfl) | cases h
theorem plain_of {x : Str} (h : plainNm x = true) : (x == ("__debug__" : Str)) = false ∧ (x == ("__classdict__" : Str)) = false ∧ x ≠ "__name__" := by
  unfold plainNm at h
  simp only [Bool.and_eq_true, Bool.not_eq_true', decide_eq_true_eq] at h
  exact ⟨h.1.1, h.1.2, h.2⟩
theorem noset_marks {op : CmpOp} {x : Expr} (h : noSet x = true) : behindInMarks op x = false := by
  cases x <;> first | rfl | (simp [noSet] at h)
theorem noset_fold {x : Expr} {env : Env} (h : noSet x = true) : ∀ v, foldedSetIterable x env v = pure v := by
  intro v
  cases x <;> first | rfl | (simp [noSet] at h)
theorem noslice_plain {x : Expr} (h : noSlice x = true) : PlainIx x := by
  intro o i
  cases x <;> first | rfl | (simp [noSlice] at h)

/-! ### the operators -/
def O2.toOp : O2 → Operator
  | .add => .Add
  | .sub => .Sub
  | .mul => .Mult
  | .fdiv => .FloorDiv
  | .mod => .Mod
  | .pow => .Pow
theorem O2.is_eq {o : O2} {p : Operator} (h : o.is p = true) : p = o.toOp := by
  unfold O2.is at h
  split at h <;> first | rfl | cases h
def C2.toOp : C2 → CmpOp
  | .eq => .Eq
  | .ne => .NotEq
  | .lt => .Lt
  | .le => .LtE
  | .gt => .Gt
  | .ge => .GtE
  | .isin => .In
  | .notin => .NotIn
theorem C2.is_eq {o : C2} {p : CmpOp} (h : o.is p = true) : p = o.toOp := by
  unfold C2.is at h
  split at h <;> first | rfl | cases h
theorem opR_of {X : Cx} {o : O2} {p : Operator} (h : o.is p = true) : ∃ r, OpR X (binaryOp p) r ∧ Op2Ok true X.K r (sem2 o) := by
  rw [O2.is_eq h]
  cases o with
  | add => exact ⟨_, op_add2, ok_add⟩
  | sub => exact ⟨_, op_sub, ok_sub⟩
  | mul => exact ⟨_, op_mul2, ok_mul⟩
  | fdiv => exact ⟨_, op_fdiv, ok_fdiv⟩
  | mod => exact ⟨_, op_mod, ok_mod⟩
  | pow => exact ⟨_, op_pow, ok_pow⟩
theorem cmpR_of {X : Cx} {k : Nat} {o : C2} {p : CmpOp} (hr : Room k X.A) (h : o.is p = true) : ∃ r, OpR X (compareOp p) r ∧ Op2Ok true X.K r (semC o) := by
  have h65 : X.A.units + 65 < cLine := by have := hr.un; omega
  rw [C2.is_eq h]
  cases o with
  | eq => exact ⟨_, op_eqD hr.units, ok_eq⟩
  | ne => exact ⟨_, op_neD hr.units, ok_ne⟩
  | lt => exact ⟨_, op_lt, ok_lt⟩
  | le => exact ⟨_, op_le, ok_le⟩
  | gt => exact ⟨_, op_gt, ok_gt⟩
  | ge => exact ⟨_, op_ge, ok_ge⟩
  | isin => exact ⟨_, ((op_in_seq.or (op_inD h65)).or (op_din (by omega))).or (op_kin (by omega)), ok_in2 ok_in⟩
  | notin => exact ⟨_, ((op_notIn_seq.or (op_notInD h65)).or (op_dnotin (by omega))).or (op_knotin (by omega)), ok_notin2 ok_notin⟩
theorem semC_bool {o : C2} {d e z : D} (h : semC o d e = some z) : ∃ b, z = .bool b := by
  cases o with
  | eq => simp only [semC, eqD] at h; split at h <;> cases h; exact ⟨_, rfl⟩
  | ne => simp only [semC, neD] at h; split at h <;> cases h; exact ⟨_, rfl⟩
  | lt => simp only [semC] at h; unfold ltD at h; split at h <;> cases h; exact ⟨_, rfl⟩
  | le => simp only [semC] at h; unfold leD at h; split at h <;> cases h; exact ⟨_, rfl⟩
  | gt => simp only [semC] at h; unfold gtD at h; split at h <;> cases h; exact ⟨_, rfl⟩
  | ge => simp only [semC] at h; unfold geD at h; split at h <;> cases h; exact ⟨_, rfl⟩
  | isin =>
    simp only [semC] at h
    cases e1 : inD2 d e with
    | none => rw [e1] at h; cases h
    | some b => rw [e1] at h; cases h; exact ⟨_, rfl⟩
  | notin =>
    simp only [semC] at h
    cases e1 : inD2 d e with
    | none => rw [e1] at h; cases h
    | some b => rw [e1] at h; cases h; exact ⟨_, rfl⟩
theorem ok_neg {K : PySem.W.Frag} : Op1Ok true K (rU fun i => .int (-i)) negD := by
  intro H0 H x d1 d Q s h1 e q
  unfold negD at e
  split at e
  · cases e
    cases h1.int
    exact ⟨_, rfl, rs_flat s (.int _) q⟩
  · cases e
theorem bltB_of {X : Cx} (hu : X.A.units + 64 < cLine) (hc : X.calm = true) (b : Bl) : (∃ id r, bootBuiltins (bltNm b) = some (.builtin id) ∧ CallR X (.builtin id) r ∧ OpAOk true X.K r (semB b)) ∨ (∃ T r, bootBuiltins (bltNm b) = some (.type T) ∧ CallR X (.type T) r ∧ OpAOk true X.K r (semB b)) := by
  cases b with
  | len => exact .inl ⟨_, _, by decide +kernel, call_len_seq, ok_len⟩
  | sum => exact .inl ⟨_, _, by decide +kernel, (cr_sum hc).or (cr_sumT hc), ok_sum⟩
  | max => exact .inl ⟨_, _, by decide +kernel, (cr_max hc).or (call_max2 hc), ok_max⟩
  | min => exact .inl ⟨_, _, by decide +kernel, (cr_min hc).or (call_min2 hc), ok_min⟩
  | abs => exact .inl ⟨_, _, by decide +kernel, call_abs, ok_abs⟩
  | int => exact .inr ⟨_, _, by decide +kernel, call_int1, ok_int⟩
  | list => exact .inr ⟨_, _, by decide +kernel, call_list_of.or (call_listK hc), ok_list⟩
  | tuple => exact .inr ⟨_, _, by decide +kernel, call_tupP, ok_tuple⟩
  | sorted => exact .inl ⟨_, _, by decide +kernel, (((cr_sortD hu).or (call_sortedDI hc)).or cr_sort1).or cr_sortT, ok_sorted⟩
theorem blt_mem (b : Bl) : bltNm b ∈ bltNames := by cases b <;> decide
theorem ty_mem (t : Ty) : tyNm t ∈ bltNames := by cases t <;> decide
theorem ty_boot (t : Ty) : bootBuiltins (tyNm t) = some (.type t.nm) := by cases t <;> decide +kernel
theorem blt_plain (b : Bl) : bltNm b ≠ "__name__" ∧ (bltNm b == ("__debug__" : Str)) = false := by cases b <;> exact ⟨by decide, by decide⟩
theorem ty_plain (t : Ty) : tyNm t ≠ "__name__" ∧ (tyNm t == ("__debug__" : Str)) = false := by cases t <;> exact ⟨by decide, by decide⟩

/-! ### targets -/
section
variable {X : Cx} {G : Gb} {N : List Str} {sc : Scope} {top : Bool} {k : Nat}
theorem loc_of {x : Str} (c : Cc X G N sc top k) (h : locB top sc x = true) : L2.Loc X.env.scope x ∧ (X.fn x = true ∨ X.env.scope.names.lookup x = some .local) := by
  unfold locB at h
  rw [c.hsc]
  cases e : sc.names.lookup x with
  | none => rw [e] at h; cases h
  | some kd =>
    rw [e] at h
    cases kd <;> first
      | exact ⟨.inl e, .inr rfl⟩
      | exact ⟨.inr e, .inl (c.fn h x)⟩
      | cases h
theorem loc_blk {X : Cx} {sc scope : Scope} (hsc : X.env.scope = sc) (s : Shared) (H : Hp) (cl : List (Str × Addr)) (C : Addr) (fp : List Addr) (x : Str) (h : locC scope sc x = true) : L2.Loc (X.blk s H scope (compEnvC scope cl C X.env) fp).env.scope x ∧ ((X.blk s H scope (compEnvC scope cl C X.env) fp).fn x = true ∨ (X.blk s H scope (compEnvC scope cl C X.env) fp).env.scope.names.lookup x = some .local) := by
  subst hsc
  unfold locC at h
  cases e : (relS scope X.env.scope).names.lookup x with
  | none => rw [e] at h; cases h
  | some kd =>
    rw [e] at h
    cases kd <;> first
      | exact ⟨.inl e, .inr e⟩
      | exact ⟨.inr e, .inl h⟩
      | cases h
mutual
theorem sndG (c : Cc X G N sc top k) {loc : Str → Bool} (hl : ∀ x, loc x = true → L2.Loc X.env.scope x ∧ (X.fn x = true ∨ X.env.scope.names.lookup x = some .local)) : ∀ (t : Tg) (e : Expr), chkG loc N t e = true → PG X e (TauG (isTupX e) X.K t.slots t.bind)
  | .one i, e, h => by
    cases e with
    | Name x p =>
      unfold chkG at h
      simp only [Bool.and_eq_true, decide_eq_true_eq] at h
      obtain ⟨h1, h2⟩ := hl _ h.2
      exact jg_one (by rw [c.hN]; exact c.nd) (by rw [c.hN]; exact h.1) h1 h2
    | _ => unfold chkG at h; cases h
  | .many ts, e, h => by
    cases e with
    | Tuple es kk p =>
      unfold chkG at h
      obtain ⟨h1, h2, h3⟩ := sndGs c hl ts es h
      exact jg_many c.calm h1 h2 h3
    | _ => unfold chkG at h; cases h
theorem sndGs (c : Cc X G N sc top k) {loc : Str → Bool} (hl : ∀ x, loc x = true → L2.Loc X.env.scope x ∧ (X.fn x = true ∨ X.env.scope.names.lookup x = some .local)) : ∀ (ts : Tgs) (es : List Expr), chkGs loc N ts es = true → PGs X es (TauGs X.K ts.slots ts.bind) ∧ (assignEach es X.env).length = ts.len ∧ (assignEach es X.env).findIdx? (·.1) = none
  | .nil, es, h => by
    cases es with
    | nil => exact ⟨jgs_nil, rfl, rfl⟩
    | cons e r => unfold chkGs at h; cases h
  | .cons t ts, es, h => by
    cases es with
    | nil => unfold chkGs at h; cases h
    | cons e r =>
      unfold chkGs at h
      simp only [Bool.and_eq_true] at h
      obtain ⟨h1, h2, h3⟩ := sndGs c hl ts r h.2
      refine ⟨jgs_cons (sndG c hl t e h.1.2) h1 (by rw [tg_star h.1.1]; rfl), ?_, ?_⟩
      · rw [tg_star h.1.1, List.length_cons, h2]
        rfl
      · rw [tg_star h.1.1, List.findIdx?_cons]
        rw [h3]
        rfl
end
end

/-! ### a chain of comparisons -/
section
variable {X : Cx} {G : Gb} {xs : List Str} {W : WX}
def JC (X : Cx) (xs : List Str) (W : WX) (ops : List CmpOp) (es : List Expr) (m : D → Rho → Option Res) : Prop :=
  (∀ (pos : Pos) (pins : List (Addr × Obj)) (s : Shared) (σ : L2.St) (H H0 : Hp) (en : Ent) (ρ : Rho) (v : V) (u : Value) (d : D) (Q : VK), Inv X pins σ H s → R X.K en ρ H0 σ H → RB X.K H0 H v d → RelV v u → PostR X.K X.mg xs W .new σ H0 H Q (m d ρ) →
    wpAny (model X.prog X.w) X.A (compareChain pos u ops (evalEach es X.env)) (EP X pins σ Q) X.xe s) ∧
  (∀ (pos : Pos) (pins : List (Addr × Obj)) (s : Shared) (σ : L2.St) (H H0 : Hp) (en : Ent) (ρ : Rho) (v : V) (u : Value) (d : D) (Q : Bool → Hp → Prop), Inv X pins σ H s → R X.K en ρ H0 σ H → RB X.K H0 H v d → RelV v u → PostB X.K X.mg xs W σ H0 H Q (tstB (m d) ρ) →
    wpAny (model X.prog X.w) X.A (testChain pos u ops (evalEach es X.env)) (TP X pins σ Q) X.xe s)
def lastC (o : C2) (mb : Rho → Option Res) : D → Rho → Option Res := fun d ρ => match mb ρ with
  | some (.ok e) => (match boolRes (semC o d e) with
    | some k => some (.ok (.bool k))
    | none => none)
  | some (.exc c p) => some (.exc c p)
  | none => none
def linkC (o : C2) (mb : Rho → Option Res) (r : D → Rho → Option Res) : D → Rho → Option Res := fun d ρ => match mb ρ with
  | some (.ok e) => (match boolRes (semC o d e) with
    | some true => r e ρ
    | some false => some (.ok (.bool false))
    | none => none)
  | some (.exc c p) => some (.exc c p)
  | none => none
theorem boolRes_of {x : Option D} {k : Bool} (h : boolRes x = some k) : x = some (.bool k) := by
  unfold boolRes at h
  split at h
  · cases h; rfl
  · cases h
theorem postR_trans {K : PySem.W.Frag} {mg : Str → Option Value} {σ : L2.St} {H0 H H0' H' : Hp} {Q : VK} {r : Option Res} (x1 : Ext H0 H H0' H') (p : PostR K mg xs W .new σ H0 H Q r) : PostR K mg xs W .new σ H0' H' Q r := by
  cases r with
  | none => exact p
  | some r =>
    cases r with
    | exc c q => exact fun cls dd A B x2 z2 => p cls dd A B (x1.trans x2) z2
    | ok d =>
      intro v A B x2 z2
      refine p v A B (x1.trans x2) ?_
      have z2' : RS true K H' A B v d := z2
      exact RS.rz (n := true) x1.s z2'
theorem jc_last {o : C2} {p : CmpOp} {b : Expr} {sb : Src} {mb : Rho → Option Res} {r : R2} (ho : OpR X (compareOp p) r) (hf : Op2Ok true X.K r (semC o)) (hb : JE X xs W b sb mb) : JC X xs W [p] [b] (lastC o mb) := by
  refine ⟨fun pos pins s σ H H0 en ρ v u d Q I rr hv ru q => ?_, fun pos pins s σ H H0 en ρ v u d Q I rr hv ru q => ?_⟩
  · refine chain_last (thn (hb.run pins s σ H (fun y H2 => r v y H2 Q) I ⟨en, ρ, H0, rr, ?_⟩) fun w s2 ⟨y, H2, I2, r2, q2⟩ => ho pins s2 σ H2 v y u w Q I2 ru r2 q2)
    unfold lastC at q
    cases e1 : mb ρ with
    | none => rw [e1] at q; exact q.elim
    | some r1 =>
      rw [e1] at q
      cases r1 with
      | exc c z => exact q
      | ok e =>
        intro y A B x1 z1
        dsimp only at q
        cases e2 : boolRes (semC o d e) with
        | none => rw [e2] at q; exact q.elim
        | some k =>
          rw [e2] at q
          exact hf A B v y d e (.bool k) Q x1.sub (hv.mono x1) z1.rb (boolRes_of e2) fun v3 A3 B3 x3 z3 => q v3 A3 B3 (x1.trans x3) (RS.rz (n := true) x1.s z3)
  · refine test_last (thn (hb.run pins s σ H (fun y H2 => r v y H2 fun z H3 => ∃ k, z = .bl k ∧ Q k H3) I ⟨en, ρ, H0, rr, ?_⟩) fun w s2 ⟨y, H2, I2, r2, q2⟩ => thn (ho pins s2 σ H2 v y u w _ I2 ru r2 q2) fun c s3 ⟨z, H3, I3, r3, k, e, q3⟩ => ?_)
    · unfold tstB lastC at q
      cases e1 : mb ρ with
      | none => rw [e1] at q; exact q.elim
      | some r1 =>
        rw [e1] at q
        cases r1 with
        | exc c z => exact q
        | ok e =>
          intro y A B x1 z1
          dsimp only at q
          cases e2 : boolRes (semC o d e) with
          | none => rw [e2] at q; exact q.elim
          | some k =>
            rw [e2] at q
            refine hf A B v y d e (.bool k) _ x1.sub (hv.mono x1) z1.rb (boolRes_of e2) fun v3 A3 B3 x3 z3 => ⟨k, ?_, q A3 B3 (x1.trans x3)⟩
            exact z3.rb.bool
    · subst e
      cases r3
      exact wpAny_truthy_bool ⟨H3, I3, q3⟩
theorem jc_link {o : C2} {p p' : CmpOp} {ps : List CmpOp} {b b' : Expr} {bs : List Expr} {sb : Src} {mb : Rho → Option Res} {r : R2} {mr : D → Rho → Option Res} (ho : OpR X (compareOp p) r) (hf : Op2Ok true X.K r (semC o)) (hb : JE X xs W b sb mb) (hr : JC X xs W (p' :: ps) (b' :: bs) mr) :
    JC X xs W (p :: p' :: ps) (b :: b' :: bs) (linkC o mb mr) := by
  refine ⟨fun pos pins s σ H H0 en ρ v u d Q I rr hv ru q => ?_, fun pos pins s σ H H0 en ρ v u d Q I rr hv ru q => ?_⟩
  · refine chain_link (thn (hb.run pins s σ H (fun y H2 => r v y H2 fun z H3 => ∃ k, z = .bl k ∧ (k = false → Q (.bl false) H3) ∧ (k = true → ∃ e H03, R X.K en ρ H03 σ H3 ∧ RB X.K H03 H3 y e ∧ PostR X.K X.mg xs W .new σ H03 H3 Q (mr e ρ))) I ⟨en, ρ, H0, rr, ?_⟩) fun w s2 ⟨y, H2, I2, r2, q2⟩ =>
      thn (ho pins s2 σ H2 v y u w _ I2 ru r2 q2) fun c s3 ⟨z, H3, I3, r3, k, e, q3, q4⟩ => ?_)
    · unfold linkC at q
      cases e1 : mb ρ with
      | none => rw [e1] at q; exact q.elim
      | some r1 =>
        rw [e1] at q
        cases r1 with
        | exc c z => exact q
        | ok e =>
          intro y A B x1 z1
          dsimp only at q
          cases e2 : boolRes (semC o d e) with
          | none => rw [e2] at q; exact q.elim
          | some k =>
            rw [e2] at q
            refine hf A B v y d e (.bool k) _ x1.sub (hv.mono x1) z1.rb (boolRes_of e2) fun v3 A3 B3 x3 z3 => ⟨k, z3.rb.bool, fun ek => ?_, fun ek => ?_⟩
            · subst ek
              exact q _ A3 B3 (x1.trans x3) (.inl ⟨.bl false, fun _ => rfl⟩)
            · subst ek
              exact ⟨e, A3, (rr.mono x1).mono x3, z1.rb.mono x3, postR_trans (x1.trans x3) q⟩
    · subst e
      cases r3
      refine wpAny_truthy_bool ?_
      cases k with
      | false => exact ite_ff ⟨.bl false, H3, I3, rfl, q3 rfl⟩
      | true =>
        obtain ⟨e, H03, r4, h4, p4⟩ := q4 rfl
        exact ite_tt (hr.1 pos pins s3 σ H3 H03 en ρ y w e Q I3 r4 h4 r2 p4)
  · refine test_link (thn (hb.run pins s σ H (fun y H2 => r v y H2 fun z H3 => ∃ k, z = .bl k ∧ (k = false → Q false H3) ∧ (k = true → ∃ e H03, R X.K en ρ H03 σ H3 ∧ RB X.K H03 H3 y e ∧ PostB X.K X.mg xs W σ H03 H3 Q (tstB (mr e) ρ))) I ⟨en, ρ, H0, rr, ?_⟩) fun w s2 ⟨y, H2, I2, r2, q2⟩ =>
      thn (ho pins s2 σ H2 v y u w _ I2 ru r2 q2) fun c s3 ⟨z, H3, I3, r3, k, e, q3, q4⟩ => ?_)
    · unfold tstB linkC at q
      cases e1 : mb ρ with
      | none => rw [e1] at q; exact q.elim
      | some r1 =>
        rw [e1] at q
        cases r1 with
        | exc c z => exact q
        | ok e =>
          intro y A B x1 z1
          dsimp only at q
          cases e2 : boolRes (semC o d e) with
          | none => rw [e2] at q; exact q.elim
          | some k =>
            rw [e2] at q
            refine hf A B v y d e (.bool k) _ x1.sub (hv.mono x1) z1.rb (boolRes_of e2) fun v3 A3 B3 x3 z3 => ⟨k, z3.rb.bool, fun ek => ?_, fun ek => ?_⟩
            · subst ek
              exact q A3 B3 (x1.trans x3)
            · subst ek
              exact ⟨e, A3, (rr.mono x1).mono x3, z1.rb.mono x3, postB_trans (x1.trans x3) q⟩
    · subst e
      cases r3
      refine wpAny_truthy_bool ?_
      cases k with
      | false => exact ite_ff ⟨H3, I3, q3 rfl⟩
      | true =>
        obtain ⟨e, H03, r4, h4, p4⟩ := q4 rfl
        exact ite_tt (hr.2 pos pins s3 σ H3 H03 en ρ y w e Q I3 r4 h4 r2 p4)
def chainV (ma : Rho → Option Res) (mc : D → Rho → Option Res) : Rho → Option Res := fun ρ => match ma ρ with
  | some (.ok d) => mc d ρ
  | some (.exc c p) => some (.exc c p)
  | none => none
theorem je_chain {a : Expr} {sa : Src} {ma : Rho → Option Res} {p q : CmpOp} {ps : List CmpOp} {b c : Expr} {bs : List Expr} {mc : D → Rho → Option Res} {pos : Pos} (ha : JE X xs W a sa ma) (hc : JC X xs W (p :: q :: ps) (b :: c :: bs) mc) (hm : lastMarks (p :: q :: ps) (b :: c :: bs) = false) :
    JE X xs W (.Compare a (p :: q :: ps) (b :: c :: bs) pos) .new (chainV ma mc) ∧ JT X xs W (.Compare a (p :: q :: ps) (b :: c :: bs) pos) (tstB (chainV ma mc)) := by
  refine ⟨⟨fun pins s σ H Q I h => ?_⟩, ⟨fun pins s σ H Q I h => ?_⟩⟩
  · obtain ⟨en, ρ, H0, rr, z⟩ := h
    refine Compare_chain (thn (ha.run pins s σ H (fun v H1 => ∃ d H01, R X.K en ρ H01 σ H1 ∧ RB X.K H01 H1 v d ∧ PostR X.K X.mg xs W .new σ H01 H1 Q (mc d ρ)) I ⟨en, ρ, H0, rr, ?_⟩) fun u s1 ⟨v, H1, I1, r1, d, H01, r2, h2, p2⟩ => hc.1 pos pins s1 σ H1 H01 en ρ v u d Q I1 r2 h2 r1 p2) hm
    unfold chainV at z
    cases e1 : ma ρ with
    | none => rw [e1] at z; exact z.elim
    | some r1 =>
      rw [e1] at z
      cases r1 with
      | exc c z' => exact z
      | ok d => exact fun v A B x1 z1 => ⟨d, A, rr.mono x1, z1.rb, postR_trans x1 z⟩
  · obtain ⟨en, ρ, H0, rr, z⟩ := h
    refine isTrue_chain (thn (ha.run pins s σ H (fun v H1 => ∃ d H01, R X.K en ρ H01 σ H1 ∧ RB X.K H01 H1 v d ∧ PostB X.K X.mg xs W σ H01 H1 Q (tstB (mc d) ρ)) I ⟨en, ρ, H0, rr, ?_⟩) fun u s1 ⟨v, H1, I1, r1, d, H01, r2, h2, p2⟩ => hc.2 pos pins s1 σ H1 H01 en ρ v u d Q I1 r2 h2 r1 p2) hm
    unfold tstB chainV at z
    cases e1 : ma ρ with
    | none => rw [e1] at z; exact z.elim
    | some r1 =>
      rw [e1] at z
      cases r1 with
      | exc c z' => exact z
      | ok d => exact fun v A B x1 z1 => ⟨d, A, rr.mono x1, z1.rb, postB_trans x1 z⟩
end
end
end DD

namespace DD
noncomputable section
open PySem PySem.Spec PyProof.Rows L2

section
variable {X : Cx} {xs : List Str} {W : WX} {a : Expr} {ma : Rho → Option Res}
theorem keep_weak {src : Src} {m : Rho → Option Res} (hs : ∀ i, src = .slot i → m = fun ρ => slotVal ρ i) {ρ : Rho} {r : Res} (h : keep src m ρ = some r) : m ρ = some r := by
  unfold keep at h
  cases src with
  | new => exact h
  | any => exact h
  | slot i =>
    rw [hs i rfl]
    dsimp only at h ⊢
    unfold keepV at h
    unfold slotVal
    cases e : ρ[i]? with
    | none => rw [e] at h; cases h
    | some s0 =>
      rw [e] at h
      cases s0 with
      | none => cases h
      | some fd =>
        obtain ⟨fl, d⟩ := fd
        dsimp only at h ⊢
        split at h
        · exact h
        · cases h
theorem tst_weak {m m' : Rho → Option Res} (h : ∀ ρ r, m' ρ = some r → m ρ = some r) : ∀ ρ r, tstB m' ρ = some r → tstB m ρ = some r := by
  intro ρ r e
  unfold tstB at e ⊢
  cases e1 : m' ρ with
  | none => rw [e1] at e; cases e
  | some z => rw [e1] at e; rw [h ρ z e1]; exact e
theorem both {src : Src} (j : JE X xs W a src ma) (he : ∀ whole, isTrue a X.env whole = (do let v ← whole; standAt a.pos; holding [v] (truthy v))) : JE X xs W a src ma ∧ JT X xs W a (tstB ma) := ⟨j, jt_truth j he⟩
theorem call_any {nw : Bool} (j : JE X xs W a (Src.nw nw) ma) : JE X xs W a .any ma := by
  cases nw with
  | false => exact j
  | true =>
    refine pe_of j fun σ H Q z => ?_
    obtain ⟨en, ρ, H0, rr, p⟩ := z
    refine ⟨en, ρ, H0, rr, ?_⟩
    cases e1 : ma ρ with
    | none => rw [e1] at p; exact p.elim
    | some r1 =>
      rw [e1] at p
      cases r1 with
      | exc c q => exact p
      | ok d => exact fun v A B x1 z1 => p v A B x1 (RS.weak (n := true) z1)
end
theorem src_slot {G : Gb} : ∀ {e : E} {i : Nat}, e.src = .slot i → evalE G e = fun ρ => slotVal ρ i := by
  intro e i h
  cases e <;> first | (simp only [E.src] at h; cases h; rfl) | (simp only [E.src] at h; cases h)
theorem srcG_slot {G : Gb} : ∀ {e : E} {i : Nat}, e.srcG G = .slot i → e.src = .slot i := by
  intro e i h
  cases e <;> first | exact h | skip
  simp only [E.srcG] at h
  split at h
  · rename_i F _
    cases hn : F.nw <;> (rw [hn] at h; cases h)
  · cases h
theorem keep_srcG {G : Gb} {e : E} {m : Rho → Option Res} : keep (e.srcG G) m = keep e.src m := by
  cases e <;> first | rfl | skip
  funext ρ
  simp only [E.srcG, E.src]
  split
  · rename_i F _
    cases F.nw <;> rfl
  · rfl
theorem seqI_srcG {G : Gb} {e : E} {m : Rho → Option Res} : seqI (e.srcG G) m = seqI e.src m := by
  cases e <;> first | rfl | skip
  funext ρ
  simp only [E.srcG, E.src]
  split
  · rename_i F _
    cases F.nw <;> rfl
  · rfl
/-- settled, of an expression of the language -/
theorem jd_E {G : Gb} {X : Cx} {W : WX} {e : E} {x : Expr} (h : JE X G.excs W x (e.srcG G) (evalE G e)) : JD X G.excs W x (keep e.src (evalE G e)) := by
  rw [← keep_srcG]
  exact jd_of h fun i q => src_slot (srcG_slot q)
theorem nosup_base {o : Expr} {env : Env} (h : noSup o = true) : attributeBase o "count" env (eval o env) = eval o env := by
  cases o <;> first | rfl | cases h
theorem evalZ_len {G : Gb} : ∀ {es : Es} {ρ : Rho} {ds : List D}, evalZ G es ρ = some (.ok ds) → ds.length = es.len
  | .nil, ρ, ds, h => by
    unfold evalZ at h
    cases h
    rfl
  | .cons e es, ρ, ds, h => by
    unfold evalZ consA at h
    split at h
    · split at h
      · rename_i d _ _ ds' e2
        cases h
        rw [List.length_cons, evalZ_len e2]
        rfl
      · cases h
      · cases h
    · cases h
    · cases h
theorem keepB_srcG {G : Gb} {e : E} {m : Rho → Option Res} : keepB (e.srcG G) m = keepB e.src m := by
  cases e <;> first | rfl | skip
  funext ρ
  simp only [E.srcG, E.src]
  split
  · rename_i F _
    cases F.nw <;> rfl
  · rfl
theorem jz_E {G : Gb} {X : Cx} {W : WX} {e : E} {x : Expr} (h : JE X G.excs W x (e.srcG G) (evalE G e)) : JZ X G.excs W x (keepB e.src (evalE G e)) := by
  rw [← keepB_srcG]
  exact jz_of h fun i q => src_slot (srcG_slot q)
theorem evalT_len {G : Gb} : ∀ {es : Es} {ρ : Rho} {ds : List D}, evalT G es ρ = some (.ok ds) → ds.length = es.len
  | .nil, ρ, ds, h => by
    unfold evalT at h
    cases h
  | .cons e .nil, ρ, ds, h => by
    unfold evalT newA at h
    split at h
    · split at h
      · cases h
      · cases h; rfl
    · cases h
    · cases h
  | .cons e (.cons f es), ρ, ds, h => by
    unfold evalT consA at h
    split at h
    · split at h
      · rename_i d _ _ ds' e2
        cases h
        rw [List.length_cons, evalT_len e2]
        rfl
      · cases h
      · cases h
    · cases h
    · cases h
theorem lastMarks_cons {p q : CmpOp} {ps : List CmpOp} {b c : Expr} {bs : List Expr} : lastMarks (p :: q :: ps) (b :: c :: bs) = lastMarks (q :: ps) (c :: bs) := rfl
theorem chkC_marks {G : Gb} {N : List Str} {sc : Scope} : ∀ {ch : Ch} {ps : List CmpOp} {rs : List Expr}, chkC G N sc ch ps rs = true → lastMarks ps rs = false
  | .last o b, ps, rs, h => by
    unfold chkC at h
    split at h
    · simp only [Bool.and_eq_true] at h
      show behindInMarks _ _ = false
      exact noset_marks h.1.2
    · cases h
  | .link o b ch, ps, rs, h => by
    unfold chkC at h
    split at h
    · simp only [Bool.and_eq_true] at h
      rw [lastMarks_cons]
      exact chkC_marks h.2
    · cases h

set_option maxHeartbeats 1000000 in
mutual
theorem sndE {G : Gb} {N : List Str} : ∀ (e : E) (sc : Scope) (x : Expr) (X : Cx) (W : WX) (top : Bool) (k : Nat), chkE G N sc e x = true → Cc X G N sc top k → Takes X W → JE X G.excs W x (e.srcG G) (evalE G e) ∧ JT X G.excs W x (tstB (evalE G e))
  | .var i, sc, x, X, W, top, k, h, c, tk => by
    unfold chkE at h
    split at h
    · simp only [Bool.and_eq_true, decide_eq_true_eq] at h
      obtain ⟨h1, h2, _⟩ := plain_of h.2
      exact both (je_var (by rw [c.hN]; exact h.1.1) (by rw [c.hsc]; exact vis_of h.1.2) h1 h2) (fun _ => rfl)
    · cases h
  | .cst cc, sc, x, X, W, top, k, h, c, tk => by
    unfold chkE at h
    split at h
    · rename_i kc _ _
      refine both (src := .new) (ma := fun _ => some (.ok cc.d)) ?_ (fun _ => rfl)
      · unfold Cst.is at h
        split at h
        · exact je_val pe_non (fun _ => .non) rfl
        · have e := eq_of_beq h
          subst e
          exact je_val pe_bl (fun _ => .bl _) rfl
        · have e := of_decide_eq_true h
          subst e
          exact je_val pe_int (fun _ => .int _) rfl
        · have e := of_decide_eq_true h
          subst e
          exact je_val pe_str (fun _ => .str _) rfl
        · cases h
    · cases h
  | .glb kk, sc, x, X, W, top, k, h, c, tk => by
    unfold chkE at h
    split at h
    · split at h
      · rename_i z cc ez
        simp only [Bool.and_eq_true, decide_eq_true_eq] at h
        obtain ⟨⟨ey, h2⟩, h3⟩ := h
        subst ey
        obtain ⟨hd, _, _⟩ := plain_of h3
        obtain ⟨u, hm, r⟩ := c.mod.cst kk _ cc ez
        have q : evalE G (.glb kk) = fun _ => some (.ok cc.d) := by
          funext ρ
          unfold evalE
          rw [ez]
        rw [q]
        refine both (src := .new) (je_val (pe_glob ?_ hm r hd) (fun H0 => cc.dd _ _) (by cases cc <;> rfl)) (fun _ => rfl)
        show X.env.scope.names.lookup _ = _
        rw [c.hsc]
        exact of_decide_eq_true h2
      · cases h
    · cases h
  | .tup es, sc, x, X, W, top, k, h, c, tk => by
    unfold chkE at h
    split at h
    · exact both (je_tup (sndK es sc _ X W top k h c tk)) (fun _ => rfl)
    · cases h
  | .lst es, sc, x, X, W, top, k, h, c, tk => by
    unfold chkE at h
    split at h
    · exact both (je_lst (sndK es sc _ X W top k h c tk)) (fun _ => rfl)
    · cases h
  | .op o a b, sc, x, X, W, top, k, h, c, tk => by
    unfold chkE at h
    split at h
    · simp only [Bool.and_eq_true] at h
      obtain ⟨r, ho, hf⟩ := opR_of (X := X) h.1.1
      exact both (je_op ho hf (sndE a sc _ X W top k h.1.2 c tk).1 (sndE b sc _ X W top k h.2 c tk).1) (fun _ => rfl)
    · cases h
  | .cmp o a b, sc, x, X, W, top, k, h, c, tk => by
    unfold chkE at h
    split at h
    · simp only [Bool.and_eq_true] at h
      obtain ⟨r, ho, hf⟩ := cmpR_of (X := X) c.room h.1.1.1
      have ha := (sndE a sc _ X W top k h.1.2 c tk).1
      have hb := (sndE b sc _ X W top k h.2 c tk).1
      exact ⟨je_cmp ho hf (noset_marks h.1.1.2) ha hb, jt_cmp ho hf (fun d e z q => semC_bool q) (noset_marks h.1.1.2) ha hb⟩
    · cases h
  | .chain a ch, sc, x, X, W, top, k, h, c, tk => by
    unfold chkE at h
    split at h
    · simp only [Bool.and_eq_true] at h
      exact je_chain (sndE a sc _ X W top k h.1 c tk).1 (sndC ch sc _ _ X W top k h.2 c tk) (chkC_marks h.2)
    · cases h
  | .neg a, sc, x, X, W, top, k, h, c, tk => by
    unfold chkE at h
    split at h
    · exact both (je_un un_neg ok_neg (sndE a sc _ X W top k h c tk).1) (fun _ => rfl)
    · cases h
  | .not a, sc, x, X, W, top, k, h, c, tk => by
    unfold chkE at h
    split at h
    · obtain ⟨h1, h2⟩ := sndE a sc _ X W top k h c tk
      refine ⟨?_, ?_⟩
      · refine pe_of (jd_not h1) fun σ H Q z => ?_
        obtain ⟨en, ρ, H0, rr, p⟩ := z
        refine ⟨en, ρ, H0, rr, ?_⟩
        have hb : ∀ d, notV (evalE G a) ρ = some (.ok d) → flatRoot d = true := by
          intro d hd
          unfold notV at hd
          split at hd
          · rename_i d0 _
            cases e0 : truthD d0 with
            | none => rw [e0] at hd; cases hd
            | some b => rw [e0] at hd; cases hd; rfl
          · cases hd
          · cases hd
        have p : PostR X.K X.mg G.excs W .new σ H0 H Q (notV (evalE G a) ρ) := p
        cases e1 : notV (evalE G a) ρ with
        | none => rw [e1] at p; exact p.elim
        | some r1 =>
          rw [e1] at p
          cases r1 with
          | exc c q => exact p
          | ok d => exact fun v A B x1 z1 => p v A B x1 (.inl ⟨z1, fun _ => hb d e1⟩)
      · show JT X G.excs W _ (tstB (notV (evalE G a)))
        rw [tst_not]
        exact jt_not h2
    · cases h
  | .and es, sc, x, X, W, top, k, h, c, tk => by
    unfold chkE at h
    split at h
    · obtain ⟨h1, h2⟩ := sndAnd es sc _ _ _ X W top k h c tk
      exact ⟨je_of_jd h1, h2.pt⟩
    · cases h
  | .or es, sc, x, X, W, top, k, h, c, tk => by
    unfold chkE at h
    split at h
    · obtain ⟨h1, h2⟩ := sndOr es sc _ _ _ X W top k h c tk
      exact ⟨je_of_jd h1, h2.pt⟩
    · cases h
  | .ifE cc a b, sc, x, X, W, top, k, h, c, tk => by
    unfold chkE at h
    split at h
    · simp only [Bool.and_eq_true] at h
      have hc := sndE cc sc _ X W top k h.1.1 c tk
      have ha := sndE a sc _ X W top k h.1.2 c tk
      have hb := sndE b sc _ X W top k h.2 c tk
      refine ⟨je_of_jd (jd_if hc.2 (jd_E ha.1) (jd_E hb.1)), ?_⟩
      show JT X G.excs W _ (tstB (ifV (tstB (evalE G cc)) (keep a.src (evalE G a)) (keep b.src (evalE G b))))
      rw [tst_if]
      exact jt_if hc.2 (jt_weak ha.2 (tst_weak fun ρ r z => keep_weak (fun i e => src_slot e) z)) (jt_weak hb.2 (tst_weak fun ρ r z => keep_weak (fun i e => src_slot e) z))
    · cases h
  | .isN a, sc, x, X, W, top, k, h, c, tk => by
    unfold chkE at h
    split at h
    · simp only [Bool.and_eq_true] at h
      obtain ⟨h1, h2⟩ := h
      have ha := (sndE a sc _ X W top k h1 c tk).1
      unfold isNoneC at h2
      split at h2
      · exact ⟨je_isN ha, jt_isN ha⟩
      · cases h2
    · cases h
  | .notN a, sc, x, X, W, top, k, h, c, tk => by
    unfold chkE at h
    split at h
    · simp only [Bool.and_eq_true] at h
      obtain ⟨h1, h2⟩ := h
      have ha := (sndE a sc _ X W top k h1 c tk).1
      unfold isNoneC at h2
      split at h2
      · exact ⟨je_notN ha, jt_notN ha⟩
      · cases h2
    · cases h
  | .idx a i, sc, x, X, W, top, k, h, c, tk => by
    unfold chkE at h
    split at h
    · simp only [Bool.and_eq_true] at h
      exact both (je_ix (n := false) ((ix_seq.or (ix_dict (by have := c.room.units; omega))).or (ix_keyed (by have := c.room.un; omega))) (ok_ix2 ok_ix) (noslice_plain h.2) (sndE a sc _ X W top k h.1.1 c tk).1 (sndE i sc _ X W top k h.1.2 c tk).1) (fun _ => rfl)
    · cases h
  | .slc a lo hi, sc, x, X, W, top, k, h, c, tk => by
    unfold chkE at h
    split at h
    · simp only [Bool.and_eq_true] at h
      exact both (je_slc (sndE a sc _ X W top k h.1.1 c tk).1 (sndO lo sc _ X W top k h.1.2 c tk) (sndO hi sc _ X W top k h.2 c tk)) (fun _ => rfl)
    · cases h
  | .rev a, sc, x, X, W, top, k, h, c, tk => by
    unfold chkE at h
    split at h
    · exact both (je_rev (sndE a sc _ X W top k h c tk).1) (fun _ => rfl)
    · cases h
  | .hole, sc, x, X, W, top, k, h, c, tk => by
    refine ⟨⟨fun pins s σ H Q I h => ?_⟩, ⟨fun pins s σ H Q I h => ?_⟩⟩
    · obtain ⟨en, ρ, H0, rr, p⟩ := h
      exact p.elim
    · obtain ⟨en, ρ, H0, rr, p⟩ := h
      exact p.elim
  | .isi a t, sc, x, X, W, top, k, h, c, tk => by
    unfold chkE at h
    split at h
    · simp only [Bool.and_eq_true, decide_eq_true_eq] at h
      obtain ⟨⟨⟨⟨⟨rfl, g1⟩, ns⟩, ca⟩, rfl⟩, g2⟩ := h
      have hg : ∀ y, isGlob sc y = true → Gl X y := fun y hy => by
        show X.env.scope.names.lookup y = _
        rw [c.hsc]
        exact of_decide_eq_true hy
      exact both (je_isi c.calm (sndE a sc _ X W top k ca c tk).1 (hg _ g1) (c.mod.blt _ (by decide)) (hg _ g2) (c.mod.blt _ (ty_mem t)) (ty_boot t) (ty_plain t).1 (ty_plain t).2 (star1 ns)) (fun _ => rfl)
    · cases h
  | .blt b es, sc, x, X, W, top, k, h, c, tk => by
    unfold chkE at h
    split at h
    · simp only [Bool.and_eq_true, decide_eq_true_eq] at h
      obtain ⟨⟨rfl, g1⟩, ca⟩ := h
      have hg : Gl X (bltNm b) := by
        show X.env.scope.names.lookup _ = _
        rw [c.hsc]
        exact of_decide_eq_true g1
      have hst := (chkA_stars ca).1
      have ha := sndA es sc _ X W top k ca c tk
      unfold noStars at hst
      rw [Bool.and_eq_true] at hst
      rcases bltB_of c.room.units c.calm b with ⟨id, r, hb, hc, hf⟩ | ⟨T, r, hb, hc, hf⟩
      · exact both (je_callB hc hf hg (c.mod.blt _ (blt_mem b)) hb ha (blt_plain b).1 (blt_plain b).2 (star1 hst.1) (back_star hst.2)) (fun _ => rfl)
      · exact both (je_callTy hc hf hg (c.mod.blt _ (blt_mem b)) hb ha (blt_plain b).1 (blt_plain b).2 (star1 hst.1) (back_star hst.2)) (fun _ => rfl)
    · cases h
  | .make jj es, sc, x, X, W, top, k, h, c, tk => by
    unfold chkE at h
    split at h
    · split at h
      · rename_i F eF
        simp only [Bool.and_eq_true, decide_eq_true_eq] at h
        obtain ⟨⟨⟨⟨ey, g1⟩, pl⟩, har⟩, ca⟩ := h
        subst ey
        have hg : Gl X F.name := by
          show X.env.scope.names.lookup _ = _
          rw [c.hsc]
          exact of_decide_eq_true g1
        have hst := (chkA_stars ca).1
        have ha := sndA es sc _ X W top k ca c tk
        unfold noStars at hst
        rw [Bool.and_eq_true] at hst
        obtain ⟨C, f, fd, ps, kk, hk, hl, hM, hF, hm, hb⟩ := c.mod.mks jj F eF
        have q : evalE G (.make jj es) = mkF F.phi (evalA G es) := by
          unfold evalE Gb.phiM
          rw [eF]
        rw [q]
        refine both (src := .any) ?_ (fun _ => rfl)
        exact je_make tk hM hF (c.room.mono hk) hg hm hb ha (fun ρ ds e => by rw [evalA_len e, har, hl]) (plain_of pl).1 (star1 hst.1) (back_star hst.2)
      · cases h
    · cases h
  | .cnt a b, sc, x, X, W, top, k, h, c, tk => by
    unfold chkE at h
    split at h
    · simp only [Bool.and_eq_true, decide_eq_true_eq] at h
      obtain ⟨⟨⟨⟨⟨rfl, h2⟩, h3⟩, h4⟩, h5⟩, h6⟩ := h
      refine both (src := .new) (je_cnt c.room.units (sndE a sc _ X W top k h5 c tk).1 (sndE b sc _ X W top k h6 c tk).1 (nosup_base h2) h4 (by rw [star1 h3]; rfl)) (fun _ => rfl)
    · cases h
  | .sset a, sc, x, X, W, top, k, h, c, tk => by
    unfold chkE at h
    split at h
    · simp only [Bool.and_eq_true, decide_eq_true_eq] at h
      obtain ⟨⟨⟨⟨⟨rfl, rfl⟩, g1⟩, g2⟩, h3⟩, h4⟩ := h
      have hg : ∀ {x : Str}, isGlob sc x = true → Gl X x := fun {x} g => by
        show X.env.scope.names.lookup _ = _
        rw [c.hsc]
        exact of_decide_eq_true g
      exact both (je_sset c.calm (hg g1) (c.mod.blt _ (by decide)) (hg g2) (c.mod.blt _ (by decide)) (sndE a sc _ X W top k h4 c tk).1 (star1 h3)) (fun _ => rfl)
    · cases h
  | .lrng a, sc, x, X, W, top, k, h, c, tk => by
    unfold chkE at h
    split at h
    · simp only [Bool.and_eq_true, decide_eq_true_eq] at h
      obtain ⟨⟨⟨⟨⟨rfl, rfl⟩, g1⟩, g2⟩, h3⟩, h4⟩ := h
      have hg : ∀ {x : Str}, isGlob sc x = true → Gl X x := fun {x} g => by
        show X.env.scope.names.lookup _ = _
        rw [c.hsc]
        exact of_decide_eq_true g
      exact both (je_lrng c.calm (hg g1) (c.mod.blt _ (by decide)) (hg g2) (c.mod.blt _ (by decide)) (sndE a sc _ X W top k h4 c tk).1 (star1 h3)) (fun _ => rfl)
    · cases h
  | .dct0, sc, x, X, W, top, k, h, c, tk => by
    unfold chkE at h
    split at h
    · exact both je_dct0 (fun _ => rfl)
    · cases h
  | .dct1 a b, sc, x, X, W, top, k, h, c, tk => by
    unfold chkE at h
    split at h
    · simp only [Bool.and_eq_true] at h
      exact both (je_dct1 (sndE a sc _ X W top k h.1 c tk).1 (jd_E (sndE b sc _ X W top k h.2 c tk).1)) (fun _ => rfl)
    · cases h
  | .callT jj es, sc, x, X, W, top, k, h, c, tk => by
    unfold chkE at h
    split at h
    · split at h
      · rename_i F eF
        simp only [Bool.and_eq_true, decide_eq_true_eq] at h
        obtain ⟨⟨⟨⟨⟨⟨ey, g1⟩, pl⟩, har⟩, hat⟩, hln⟩, ca⟩ := h
        subst ey
        have hg : Gl X F.name := by
          show X.env.scope.names.lookup _ = _
          rw [c.hsc]
          exact of_decide_eq_true g1
        have hst := (chkA_stars ca).1
        have ha := sndT es sc _ X W top k hln ca c tk
        unfold noStars at hst
        rw [Bool.and_eq_true] at hst
        obtain ⟨f, fd, ps, kk, hk, hl, hF, hm, hkp, hb⟩ := c.mod.ios jj F eF
        have q : evalE G (.callT jj es) = callT F.phi (evalT G es) := by
          unfold evalE Gb.phiI
          rw [eF]
        rw [q]
        have e1 : es.len - 1 = F.at_ := by omega
        rw [e1] at ha
        refine both (src := .any) ?_ (fun _ => rfl)
        exact je_callT tk hF (c.room.mono hk) hg hm hkp hb ha (fun ρ ds e => by rw [evalT_len e, har, hl]) (plain_of pl).1 (star1 hst.1) (back_star hst.2)
      · cases h
    · cases h
  | .call jj es, sc, x, X, W, top, k, h, c, tk => by
    unfold chkE at h
    split at h
    · split at h
      · rename_i F eF
        simp only [Bool.and_eq_true, decide_eq_true_eq] at h
        obtain ⟨⟨⟨⟨ey, g1⟩, pl⟩, har⟩, ca⟩ := h
        subst ey
        have hg : Gl X F.name := by
          show X.env.scope.names.lookup _ = _
          rw [c.hsc]
          exact of_decide_eq_true g1
        have hst := (chkA_stars ca).1
        have ha := sndA es sc _ X W top k ca c tk
        unfold noStars at hst
        rw [Bool.and_eq_true] at hst
        obtain ⟨f, fd, ps, kk, hk, hl, hF, hm, hkp, hb⟩ := c.mod.fns jj F eF
        have q : evalE G (.call jj es) = callF F.phi (evalA G es) := by
          unfold evalE Gb.phi
          rw [eF]
        have qs : E.srcG G (.call jj es) = Src.nw F.nw := by
          simp only [E.srcG]
          rw [eF]
        rw [q, qs]
        refine both (src := Src.nw F.nw) ?_ (fun _ => rfl)
        exact je_call tk hF (c.room.mono hk) hg hm hkp hb ha (fun ρ ds e => by rw [evalA_len e, har, hl]) (plain_of pl).1 (star1 hst.1) (back_star hst.2)
      · cases h
    · cases h
  | .comp elt tg it ifs own, sc, x, X, W, top, k, h, c, tk => by
    unfold chkE at h
    split at h
    · simp only [Bool.and_eq_true] at h
      obtain ⟨⟨⟨⟨⟨⟨hi, hns⟩, hb⟩, hg⟩, hu⟩, hf⟩, he⟩ := h
      refine both (src := .new) ?_ (fun _ => rfl)
      · refine je_comp (us := tg.slots) (mm := isTupX _) c.calm (by rw [c.hN]; exact c.nd) (sndI it sc _ _ X W top k hi c tk) (blkOk_by (by rw [c.hN, c.hsc]; exact hb)) (fun i hi => ?_) (fun s H C cl fp => ?_) (fun s H C cl fp => ?_) (fun s H C cl fp => ?_) (noset_fold hns)
        · exact of_decide_eq_true (List.all_eq_true.mp hu i hi)
        · exact sndG (c.blk s H _ cl C fp) (loc_blk c.hsc s H cl C fp) tg _ hg
        · exact sndF ifs _ _ _ W0 false k hf (c.blk s H _ cl C fp) takes0
        · exact jd_E (sndE elt _ _ _ W0 false k he (c.blk s H _ cl C fp) takes0).1
    · cases h
  | .comp2 elt tg it ifs tg1 it1 ifs1 own, sc, x, X, W, top, k, h, c, tk => by
    unfold chkE at h
    split at h
    · rename_i y t i fs t1 i1 fs1 scope pos
      simp only [Bool.and_eq_true] at h
      obtain ⟨⟨⟨⟨⟨⟨⟨⟨⟨⟨⟨hi, hns⟩, hns1⟩, hb⟩, hg⟩, hu⟩, hf⟩, hi1⟩, hg1⟩, hu1⟩, hf1⟩, he⟩ := h
      refine both (src := .new) ?_ (fun _ => rfl)
      · refine je_comp2 (us := tg.slots) (vs1 := tg1.slots) (mm := isTupX _) (mm1 := isTupX t1) c.calm (by rw [c.hN]; exact c.nd) (sndI it sc _ _ X W top k hi c tk) (blkOk_by (by rw [c.hN, c.hsc]; exact hb)) (fun i hi => ?_) (fun i hi => ?_) (fun s H C cl fp => ?_) (fun s H C cl fp => ?_) (fun s H C cl fp => ?_) (fun s H C cl fp => ?_) (fun s H C cl fp => ?_) (fun s H C cl fp => ?_) (noset_fold hns) (fun _ => noset_fold hns1)
        · exact of_decide_eq_true (List.all_eq_true.mp hu1 i hi)
        · exact of_decide_eq_true (List.all_eq_true.mp hu i hi)
        · exact sndG (c.blk s H _ cl C fp) (loc_blk c.hsc s H cl C fp) tg _ hg
        · exact sndF ifs _ _ _ W0 false k hf (c.blk s H _ cl C fp) takes0
        · exact sndI it1 _ _ _ _ W0 false k hi1 (c.blk s H _ cl C fp) takes0
        · exact sndG (c.blk s H _ cl C fp) (loc_blk c.hsc s H cl C fp) tg1 _ hg1
        · exact sndF ifs1 _ _ _ W0 false k hf1 (c.blk s H _ cl C fp) takes0
        · exact jd_E (sndE elt _ _ _ W0 false k he (c.blk s H _ cl C fp) takes0).1
    · cases h
theorem sndK {G : Gb} {N : List Str} : ∀ (es : Es) (sc : Scope) (ys : List Expr) (X : Cx) (W : WX) (top : Bool) (k : Nat), chkA G N sc es ys = true → Cc X G N sc top k → Takes X W → JAD X G.excs W ys (evalK G es)
  | .nil, sc, ys, X, W, top, k, h, c, tk => by
    unfold chkA at h
    split at h
    · exact jad_nil
    · cases h
  | .cons e es, sc, ys, X, W, top, k, h, c, tk => by
    unfold chkA at h
    split at h
    · simp only [Bool.and_eq_true] at h
      exact jad_cons (jd_E (sndE e sc _ X W top k h.1.2 c tk).1) (sndK es sc _ X W top k h.2 c tk) (star1 h.1.1)
    · cases h
theorem sndZ {G : Gb} {N : List Str} : ∀ (es : Es) (sc : Scope) (ys : List Expr) (X : Cx) (W : WX) (top : Bool) (k : Nat), chkA G N sc es ys = true → Cc X G N sc top k → Takes X W → JAZ X G.excs W ys (evalZ G es)
  | .nil, sc, ys, X, W, top, k, h, c, tk => by
    unfold chkA at h
    split at h
    · exact jaz_nil
    · cases h
  | .cons e es, sc, ys, X, W, top, k, h, c, tk => by
    unfold chkA at h
    split at h
    · simp only [Bool.and_eq_true] at h
      exact jaz_cons (jz_E (sndE e sc _ X W top k h.1.2 c tk).1) (sndZ es sc _ X W top k h.2 c tk) (star1 h.1.1)
    · cases h
theorem sndA {G : Gb} {N : List Str} : ∀ (es : Es) (sc : Scope) (ys : List Expr) (X : Cx) (W : WX) (top : Bool) (k : Nat), chkA G N sc es ys = true → Cc X G N sc top k → Takes X W → JA X G.excs W ys (evalA G es)
  | .nil, sc, ys, X, W, top, k, h, c, tk => by
    unfold chkA at h
    split at h
    · exact ja_nil
    · cases h
  | .cons e es, sc, ys, X, W, top, k, h, c, tk => by
    unfold chkA at h
    split at h
    · simp only [Bool.and_eq_true] at h
      exact ja_cons (sndE e sc _ X W top k h.1.2 c tk).1 (sndA es sc _ X W top k h.2 c tk) (star1 h.1.1)
    · cases h
theorem sndT {G : Gb} {N : List Str} : ∀ (es : Es) (sc : Scope) (ys : List Expr) (X : Cx) (W : WX) (top : Bool) (k : Nat), lastNew es = true → chkA G N sc es ys = true → Cc X G N sc top k → Takes X W → JAT (es.len - 1) X G.excs W ys (evalT G es)
  | .nil, sc, ys, X, W, top, k, hn, h, c, tk => by cases hn
  | .cons e .nil, sc, ys, X, W, top, k, hn, h, c, tk => by
    unfold chkA at h
    split at h
    · rename_i y r
      simp only [Bool.and_eq_true] at h
      have hr := h.2
      unfold chkA at hr
      split at hr
      · have he := (sndE e sc y X W top k h.1.2 c tk).1
        have hsrc : e.srcG G = .new := by
          unfold lastNew at hn
          cases e <;> first | rfl | cases hn
        rw [hsrc] at he
        exact jat_last he (star1 h.1.1)
      · cases hr
    · cases h
  | .cons e (.cons f es), sc, ys, X, W, top, k, hn, h, c, tk => by
    unfold chkA at h
    split at h
    · simp only [Bool.and_eq_true] at h
      exact jat_cons (jd_E (sndE e sc _ X W top k h.1.2 c tk).1) (sndT (.cons f es) sc _ X W top k hn h.2 c tk) (star1 h.1.1)
    · cases h
theorem sndAnd {G : Gb} {N : List Str} : ∀ (es : Es) (sc : Scope) (y : Expr) (ys : List Expr) (pos : Pos) (X : Cx) (W : WX) (top : Bool) (k : Nat), chkA G N sc es (y :: ys) = true → Cc X G N sc top k → Takes X W → JD X G.excs W (.BoolOp .And (y :: ys) pos) (evalAnd G es) ∧ JW X G.excs W (.BoolOp .And (y :: ys) pos) (tstB (evalAnd G es))
  | .nil, sc, y, ys, pos, X, W, top, k, h, c, tk => by
    unfold chkA at h
    cases h
  | .cons e .nil, sc, y, ys, pos, X, W, top, k, h, c, tk => by
    unfold chkA at h
    simp only [Bool.and_eq_true] at h
    have h3 := h.2
    unfold chkA at h3
    split at h3
    · have he := sndE e sc _ X W top k h.1.2 c tk
      exact ⟨jd_one (jd_E he.1), jw_weak (jw_and1 he.2) (tst_weak fun ρ r z => keep_weak (fun i e => src_slot e) z)⟩
    · cases h3
  | .cons e (.cons f es), sc, y, ys, pos, X, W, top, k, h, c, tk => by
    unfold chkA at h
    simp only [Bool.and_eq_true] at h
    have he := sndE e sc _ X W top k h.1.2 c tk
    have h3 := h.2
    cases ys with
    | nil => unfold chkA at h3; cases h3
    | cons y2 ys =>
      obtain ⟨h4, h5⟩ := sndAnd (.cons f es) sc y2 ys pos X W top k h3 c tk
      refine ⟨jd_andT (jd_E he.1) h4, ?_⟩
      show JW X G.excs W _ (tstB (andT (keep e.src (evalE G e)) (evalAnd G (.cons f es))))
      rw [tst_and]
      exact jw_and (jt_weak he.2 (tst_weak fun ρ r z => keep_weak (fun i e => src_slot e) z)) h5
theorem sndOr {G : Gb} {N : List Str} : ∀ (es : Es) (sc : Scope) (y : Expr) (ys : List Expr) (pos : Pos) (X : Cx) (W : WX) (top : Bool) (k : Nat), chkA G N sc es (y :: ys) = true → Cc X G N sc top k → Takes X W → JD X G.excs W (.BoolOp .Or (y :: ys) pos) (evalOr G es) ∧ JW X G.excs W (.BoolOp .Or (y :: ys) pos) (tstB (evalOr G es))
  | .nil, sc, y, ys, pos, X, W, top, k, h, c, tk => by
    unfold chkA at h
    cases h
  | .cons e .nil, sc, y, ys, pos, X, W, top, k, h, c, tk => by
    unfold chkA at h
    simp only [Bool.and_eq_true] at h
    have h3 := h.2
    unfold chkA at h3
    split at h3
    · have he := sndE e sc _ X W top k h.1.2 c tk
      exact ⟨jd_one (jd_E he.1), jw_weak (jw_or1 he.2) (tst_weak fun ρ r z => keep_weak (fun i e => src_slot e) z)⟩
    · cases h3
  | .cons e (.cons f es), sc, y, ys, pos, X, W, top, k, h, c, tk => by
    unfold chkA at h
    simp only [Bool.and_eq_true] at h
    have he := sndE e sc _ X W top k h.1.2 c tk
    have h3 := h.2
    cases ys with
    | nil => unfold chkA at h3; cases h3
    | cons y2 ys =>
      obtain ⟨h4, h5⟩ := sndOr (.cons f es) sc y2 ys pos X W top k h3 c tk
      refine ⟨jd_orT (jd_E he.1) h4, ?_⟩
      show JW X G.excs W _ (tstB (orT (keep e.src (evalE G e)) (evalOr G (.cons f es))))
      rw [tst_or]
      exact jw_or (jt_weak he.2 (tst_weak fun ρ r z => keep_weak (fun i e => src_slot e) z)) h5
theorem sndO {G : Gb} {N : List Str} : ∀ (o : Oe) (sc : Scope) (y : Option Expr) (X : Cx) (W : WX) (top : Bool) (k : Nat), chkO G N sc o y = true → Cc X G N sc top k → Takes X W → JO X G.excs W y (evalO G o)
  | .no, sc, y, X, W, top, k, h, c, tk => by
    unfold chkO at h
    split at h
    · exact jo_none
    · cases h
  | .yes e, sc, y, X, W, top, k, h, c, tk => by
    unfold chkO at h
    split at h
    · exact jo_some (sndE e sc _ X W top k h c tk).1
    · cases h
theorem sndF {G : Gb} {N : List Str} : ∀ (o : Oe) (sc : Scope) (ys : List Expr) (X : Cx) (W : WX) (top : Bool) (k : Nat), chkF G N sc o ys = true → Cc X G N sc top k → Takes X W → PTs X ys (TauB X.K X.mg G.excs W (evalF G o))
  | .no, sc, y, X, W, top, k, h, c, tk => by
    unfold chkF at h
    split at h
    · refine ⟨fun pins s σ H Q I q => pts_nil.run pins s σ H Q I ?_⟩
      obtain ⟨en, ρ, H0, rr, p⟩ := q
      exact p H0 H (Ext.refl rr.sub)
    · cases h
  | .yes e, sc, y, X, W, top, k, h, c, tk => by
    unfold chkF at h
    split at h
    · exact pts_one (sndE e sc _ X W top k h c tk).2
    · cases h
theorem sndI {G : Gb} {N : List Str} : ∀ (i : Itb) (sc : Scope) (tg y : Expr) (X : Cx) (W : WX) (top : Bool) (k : Nat), chkI G N sc i tg y = true → Cc X G N sc top k → Takes X W → JI (isTupX tg) X G.excs W tg y (evalI G i)
  | .seq e, sc, tg, y, X, W, top, k, h, c, tk => by
    unfold chkI at h
    show JI (isTupX tg) X G.excs W tg y (seqI e.src (evalE G e))
    rw [← seqI_srcG]
    exact ji_seq (sndE e sc _ X W top k h c tk).1 fun i q => src_slot (srcG_slot q)
  | .zip es, sc, tg, y, X, W, top, k, h, c, tk => by
    unfold chkI at h
    split at h
    · rename_i f p z zs pos
      simp only [Bool.and_eq_true, decide_eq_true_eq, Bool.or_eq_true] at h
      obtain ⟨⟨⟨⟨ht, rfl⟩, g1⟩, ca⟩, hl⟩ := h
      have hg : Gl X "zip" := by
        show X.env.scope.names.lookup _ = _
        rw [c.hsc]
        exact of_decide_eq_true g1
      have ha := sndZ es sc _ X W top k ca c tk
      obtain ⟨hst, hlen⟩ := chkA_stars ca
      unfold noStars at hst
      rw [Bool.and_eq_true] at hst
      rw [ht]
      unfold isTupX at ht
      split at ht
      · rcases hl with hl | hl
        · rw [hl] at hlen
          match zs, hlen, ha, hst with
          | [z2], _, ha, hst => exact ji_zip2 hg (c.mod.blt _ (by decide)) ha (star1 hst.1) (back_star hst.2) (fun ρ ds e => by rw [evalZ_len e, hl])
        · rw [hl] at hlen
          match zs, hlen, ha, hst with
          | [z2, z3], _, ha, hst => exact ji_zip3 hg (c.mod.blt _ (by decide)) ha (star1 hst.1) (back_star hst.2) (fun ρ ds e => by rw [evalZ_len e, hl])
      · cases ht
    · cases h
  | .enm es, sc, tg, y, X, W, top, k, h, c, tk => by
    unfold chkI at h
    split at h
    · rename_i f p z zs pos
      simp only [Bool.and_eq_true, decide_eq_true_eq] at h
      obtain ⟨⟨⟨⟨ht, rfl⟩, g1⟩, ca⟩, hl⟩ := h
      have hg : Gl X "enumerate" := by
        show X.env.scope.names.lookup _ = _
        rw [c.hsc]
        exact of_decide_eq_true g1
      have ha := sndZ es sc _ X W top k ca c tk
      obtain ⟨hst, hlen⟩ := chkA_stars ca
      unfold noStars at hst
      rw [Bool.and_eq_true] at hst
      rw [ht]
      unfold isTupX at ht
      split at ht
      · rw [hl] at hlen
        match zs, hlen, ha, hst with
        | [], _, ha, hst => exact ji_enum hg (c.mod.blt _ (by decide)) ha (star1 hst.1) (fun ρ ds e => by rw [evalZ_len e, hl])
      · cases ht
    · cases h
  | .rng es, sc, tg, y, X, W, top, k, h, c, tk => by
    unfold chkI at h
    split at h
    · rename_i f p z zs pos
      simp only [Bool.and_eq_true, decide_eq_true_eq, Bool.or_eq_true] at h
      obtain ⟨⟨⟨rfl, g1⟩, ca⟩, hl⟩ := h
      have hg : Gl X "range" := by
        show X.env.scope.names.lookup _ = _
        rw [c.hsc]
        exact of_decide_eq_true g1
      have ha := sndA es sc _ X W top k ca c tk
      obtain ⟨hst, hlen⟩ := chkA_stars ca
      unfold noStars at hst
      rw [Bool.and_eq_true] at hst
      rcases hl with hl | hl
      · rw [hl] at hlen
        cases zs with
        | nil => exact ji_rng1 hg (c.mod.blt _ (by decide)) ha (star1 hst.1) (fun ρ ds e => by rw [evalA_len e, hl])
        | cons _ _ => simp at hlen
      · rw [hl] at hlen
        cases zs with
        | nil => simp at hlen
        | cons z2 zs =>
          cases zs with
          | nil =>
            have hs2 := hst.2
            unfold noStars at hs2
            rw [Bool.and_eq_true] at hs2
            exact ji_rng2 hg (c.mod.blt _ (by decide)) ha (by rw [star1 hst.1, star1 hs2.1]; rfl) (star1 hs2.1) (fun ρ ds e => by rw [evalA_len e, hl])
          | cons _ _ => simp at hlen
    · cases h
theorem sndC {G : Gb} {N : List Str} : ∀ (ch : Ch) (sc : Scope) (ps : List CmpOp) (rs : List Expr) (X : Cx) (W : WX) (top : Bool) (k : Nat), chkC G N sc ch ps rs = true → Cc X G N sc top k → Takes X W → JC X G.excs W ps rs (evalC G ch)
  | .last o b, sc, ps, rs, X, W, top, k, h, c, tk => by
    unfold chkC at h
    split at h
    · simp only [Bool.and_eq_true] at h
      obtain ⟨r, ho, hf⟩ := cmpR_of (X := X) c.room h.1.1
      exact jc_last ho hf (sndE b sc _ X W top k h.2 c tk).1
    · cases h
  | .link o b ch, sc, ps, rs, X, W, top, k, h, c, tk => by
    unfold chkC at h
    split at h
    · simp only [Bool.and_eq_true] at h
      obtain ⟨r, ho, hf⟩ := cmpR_of (X := X) c.room h.1.1
      exact jc_link ho hf (sndE b sc _ X W top k h.1.2 c tk).1 (sndC ch sc _ _ X W top k h.2 c tk)
    · cases h
end
end
end DD

namespace DD
noncomputable section
open PySem PySem.Spec PyProof.Rows L2

/-! ### the look at an except suite -/
def chkH (G : Gb) (N : List Str) (sc : Scope) (i : Nat) : HE → Expr → Bool
  | .str x, e => (match e with
    | .Constant (.str y) _ _ => decide (x = y)
    | _ => false)
  | .isx c, e => (match e with
    | .Call (.Name f _) [.Name n _, .Name y _] [] _ => decide (f = "isinstance") && isGlob sc f && decide (N[i]? = some n) && visB sc n && plainNm n && decide (G.excs[c]? = some y) && isGlob sc y && plainNm y
    | _ => false)
  | .var j, e => (match e with
    | .Name y _ => decide (N[j]? = some y) && visB sc y && plainNm y
    | _ => false)
  | .not h, e => (match e with
    | .UnaryOp .Not x _ => chkH G N sc i h x
    | _ => false)
  | .and a b, e => (match e with
    | .BoolOp .And [x, y] _ => chkH G N sc i a x && chkH G N sc i b y
    | _ => false)
  | .or3 a b c, e => (match e with
    | .BoolOp .Or [x, y, z] _ => chkH G N sc i a x && chkH G N sc i b y && chkH G N sc i c z
    | _ => false)
  | .ifE c a b, e => (match e with
    | .IfExp x y z _ => chkH G N sc i c x && chkH G N sc i a y && chkH G N sc i b z
    | _ => false)
def chkHS (G : Gb) (N : List Str) (sc : Scope) (i : Nat) : HS → List Stmt → Bool
  | .ret h, st => (match st with
    | [.Return (some e) _] => chkH G N sc i h e
    | _ => false)
  | .set j h r, st => (match st with
    | .Assign [.Name y _] e _ :: q :: rest => decide (N[j]? = some y) && locB true sc y && decide (j ≠ i) && noComp' e && chkH G N sc i h e && chkHS G N sc i r (q :: rest)
    | _ => false)
where noComp' : Expr → Bool
  | .BoolOp _ _ _ => true
  | .Call _ _ _ _ => true
  | _ => false
theorem hsw (e : Expr) (h4 : chkHS.noComp' e = true) (l : Nat) (t : Option Expr) (env : Env) : swapsWith e t l env = pure false := by
  cases e <;> first | rfl | (simp [chkHS.noComp'] at h4)
section
variable {X : Cx} {G : Gb} {N : List Str} {sc : Scope} {k : Nat} {a C : Addr} {oe : Obj} {pn : List (Addr × Obj)} {c i : Nat} {x : Str}
theorem kh_isx (cc : Cc X G N sc true k) (hx : G.excs[c]? = some x) (hm : X.mg x = some (.ref C)) (hz : Zc (.ref C) none oe) (hf : ∃ vs, oe.data = .fields vs) {P : L2.St → Prop} (hp : ∀ σ, P σ → σ[i]? = some (some (.ref a))) {d : Nat} {e : Expr} (h : chkH G N sc i (.isx d) e = true) :
    KH (X.suite a ((a, oe) :: pn)) P e (.bl (G.sub c d)) := by
  unfold chkH at h
  split at h
  · simp only [Bool.and_eq_true, decide_eq_true_eq] at h
    obtain ⟨⟨⟨⟨⟨⟨⟨rfl, g1⟩, h2⟩, h3⟩, h4⟩, h5⟩, g2⟩, h6⟩ := h
    rename_i y _ _
    obtain ⟨d1, d2, _⟩ := plain_of h4
    obtain ⟨D, hD⟩ := cc.mod.xg d y h5
    have hk := (cc.mod.xx c d x y C D hx h5 hm hD).2
    have gl : ∀ z, isGlob sc z = true → Gl (X.suite a ((a, oe) :: pn)) z := fun z hz => by
      show X.env.scope.names.lookup z = _
      rw [cc.hsc]
      exact of_decide_eq_true hz
    refine kh_plain (pe_of (pe_callB (call_isE (X := X) (a := a) (D := C) (oe := oe) (pn := pn) (cc.mod.xc c x C hx hm) hz hf) (gl _ g1) (cc.mod.blt _ (by decide)) (by decide +kernel) (pa_cons (pe_var (i := i) (by show X.N[i]? = _; rw [cc.hN]; exact h2) (by show Vis X.env.scope _; rw [cc.hsc]; exact vis_of h3) d1 d2) (pa_cons (pe_glob (v := .ref D) (gl _ g2) hD rfl (plain_of h6).1) pa_nil rfl) rfl) (by decide) (by decide) rfl rfl) fun σ H Q q => ?_) (fun _ => rfl)
    exact ⟨.ref a, hp σ q.1, .ref D, .ref D, G.sub c d, rfl, fun u hu => hu, hk, q.2⟩
  · cases h
theorem sndH (cc : Cc X G N sc true k) (hx : G.excs[c]? = some x) (hm : X.mg x = some (.ref C)) (hz : Zc (.ref C) none oe) (hf : ∃ vs, oe.data = .fields vs) {P : L2.St → Prop} {env : Nat → Option V} (hp : ∀ σ, P σ → σ[i]? = some (some (.ref a))) (he : ∀ σ j v, P σ → env j = some v → σ[j]? = some (some v)) :
    ∀ (h : HE) (e : Expr) (v : V), chkH G N sc i h e = true → hv G.sub c env h = some v → PE (X.suite a ((a, oe) :: pn)) e (tH P v) ∧ ((∃ b, v = .bl b) → KH (X.suite a ((a, oe) :: pn)) P e v)
  | .str z, e, v, h, hvv => by
    unfold chkH at h
    split at h
    · have ez := of_decide_eq_true h
      subst ez
      cases hvv
      exact ⟨kh_str.pe, fun _ => kh_str⟩
    · cases h
  | .isx d, e, v, h, hvv => by
    cases hvv
    have q := kh_isx cc hx hm hz hf (pn := pn) hp h
    exact ⟨q.pe, fun _ => q⟩
  | .var j, e, v, h, hvv => by
    unfold chkH at h
    split at h
    · simp only [Bool.and_eq_true, decide_eq_true_eq] at h
      obtain ⟨d1, d2, _⟩ := plain_of h.2
      have q := fun ps : Pos => kh_var (X := X.suite a ((a, oe) :: pn)) (P := P) (pos := ps) (i := j) (by show X.N[j]? = _; rw [cc.hN]; exact h.1.1) (by show Vis X.env.scope _; rw [cc.hsc]; exact vis_of h.1.2) d1 d2 (fun σ hs => he σ j v hs hvv)
      exact ⟨(q _).pe, fun _ => q _⟩
    · cases h
  | .not h1, e, v, h, hvv => by
    unfold chkH at h
    split at h
    · simp only [hv] at hvv
      split at hvv
      · rename_i b eb
        cases hvv
        have q := (sndH cc hx hm hz hf hp he h1 _ _ h eb).2 ⟨b, rfl⟩
        exact ⟨(kh_not q).pe, fun _ => kh_not q⟩
      · cases hvv
    · cases h
  | .and h1 h2, e, v, h, hvv => by
    unfold chkH at h
    split at h
    · simp only [Bool.and_eq_true] at h
      simp only [hv] at hvv
      split at hvv
      · rename_i ea
        have q1 := (sndH cc hx hm hz hf hp he h1 _ _ h.1 ea).2 ⟨_, rfl⟩
        split at hvv
        · rename_i b eb
          cases hvv
          have q2 := (sndH cc hx hm hz hf hp he h2 _ _ h.2 eb).2 ⟨_, rfl⟩
          exact ⟨(kh_andT q1 q2).pe, fun _ => kh_andT q1 q2⟩
        · cases hvv
      · rename_i ea
        cases hvv
        have q1 := (sndH cc hx hm hz hf hp he h1 _ _ h.1 ea).2 ⟨_, rfl⟩
        exact ⟨(kh_andF q1).pe, fun _ => kh_andF q1⟩
      · cases hvv
    · cases h
  | .or3 h1 h2 h3, e, v, h, hvv => by
    unfold chkH at h
    split at h
    · rename_i x' y' z' pp
      simp only [Bool.and_eq_true] at h
      simp only [hv] at hvv
      split at hvv
      · rename_i ea
        cases hvv
        have q1 := (sndH cc hx hm hz hf hp he h1 _ _ h.1.1 ea).2 ⟨_, rfl⟩
        have q := (kh_or (b := y') (rest := [z']) (pos := pp) (j := true) q1 (fun e => nomatch e) (fun e => nomatch e) (fun _ => rfl)).1
        exact ⟨q.pe, fun _ => q⟩
      · rename_i ea
        have q1 := (sndH cc hx hm hz hf hp he h1 _ _ h.1.1 ea).2 ⟨_, rfl⟩
        split at hvv
        · rename_i eb
          cases hvv
          have q2 := (sndH cc hx hm hz hf hp he h2 _ _ h.1.2 eb).2 ⟨_, rfl⟩
          have q3 := kh_or (b := z') (rest := []) (pos := pp) (j := true) q2 (fun e => nomatch e) (fun e => nomatch e) (fun _ => rfl)
          have q := (kh_or q1 (fun _ => q3.1) (fun _ => q3.2) (fun e => nomatch e)).1
          exact ⟨q.pe, fun _ => q⟩
        · rename_i eb
          have q2 := (sndH cc hx hm hz hf hp he h2 _ _ h.1.2 eb).2 ⟨_, rfl⟩
          split at hvv
          · rename_i k3 ec
            cases hvv
            have q3 := (sndH cc hx hm hz hf hp he h3 _ _ h.2 ec).2 ⟨_, rfl⟩
            have q4 := kh_one (pos := pp) q3
            have q5 := kh_or q2 (fun _ => q4.1) (fun _ => q4.2) (fun e => nomatch e)
            have q := (kh_or q1 (fun _ => q5.1) (fun _ => q5.2) (fun e => nomatch e)).1
            exact ⟨q.pe, fun _ => q⟩
          · cases hvv
        · cases hvv
      · cases hvv
    · cases h
  | .ifE hc h1 h2, e, v, h, hvv => by
    unfold chkH at h
    split at h
    · simp only [Bool.and_eq_true] at h
      simp only [hv] at hvv
      split at hvv
      · rename_i ea
        have qc := (sndH cc hx hm hz hf hp he hc _ _ h.1.1 ea).2 ⟨_, rfl⟩
        obtain ⟨q1, q2⟩ := sndH cc hx hm hz hf hp he h1 _ _ h.1.2 hvv
        refine ⟨kh_ifT qc q1, fun hb => ⟨kh_ifT qc q1, fun b eb => ?_⟩⟩
        have k1 := q2 hb
        refine ⟨fun pins s σ H Q I z => ?_⟩
        show wpAny _ _ (do if ← isTrue _ _ (eval _ _) then isTrue _ _ (eval _ _) else isTrue _ _ (eval _ _)) _ _ _
        refine wpAny_bind (thn ((qc.pt true rfl).run pins s σ H (fun kk H1 => kk = true ∧ H1 = H) I ⟨z.1, rfl, rfl⟩) fun kk s1 ⟨H1, I1, e1, e2⟩ => ?_)
        subst e1 e2
        exact (k1.pt b eb).run pins s1 σ H1 Q I1 z
      · rename_i ea
        have qc := (sndH cc hx hm hz hf hp he hc _ _ h.1.1 ea).2 ⟨_, rfl⟩
        obtain ⟨q1, q2⟩ := sndH cc hx hm hz hf hp he h2 _ _ h.2 hvv
        refine ⟨kh_ifF qc q1, fun hb => ⟨kh_ifF qc q1, fun b eb => ?_⟩⟩
        have k1 := q2 hb
        refine ⟨fun pins s σ H Q I z => ?_⟩
        show wpAny _ _ (do if ← isTrue _ _ (eval _ _) then isTrue _ _ (eval _ _) else isTrue _ _ (eval _ _)) _ _ _
        refine wpAny_bind (thn ((qc.pt false rfl).run pins s σ H (fun kk H1 => kk = false ∧ H1 = H) I ⟨z.1, rfl, rfl⟩) fun kk s1 ⟨H1, I1, e1, e2⟩ => ?_)
        subst e1 e2
        exact (k1.pt b eb).run pins s1 σ H1 Q I1 z
      · cases hvv
    · cases h
/-- a whole suite, from the slots σ0 on -/
theorem sndHS (cc : Cc X G N sc true k) (hx : G.excs[c]? = some x) (hm : X.mg x = some (.ref C)) (hz : Zc (.ref C) none oe) (hf : ∃ vs, oe.data = .fields vs) :
    ∀ (h : HS) (st : List Stmt) (v : V) (env : Nat → Option V) (σ0 : L2.St), σ0.length = X.N.length → σ0[i]? = some (some (.ref a)) → (∀ j v, env j = some v → σ0[j]? = some (some v)) → chkHS G N sc i h st = true → hsv G.sub c env h = some v →
      PSs (X.suite a ((a, oe) :: pn)) st (fun Dn σ H => σ = σ0 ∧ Dn.rt v H)
  | .ret h, st, v, env, σ0, hl, hi, he, hc, hvv => by
    unfold chkHS at hc
    split at hc
    · have q := (sndH (P := fun σ => σ = σ0) cc hx hm hz hf (pn := pn) (fun σ e => by rw [e]; exact hi) (fun σ j v e z => by rw [e]; exact he j v z) h _ v hc hvv).1
      exact pss_of (pss_one (ps_ret q)) fun Dn σ H z => ⟨z.1, z.2⟩
    · cases hc
  | .set j h r, st, v, env, σ0, hl, hi, he, hc, hvv => by
    unfold chkHS at hc
    split at hc
    · simp only [Bool.and_eq_true, decide_eq_true_eq] at hc
      obtain ⟨⟨⟨⟨⟨h1, h2⟩, h3⟩, h4⟩, h5⟩, h6⟩ := hc
      simp only [hsv] at hvv
      split at hvv
      · rename_i b eb
        obtain ⟨l1, l2⟩ := loc_of cc h2
        have q := (sndH (P := fun σ => σ = σ0) cc hx hm hz hf (pn := pn) (fun σ e => by rw [e]; exact hi) (fun σ j v e z => by rw [e]; exact he j v z) h _ _ h5 eb).1
        have hjl : j < σ0.length := by
          rw [hl, cc.hN]
          by_cases hj : j < N.length
          · exact hj
          · rw [List.getElem?_eq_none (by omega)] at h1
            cases h1
        have q2 := sndHS cc hx hm hz hf r _ v _ (σ0.set j (some (.bl b))) (by rw [List.length_set]; exact hl) (by rw [get_set, if_neg h3]; exact hi) (fun k' v' z => by
          rw [get_set]
          split at z
          · rename_i ek
            cases z
            rw [if_pos ek.symm, if_pos hjl]
          · rename_i ek
            rw [if_neg (fun e => ek e.symm)]
            exact he k' v' z) h6 hvv
        refine pss_of (pss_cons (ps_set (X := X.suite a ((a, oe) :: pn)) (i := j) (by show X.N.Nodup; rw [cc.hN]; exact cc.nd) (by show X.N[j]? = _; rw [cc.hN]; exact h1) l1 q (hsw _ h4 _ _ _) l2) q2) fun Dn σ H z => ?_
        obtain ⟨e1, e2⟩ := z
        subst e1
        exact ⟨rfl, rfl, e2⟩
      · cases hvv
    · cases hc
end
end
end DD

namespace DD
noncomputable section
open PySem PySem.Spec PyProof.Rows L2

mutual
inductive S where
  | dat (i : Nat) (e : E)
  | own (i : Nat) (e : E)
  | tgt (t : Tg) (e : E)
  | aug (i : Nat) (o : O2) (e : E)
  | app (i : Nat) (e : E)
  | expr (e : E)
  | ret (e : E)
  | retN
  | pass
  | ifS (c : E) (a b : Ss)
  | forS (t : Tg) (it : Itb) (body : Ss)
  | whl (c : E) (body : Ss)
  | raise (c : Nat)
  | freeze (i : Nat)
  | put (i : Nat) (ix e : E)
  | augp (i : Nat) (ix : E) (o : O2) (e : E)
  | tryS (n : Nat) (body : Ss) (hs : List (Nat × Nat × HS))
  | pop (i j : Nat) (front : Bool)
  | ext (i : Nat) (e : E)
  | dput (i : Nat) (ix e : E)
  | par (b1 : Bool) (i : Nat) (e1 : E) (b2 : Bool) (j : Nat) (e2 : E)
  | io (f : Nat) (es : Es) (i : Nat)
  | ioA (f : Nat) (es : Es) (i t : Nat) (o : O2)
inductive Ss where
  | nil
  | cons (s : S) (r : Ss)
  | rest
end
/-- name op= e: ints alone -/
def augI (o : O2) : D → D → Option D
  | .int i, .int j => sem2 o (.int i) (.int j)
  | _, _ => none
def retS (nw : Mo) (e : E) (m : Rho → Option Res) : Rho → Option Out := match nw.io with
  | some k => thenS (keep e.src m) (retIO k)
  | none => (match e with
    | .var i => fun ρ => retV ρ i nw.nw
    | _ => thenS m (fun _ d => some (.ret d)))
def retNS (nw : Mo) : Rho → Option Out := match nw.io with
  | some k => fun ρ => retIO k ρ .none
  | none => fun _ => some (.ret .none)
def keepX (b : Bool) (e : E) (m : Rho → Option Res) : Rho → Option Res := match b with
  | true => m
  | false => keep e.src m
def Gb.atI (G : Gb) (f : Nat) : Option Nat := match G.ios[f]? with
  | some F => some F.at_
  | none => none
def catchV (sub : Sub) (c : Nat) : List (Nat × Nat × HS) → Option Out
  | [] => some (.exc c none)
  | (d, _, h) :: r => if sub c d = true then (match hsv sub c (fun _ => none) h with
    | some (.str s) => some (.ret (.str s))
    | _ => none) else catchV sub c r
def tryV (sub : Sub) (n : Nat) (m : Rho → Option Out) (hs : List (Nat × Nat × HS)) : Rho → Option Out := fun ρ => if ρ.length = n then (match m ρ with
  | some (.exc c none) => catchV sub c hs
  | some (.exc _ (some _)) => none
  | r => r) else none
mutual
def execS (G : Gb) (fuel : Nat) (nw : Mo) : S → Rho → Option Out
  | .dat i e => thenS (keep e.src (evalE G e)) (datK i)
  | .own i e => thenS (evalE G e) (ownK i)
  | .tgt t e => thenS (keep e.src (evalE G e)) (tgK t.bind)
  | .aug i o e => seqS (fun ρ => match ρ[i]? with | some (some _) => some (.next ρ) | _ => none) (thenS (evalE G e) (augK (augI o) i))
  | .app i e => seqS (fun ρ => match mutL ρ i with | some _ => some (.next ρ) | none => none) (thenS (keep e.src (evalE G e)) (appK i))
  | .expr e => thenS (evalE G e) (fun ρ _ => some (.next ρ))
  | .ret e => retS nw e (evalE G e)
  | .retN => retNS nw
  | .pass => fun ρ => some (.next ρ)
  | .ifS c a b => ifS (tstB (evalE G c)) (execSs G fuel nw a) (execSs G fuel nw b)
  | .forS t it body => forS (evalI G it) t.bind (execSs G fuel nw body)
  | .whl c body => whlL (tstB (evalE G c)) (execSs G fuel nw body) fuel
  | .raise c => fun _ => some (.exc c none)
  | .freeze i => freezeS i
  | .put i ix e => putS i (evalE G ix) (keep e.src (evalE G e))
  | .augp i ix o e => augPS i (evalE G ix) (evalE G e) (augI o)
  | .tryS n body hs => tryV G.sub n (execSs G fuel nw body) hs
  | .pop i j front => popK i j front
  | .ext i e => seqS (fun ρ => match mutL ρ i with | some _ => some (.next ρ) | none => none) (thenS (evalE G e) (extK i))
  | .dput i ix e => dputS i (evalE G ix) (keep e.src (evalE G e))
  | .par b1 i e1 b2 j e2 => parK b1 i (keepX b1 e1 (evalE G e1)) b2 j (keepX b2 e2 (evalE G e2))
  | .io f es i => ioV (G.phiI f) (evalX G (G.atI f) es) i nxK
  | .ioA f es i t o => seqS (fun ρ => match ρ[t]? with | some (some (.dat, _)) => some (.next ρ) | _ => none) (ioV (G.phiI f) (evalX G (G.atI f) es) i (augK (augI o) t))
def execSs (G : Gb) (fuel : Nat) (nw : Mo) : Ss → Rho → Option Out
  | .nil => fun ρ => some (.next ρ)
  | .cons s r => seqS (execS G fuel nw s) (execSs G fuel nw r)
  | .rest => fun _ => none
end
/-- whether a comprehension is stored within its own frame -/
def swp (sc : Scope) (y : Str) (py : Pos) : Expr → Bool
  | .ListComp _ _ scope cpos => decide (sc.names.lookup y = some .local) && (py.line == cpos.line) && !(scope.names.any fun (n, k) => n == y && (k == .local || k == .cell))
  | _ => false
def noComp : Expr → Bool
  | .ListComp _ _ _ _ => false
  | .SetComp _ _ _ _ => false
  | .DictComp _ _ _ _ _ => false
  | _ => true
def isNew (G : Gb) (e : E) : Bool := match e.srcG G with
  | .new => true
  | _ => false
def okRet (G : Gb) (nw : Mo) (e : E) : Bool := match nw.io with
  | some _ => true
  | none => (match e with
    | .var _ => true
    | e => !nw.nw || isNew G e)
/-- a tuple is no written pair or triple of names' values: such a store goes another way -/
def noSwap : Expr → Expr → Bool
  | .Tuple ts _ _, .Tuple vs _ _ => decide (4 ≤ ts.length) || vs.all (foldedForSure 8)
  | _, _ => true
theorem noSwap_sw {ts : List Expr} {kt : Nat} {pt : Pos} {x : Expr} {env : Env} (h : noSwap (.Tuple ts kt pt) x = true) : swappedStores [.Tuple ts kt pt] x env = pure none := by
  cases x with
  | Tuple vs k2 pt2 =>
    simp only [noSwap, Bool.or_eq_true, decide_eq_true_eq] at h
    unfold swappedStores
    dsimp only
    rcases h with h | h
    · have e : (!(ts.length == 2 || ts.length == 3)) = true := by
        rw [Bool.not_eq_true', Bool.or_eq_false_iff]
        exact ⟨beq_eq_false_iff_ne.mpr (by omega), beq_eq_false_iff_ne.mpr (by omega)⟩
      rw [e]
      rfl
    · split
      · rfl
      · split
        · rfl
        · split
          · rfl
          · first | rfl | (rw [h]; rfl)
  | _ => rfl
/-- the argument at a place is this name -/
def isVarAt : Es → Nat → Nat → Bool
  | .cons (.var j) _, 0, i => decide (j = i)
  | .cons _ es, k + 1, i => isVarAt es k i
  | _, _, _ => false
def ixPl : Expr → Bool
  | .Name _ _ => true
  | .BinOp _ _ _ _ => true
  | .Subscript _ _ _ => true
  | .Constant _ _ _ => true
  | .UnaryOp _ _ _ => true
  | _ => false
def chkHds (G : Gb) (N : List Str) (sc : Scope) : List (Nat × Nat × HS) → List ExceptHandler → Bool
  | [], [] => true
  | (d, i, h) :: r, .ExceptHandler (some (.Name x _)) (some n) (b :: su) _ :: hds => decide (G.excs[d]? = some x) && isGlob sc x && plainNm x && decide (N[i]? = some n) && decide (sc.names.lookup n = some .local) && chkHS G N sc i h (b :: su) && chkHds G N sc r hds
  | _, _ => false
mutual
def chkS (G : Gb) (N : List Str) (sc : Scope) (nw : Mo) : S → Stmt → Bool
  | .dat i e, st => (match st with
    | .Assign [.Name y py] x _ => decide (N[i]? = some y) && locB true sc y && chkE G N sc e x && (noComp x || (match x with | .ListComp _ _ _ _ => true | _ => false))
    | _ => false)
  | .own i e, st => (match st with
    | .Assign [.Name y py] x _ => decide (N[i]? = some y) && locB true sc y && chkE G N sc e x && isNew G e && (noComp x || (match x with | .ListComp _ _ _ _ => true | _ => false))
    | _ => false)
  | .tgt t e, st => (match st with
    | .Assign [.Tuple es k p] x _ => chkG (locB true sc) N t (.Tuple es k p) && chkE G N sc e x && noComp x && noSwap (.Tuple es k p) x
    | _ => false)
  | .aug i o e, st => (match st with
    | .AugAssign (.Name y _) op x _ => decide (N[i]? = some y) && locB true sc y && o.is op && chkE G N sc e x && (decide (o = .add) || decide (o = .sub) || decide (o = .mul) || decide (o = .fdiv))
    | _ => false)
  | .app i e, st => (match st with
    | .Expr (.Call (.Attribute (.Name y _) a ap) [x] [] cp) _ => decide (N[i]? = some y) && visB sc y && plainNm y && decide (a = "append") && noStar x && chkE G N sc e x && (ap.endLine == cp.line)
    | _ => false)
  | .expr e, st => (match st with
    | .Expr x _ => chkE G N sc e x && noComp x
    | _ => false)
  | .ret e, st => (match st with
    | .Return (some x) _ => chkE G N sc e x && okRet G nw e
    | _ => false)
  | .retN, st => (match st with
    | .Return none _ => true
    | _ => false)
  | .pass, st => (match st with
    | .Pass _ => true
    | _ => false)
  | .ifS c a b, st => (match st with
    | .If x ys zs _ => chkE G N sc c x && chkSs G N sc nw a ys && chkSs G N sc nw b zs
    | _ => false)
  | .forS t it body, st => (match st with
    | .For tg i ys [] _ => chkG (locB true sc) N t tg && chkI G N sc it tg i && noSet i && chkSs G N sc nw body ys
    | _ => false)
  | .whl c body, st => (match st with
    | .While x ys [] _ => chkE G N sc c x && chkSs G N sc nw body ys
    | _ => false)
  | .raise c, st => (match st with
    | .Raise (some (.Call (.Name x _) [.Constant (.str _) _ _] [] _)) none _ => decide (G.excs[c]? = some x) && decide (G.rz[c]? = some true) && isGlob sc x && plainNm x
    | _ => false)
  | .freeze _, _ => false
  | .put i ix e, st => (match st with
    | .Assign [.Subscript (.Name y _) j _] x _ => decide (N[i]? = some y) && visB sc y && plainNm y && ixPl j && chkE G N sc ix j && chkE G N sc e x && noComp x
    | _ => false)
  | .augp i ix o e, st => (match st with
    | .AugAssign (.Subscript (.Name y _) j _) op x _ => decide (N[i]? = some y) && visB sc y && plainNm y && ixPl j && chkE G N sc ix j && o.is op && chkE G N sc e x && (decide (o = .add) || decide (o = .sub) || decide (o = .mul) || decide (o = .fdiv))
    | _ => false)
  | .pop i j front, st => (match st with
    | .Assign [.Name y _] (.Call (.Attribute (.Name z _) m ap) args [] cp) _ => decide (N[i]? = some y) && locB true sc y && decide (N[j]? = some z) && visB sc z && plainNm z && decide (m = "pop") && (ap.endLine == cp.line) && (match front, args with
      | true, [.Constant (.int 0) _ _] => true
      | false, [] => true
      | _, _ => false)
    | _ => false)
  | .ext i e, st => (match st with
    | .Expr (.Call (.Attribute (.Name y _) a ap) [x] [] cp) _ => decide (N[i]? = some y) && visB sc y && plainNm y && decide (a = "extend") && noStar x && chkE G N sc e x && isNew G e && (ap.endLine == cp.line)
    | _ => false)
  | .dput i ix e, st => (match st with
    | .Assign [.Subscript (.Name y _) j _] x _ => decide (N[i]? = some y) && visB sc y && plainNm y && chkE G N sc ix j && chkE G N sc e x && noComp x
    | _ => false)
  | .par b1 i e1 b2 j e2, st => (match st with
    | .Assign [.Tuple [.Name x px, .Name y py] _ _] (.Tuple [a, b] _ _) _ => decide (N[i]? = some x) && decide (N[j]? = some y) && !decide (i = j) && parB sc x y px py a b && noStar a && noStar b && chkE G N sc e1 a && chkE G N sc e2 b && (!b1 || isNew G e1) && (!b2 || isNew G e2)
    | _ => false)
  | .io f es i, st => (match st with
    | .Expr (.Call (.Name g _) (y :: ys) [] _) _ => (match G.ios[f]? with
      | some F => decide (g = F.name) && isGlob sc g && plainNm g && decide (es.len = F.ar) && isVarAt es F.at_ i && chkA G N sc es (y :: ys)
      | none => false)
    | _ => false)
  | .ioA f es i t o, st => (match st with
    | .AugAssign (.Name z _) op (.Call (.Name g _) (y :: ys) [] _) _ => (match G.ios[f]? with
      | some F => decide (g = F.name) && isGlob sc g && plainNm g && decide (es.len = F.ar) && isVarAt es F.at_ i && chkA G N sc es (y :: ys) && decide (N[t]? = some z) && locB true sc z && o.is op && !decide (i = t) && (decide (o = .add) || decide (o = .sub) || decide (o = .mul) || decide (o = .fdiv))
      | none => false)
    | _ => false)
  | .tryS n body hs, st => (match st with
    | .Try ys (h0 :: hds) [] [] _ => decide (nw.io = none) && decide (n = N.length) && chkSs G N sc nw body ys && chkHds G N sc hs (h0 :: hds)
    | _ => false)
def chkSs (G : Gb) (N : List Str) (sc : Scope) (nw : Mo) : Ss → List Stmt → Bool
  | .nil, ys => (match ys with
    | [] => true
    | _ => false)
  | .rest, _ => true
  | .cons (.freeze _) r, ys => chkSs G N sc nw r ys
  | .cons s r, ys => (match ys with
    | y :: ys => chkS G N sc nw s y && chkSs G N sc nw r ys
    | _ => false)
end
theorem swp_eq {elt : Expr} {gs : List Comprehension} {scope : Scope} {pos py : Pos} {y : Str} {l : Nat} {env : Env} (hk : env.scope.kind = .function) :
    swapsWith (.ListComp elt gs scope pos) (some (.Name y py)) l env = pure (swp env.scope y py (.ListComp elt gs scope pos)) := by
  have hb : env.blockKind = .function := by unfold Env.blockKind; rw [hk]; rfl
  unfold swapsWith swp
  simp only [hb, Expr.pos]
  have ky : env.kindOf y = env.scope.names.lookup y := rfl
  rw [ky]
  congr 1
  by_cases h : env.scope.names.lookup y = some .local
  · rw [h]
    simp
  · rw [decide_eq_false h]
    have : (env.scope.names.lookup y == some NameKind.local) = false := by
      rw [beq_eq_false_iff_ne]
      exact h
    rw [this]
    rfl
theorem nocomp_sw {x : Expr} {t : Option Expr} {l : Nat} {env : Env} (h : noComp x = true) : swapsWith x t l env = pure false := by
  cases x <;> first | rfl | (simp [noComp] at h)
theorem inplR_of {X : Cx} {o : O2} {p : Operator} (h : o.is p = true) (hk : (decide (o = .add) || decide (o = .sub) || decide (o = .mul) || decide (o = .fdiv)) = true) : ∃ r, OpR X (inplaceOp p) r ∧ Op2Ok true X.K r (augI o) := by
  rw [O2.is_eq h]
  cases o with
  | add =>
    refine ⟨_, iop_add, ?_⟩
    intro H0 H x y d1 d2 d Q s h1 h2 e q
    unfold augI at e
    split at e
    · cases e
      cases h1.int; cases h2.int
      exact ⟨_, _, rfl, rfl, rs_flat s (.int _) q⟩
    · cases e
  | sub =>
    refine ⟨_, iop_sub, ?_⟩
    intro H0 H x y d1 d2 d Q s h1 h2 e q
    unfold augI at e
    split at e
    · cases e
      cases h1.int; cases h2.int
      exact ⟨_, _, rfl, rfl, rs_flat s (.int _) q⟩
    · cases e
  | mul =>
    refine ⟨_, iop_mul, ?_⟩
    intro H0 H x y d1 d2 d Q s h1 h2 e q
    unfold augI at e
    split at e
    · simp only [sem2, mulD] at e
      split at e
      · rename_i hz
        cases e
        cases h1.int; cases h2.int
        rw [mulOk_eq] at hz
        have hz2 := of_decide_eq_true hz
        exact ⟨_, _, rfl, rfl, hz2, rs_flat s (.int _) q⟩
      · cases e
    · cases e
  | fdiv =>
    refine ⟨_, iop_fdiv, ?_⟩
    intro H0 H x y d1 d2 d Q s h1 h2 e q
    unfold augI at e
    split at e
    · simp only [sem2, fdivD] at e
      split at e
      · rename_i hz
        cases e
        cases h1.int; cases h2.int
        exact ⟨_, _, rfl, rfl, hz, rs_flat s (.int _) q⟩
      · cases e
    · cases e
  | mod => cases hk
  | pow => cases hk

theorem js_raise {X : Cx} {G : Gb} {N : List Str} {sc : Scope} {top : Bool} {k : Nat} {W : WX} {nw : Mo} {c : Nat} {x m : Str} {j : Nat} {p p2 pos pos2 : Pos} (cc : Cc X G N sc top k) (tk : Takes X W) (h1 : G.excs[c]? = some x) (h2 : G.rz[c]? = some true) (hg : Gl X x) (hd : (x == ("__debug__" : Str)) = false) :
    JS X G.excs W nw (.Raise (some (.Call (.Name x p) [.Constant (.str m) j p2] [] pos)) none pos2) (fun _ => some (.exc c none)) := by
  obtain ⟨C, g1, g2, g3, g4, g5⟩ := cc.mod.exc c x h1 h2
  refine ps_of (ps_raise cc.calm tk (pmk_own PySem.F.excBase_ValueError g2 g1 g3 (raises_own g4 g5) hg hd)) fun Dn σ H h => ?_
  obtain ⟨en, ρ, H0, rr, q⟩ := h
  exact q σ rr.hl (.ref C) none H0 H rr.ext ⟨x, C, h1, g1, rfl, rfl⟩
theorem asgPl {x : Str} {p1 tpos : Pos} {ix : Expr} {env : Env} (h : ixPl ix = true) : ∀ v, assign (.Subscript (.Name x p1) ix tpos) env v = (do
      let ov ← holding [v] (eval (.Name x p1) env)
      let iv ← holding [v, ov] (eval ix env)
      standAt tpos
      holding [v, ov, iv] (setItem ov iv v)
      release [v, ov, iv] []) := by
  intro v
  cases ix <;> first | rfl | (simp [ixPl] at h)
theorem augPl {ix : Expr} (h : ixPl ix = true) : ∀ ov iv new, augStore ix ov iv new = (do holding [new, ov, iv] (setItem ov iv new); release [new, ov, iv] []; pure .next) := by
  intro ov iv new
  cases ix <;> first | rfl | (simp [ixPl] at h)
theorem swSt {x : Str} {p1 tpos : Pos} {ix a : Expr} {env : Env} (h : noComp a = true) : swappedStores [.Subscript (.Name x p1) ix tpos] a env = pure none := by
  cases a <;> first | rfl | (simp [noComp] at h)
theorem Cc.tr {X : Cx} {G : Gb} {N : List Str} {sc : Scope} {top : Bool} {k : Nat} (c : Cc X G N sc top k) (pn : List (Addr × Obj)) (xe : Value → Shared → Prop) : Cc (X.tr pn xe) G N sc top k where
  hN := c.hN
  nd := c.nd
  hsc := c.hsc
  calm := c.calm
  room := c.room
  fn := c.fn
  mod := c.mod
/-- what a suite is handed -/
def tsH (X : Cx) (G : Gb) (i : Nat) (h : HS) (a : Addr) (cls : Value) (d : Option Addr) : TS := fun Dn σ H => ∃ c x C v, G.excs[c]? = some x ∧ X.mg x = some (.ref C) ∧ cls = .ref C ∧ d = none ∧ σ.length = X.N.length ∧ σ[i]? = some (some (.ref a)) ∧ hsv G.sub c (fun _ => none) h = some v ∧ Dn.rt v H
def lH (X : Cx) (G : Gb) : List (Nat × Nat × HS) → List (Value × Nat × (Addr → Value → Option Addr → TS))
  | [] => []
  | (d, i, h) :: r => ((match G.excs[d]? with | some x => (X.mg x).getD .none | none => .none), i, tsH X G i h) :: lH X G r
theorem hds_of {X : Cx} {G : Gb} {N : List Str} {sc : Scope} {k : Nat} (cc : Cc X G N sc true k) : ∀ (hs : List (Nat × Nat × HS)) (hds : List ExceptHandler), chkHds G N sc hs hds = true → HdsAs X hds (lH X G hs)
  | [], [], _ => .nil
  | [], _ :: _, h => by simp [chkHds] at h
  | (d, i, hh) :: r, hds, h => by
    unfold chkHds at h
    split at h
    · rename_i eq
      cases eq
    · rename_i d' i' h' r' x np n b su ps hds' e1
      injection e1 with e1 e2
      injection e1 with e3 e4
      injection e4 with e4 e5
      subst e2 e3 e4 e5
      simp only [Bool.and_eq_true, decide_eq_true_eq] at h
      obtain ⟨⟨⟨⟨⟨⟨h1, h2⟩, h3⟩, h4⟩, h5⟩, h6⟩, h7⟩ := h
      obtain ⟨D, hD⟩ := cc.mod.xg d x h1
      unfold lH
      rw [h1]
      dsimp only
      rw [hD]
      refine HdsAs.cons (c := .ref D) ⟨by show X.env.scope.names.lookup x = _; rw [cc.hsc]; exact of_decide_eq_true h2, (plain_of h3).1, .inl hD⟩ (by rw [cc.hN]; exact h4) (by show X.env.scope.names.lookup n = _; rw [cc.hsc]; exact h5) (fun a oe cls dd pn hz hf => ?_) (hds_of cc r hds' h7)
      refine ⟨fun pins s σ H Dn I hx => ?_⟩
      obtain ⟨c, y, C, v, g1, g2, rfl, rfl, g5, g6, g7, g8⟩ := hx
      exact (sndHS cc g1 g2 hz hf hh _ v (fun _ => none) σ g5 g6 (fun _ _ e => nomatch e) h6 g7).run pins s σ H Dn I ⟨rfl, g8⟩
    · cases h
theorem js_try {X : Cx} {G : Gb} {N : List Str} {sc : Scope} {W : WX} {k n : Nat} {nw : Mo} {body : List Stmt} {h0 : ExceptHandler} {hds : List ExceptHandler} {hs : List (Nat × Nat × HS)} {pos : Pos} {m : Rho → Option Out} (hio : nw.io = none) (cc : Cc X G N sc true k) (tk : Takes X W) (hn : n = N.length) (hk : X.env.scope.kind = .function) (hs' : X.stack = X.env :: X.outer) (hf' : X.env.frame = some X.env.locals)
    (hb : ∀ (W' : WX) (pn : List (Addr × Obj)) (xe : Value → Shared → Prop), Takes (X.tr pn xe) W' → PassesOwn (model X.prog X.w) X.A X.env xe → JSs (X.tr pn xe) G.excs W' nw body m) (hh : chkHds G N sc hs (h0 :: hds) = true) :
    JS X G.excs W nw (.Try body (h0 :: hds) [] [] pos) (tryV G.sub n m hs) := by
  refine ps_of (ps_try_manyAs hs' hf' (by rw [cc.hN]; exact cc.nd) tk (tb := fun W' => TauS X.K X.mg G.excs W' nw m) (fun W' pn xe t p => hb W' pn xe t p) (hds_of cc hs _ hh)) fun Dn σ H h => ?_
  obtain ⟨en, ρ, H0, rr, p⟩ := h
  refine ⟨en, ρ, H0, rr, ?_⟩
  unfold tryV at p
  split at p
  · rename_i hl
    have key : ∀ (c : Nat) (cls : Value) (dd : Option Addr) (σ' : L2.St) (H0' H' : Hp), σ'.length = en.n → Ext en.H0 en.H H0' H' → ExcIs X.K X.mg G.excs c none cls dd H0' H' → ∀ hs2, PostS X.K X.mg G.excs W nw en H0 Dn (catchV G.sub c hs2) → (∀ q ∈ hs2, ∃ x, G.excs[q.1]? = some x) → (∀ q ∈ hs2, q.2.1 < N.length) → wManyAs X.K W Dn (lH X G hs2) cls dd σ' H' := by
      intro c cls dd σ' H0' H' l1 x1 z1 hs2
      induction hs2 with
      | nil => exact fun p _ _ => p σ' l1 cls dd H0' H' x1 z1
      | cons q r ih =>
        intro p hq hi
        obtain ⟨d, i, hh2⟩ := q
        obtain ⟨y, hy⟩ := hq _ List.mem_cons_self
        have hil : i < N.length := hi _ List.mem_cons_self
        obtain ⟨x, C, g1, g2, rfl, rfl⟩ := z1
        obtain ⟨D, hD⟩ := cc.mod.xg d y hy
        unfold lH
        dsimp only at hy ⊢
        rw [hy]
        dsimp only
        rw [hD]
        dsimp only [Option.getD]
        refine ⟨G.sub c d, (cc.mod.xx c d x y C D g1 hy g2 hD).1, fun hb2 a ha => ?_, fun hb2 => ?_⟩
        · unfold catchV at p
          rw [if_pos hb2] at p
          split at p
          · rename_i s es
            refine ⟨c, x, C, .str s, g1, g2, rfl, rfl, ?_, ?_, es, ?_⟩
            · rw [List.length_set, l1, ← rr.hn, hl, hn, cc.hN]
            · rw [get_set, if_pos rfl, if_pos]
              rw [l1, ← rr.hn, hl, hn]
              exact hil
            · exact post_ret hio p (.str s) H0' H' x1 (.inl ⟨.str _, fun _ => rfl⟩)
          · exact p.elim
        · unfold catchV at p
          rw [if_neg (by rw [hb2]; simp)] at p
          exact ih p (fun q hq' => hq q (List.mem_cons_of_mem _ hq')) (fun q hq' => hi q (List.mem_cons_of_mem _ hq'))
    have gen : ∀ hs2 hds2, chkHds G N sc hs2 hds2 = true → (∀ q ∈ hs2, ∃ x, G.excs[q.1]? = some x) ∧ (∀ q ∈ hs2, q.2.1 < N.length) := by
      intro hs2
      induction hs2 with
      | nil => exact fun _ _ => ⟨(fun _ h => nomatch h), (fun _ h => nomatch h)⟩
      | cons q r ih =>
        intro hds2 hc
        obtain ⟨d, i, hh2⟩ := q
        unfold chkHds at hc
        split at hc
        · rename_i e1
          cases e1
        · rename_i d' i' h' r' x np n' b su ps hds' e1
          injection e1 with e1 e2
          injection e1 with e3 e4
          injection e4 with e4 e5
          subst e2 e3 e4 e5
          simp only [Bool.and_eq_true, decide_eq_true_eq] at hc
          obtain ⟨⟨⟨⟨⟨⟨h1, h2⟩, h3⟩, h4⟩, h5⟩, h6⟩, h7⟩ := hc
          obtain ⟨i1, i2⟩ := ih _ h7
          refine ⟨fun q hq => ?_, fun q hq => ?_⟩
          · rcases List.mem_cons.mp hq with rfl | hq
            · exact ⟨x, h1⟩
            · exact i1 q hq
          · rcases List.mem_cons.mp hq with rfl | hq
            · dsimp only
              by_cases hj : i < N.length
              · exact hj
              · rw [List.getElem?_eq_none (by omega)] at h4
                cases h4
            · exact i2 q hq
        · cases hc
    obtain ⟨gn1, gn2⟩ := gen hs _ hh
    cases e : m ρ with
    | none => rw [e] at p; exact p.elim
    | some o =>
      rw [e] at p
      cases o with
      | next ρ' => exact p
      | ret d => exact p
      | exc c q =>
        cases q with
        | some q => exact p.elim
        | none => exact fun σ' l1 cls dd H0' H' x1 z1 => key c cls dd σ' H0' H' l1 x1 z1 hs p gn1 gn2
  · exact p.elim

theorem evalX_len {G : Gb} : ∀ {es : Es} {o : Option Nat} {ρ : Rho} {ds : List D}, evalX G o es ρ = some (.ok ds) → ds.length = es.len
  | .nil, none, ρ, ds, h => by
    unfold evalX at h
    cases h
    rfl
  | .nil, some q, ρ, ds, h => by
    cases q <;> (unfold evalX at h; cases h)
  | .cons e es, o, ρ, ds, h => by
    have key : ∀ (m : Rho → Option Res) (o' : Option Nat), consA m (evalX G o' es) ρ = some (.ok ds) → ds.length = es.len + 1 := by
      intro m o' h
      unfold consA at h
      split at h
      · split at h
        · rename_i d _ _ ds' e2
          cases h
          rw [List.length_cons, evalX_len e2]
        · cases h
        · cases h
      · cases h
      · cases h
    match o, h with
    | none, h => unfold evalX at h; exact key _ _ h
    | some 0, h => unfold evalX at h; exact key _ _ h
    | some (k + 1), h => unfold evalX at h; exact key _ _ h
theorem evalX_at {G : Gb} {i : Nat} : ∀ {es : Es} {k : Nat} {ρ : Rho} {ds : List D}, isVarAt es k i = true → evalX G (some k) es ρ = some (.ok ds) → ∃ d fl, ds[k]? = some d ∧ ρ[i]? = some (some (fl, d))
  | .nil, k, ρ, ds, hv, h => by cases k <;> cases hv
  | .cons e es, 0, ρ, ds, hv, h => by
    cases e with
    | var j =>
      have hj : j = i := of_decide_eq_true hv
      subst hj
      unfold evalX consA at h
      have q : evalE G (.var j) ρ = slotVal ρ j := rfl
      rw [q] at h
      unfold slotVal at h
      cases e0 : ρ[j]? with
      | none => rw [e0] at h; cases h
      | some s0 =>
        rw [e0] at h
        cases s0 with
        | none => cases h
        | some fd =>
          obtain ⟨fl, d⟩ := fd
          dsimp only at h
          split at h
          · cases h; exact ⟨d, fl, rfl, rfl⟩
          · cases h
          · cases h
    | _ => cases hv
  | .cons e es, k + 1, ρ, ds, hv, h => by
    unfold evalX consA at h
    split at h
    · split at h
      · rename_i d _ _ ds' e2
        cases h
        obtain ⟨d', fl, h1, h2⟩ := evalX_at (es := es) (k := k) (by cases e <;> exact hv) e2
        exact ⟨d', fl, by simpa using h1, h2⟩
      · cases h
      · cases h
    · cases h
    · cases h
theorem sndX {G : Gb} {N : List Str} {i : Nat} : ∀ (es : Es) (o : Option Nat) (sc : Scope) (ys : List Expr) (X : Cx) (W : WX) (top : Bool) (k : Nat), (∀ q, o = some q → isVarAt es q i = true) → chkA G N sc es ys = true → Cc X G N sc top k → Takes X W → JAX o i X G.excs W ys (evalX G o es)
  | .nil, o, sc, ys, X, W, top, k, hv, h, c, tk => by
    unfold chkA at h
    split at h
    · cases o with
      | none => exact jax_nil
      | some q =>
        have := hv q rfl
        cases q <;> cases this
    · cases h
  | .cons e es, o, sc, ys, X, W, top, k, hv, h, c, tk => by
    unfold chkA at h
    split at h
    · simp only [Bool.and_eq_true] at h
      have he := sndE e sc _ X W top k h.1.2 c tk
      match o, hv with
      | none, hv => exact jax_cons (jd_E he.1) (sndX es none sc _ X W top k (fun q e => nomatch e) h.2 c tk) rfl (star1 h.1.1)
      | some (q + 1), hv => exact jax_cons (jd_E he.1) (sndX es (some q) sc _ X W top k (fun q' e' => by cases e'; have := hv _ rfl; cases e <;> exact this) h.2 c tk) rfl (star1 h.1.1)
      | some 0, hv =>
        have hv0 := hv 0 rfl
        cases e with
        | var j =>
          have hj : j = i := of_decide_eq_true hv0
          subst hj
          have h1 := h.1.2
          unfold chkE at h1
          split at h1
          · simp only [Bool.and_eq_true, decide_eq_true_eq] at h1
            obtain ⟨d1, d2, _⟩ := plain_of h1.2
            exact jax_io (by rw [c.hN]; exact h1.1.1) (by rw [c.hsc]; exact vis_of h1.1.2) d1 d2 (sndX es none sc _ X W top k (fun q e => nomatch e) h.2 c tk) (star1 h.1.1)
          · cases h1
        | _ => cases hv0
    · cases h
theorem nostar_ne {a : Expr} (h : noStar a = true) : ∀ e p, a ≠ .Starred e p := by
  intro e p q
  subst q
  cases h
set_option maxHeartbeats 1000000 in
mutual
theorem sndS {G : Gb} {N : List Str} {sc : Scope} {X : Cx} {W : WX} {k fuel : Nat} {nw : Mo} (c : Cc X G N sc true k) (tk : Takes X W) (po : PassesOwn (model X.prog X.w) X.A X.env X.xe) (hk : X.env.scope.kind = .function) (hs' : X.stack = X.env :: X.outer) (hf' : X.env.frame = some X.env.locals) :
    ∀ (s : S) (st : Stmt), chkS G N sc nw s st = true → JS X G.excs W nw st (execS G fuel nw s)
  | .dat i e, st, h => by
    unfold chkS at h
    split at h
    · rename_i y py x _
      simp only [Bool.and_eq_true, decide_eq_true_eq, Bool.or_eq_true] at h
      obtain ⟨⟨⟨h1, h2⟩, h3⟩, h4⟩ := h
      obtain ⟨l1, l2⟩ := loc_of c h2
      have he := (sndE e sc x X W true k h3 c tk).1
      have hN : X.N.Nodup := by rw [c.hN]; exact c.nd
      have hi : X.N[i]? = some y := by rw [c.hN]; exact h1
      rcases h4 with h4 | h4
      · exact js_dat hN hi l1 (jd_E he) (nocomp_sw h4) l2
      · split at h4
        · rename_i elt gs scope cpos
          cases hw : swp X.env.scope y py (.ListComp elt gs scope cpos) with
          | false => exact js_dat hN hi l1 (jd_E he) (by rw [swp_eq hk, hw]) l2
          | true =>
            -- stored in the comprehension's own frame
            cases e with
            | comp ee tg it ifs own =>
              unfold chkE at h3
              split at h3
              · rename_i hq
                cases hq
                simp only [Bool.and_eq_true] at h3
                obtain ⟨⟨⟨⟨⟨⟨hi2, hns⟩, hb⟩, hg⟩, hu⟩, hf⟩, he2⟩ := h3
                have hyl : X.env.scope.names.lookup y = some .local := by
                  unfold swp at hw
                  simp only [Bool.and_eq_true, decide_eq_true_eq] at hw
                  exact hw.1.1
                exact js_datLc (us := tg.slots) (mm := isTupX _) c.calm hN hi hyl (by rw [swp_eq hk, hw]) (sndI it sc _ _ X W true k hi2 c tk) (blkOk_by (by rw [c.hN, c.hsc]; exact hb)) (fun i hi => of_decide_eq_true (List.all_eq_true.mp hu i hi)) (fun s H C cl fp => sndG (c.blk s H _ cl C fp) (loc_blk c.hsc s H cl C fp) tg _ hg)
                  (fun s H C cl fp => sndF ifs _ _ _ W0 false k hf (c.blk s H _ cl C fp) takes0) (fun s H C cl fp => jd_E (sndE ee _ _ _ W0 false k he2 (c.blk s H _ cl C fp) takes0).1) (noset_fold hns)
              · cases h3
            | comp2 ee tg it ifs tg1 it1 ifs1 own =>
              unfold chkE at h3
              split at h3
              · rename_i y0 t0 i0 fs0 t1 i1 fs1 scope0 pos0 hq
                cases hq
                simp only [Bool.and_eq_true] at h3
                obtain ⟨⟨⟨⟨⟨⟨⟨⟨⟨⟨⟨hi2, hns⟩, hns1⟩, hb⟩, hg⟩, hu⟩, hf⟩, hi1⟩, hg1⟩, hu1⟩, hf1⟩, he2⟩ := h3
                have hyl : X.env.scope.names.lookup y = some .local := by
                  unfold swp at hw
                  simp only [Bool.and_eq_true, decide_eq_true_eq] at hw
                  exact hw.1.1
                exact js_datLc2 (us := tg.slots) (vs1 := tg1.slots) (mm := isTupX _) (mm1 := isTupX t1) c.calm hN hi hyl (by rw [swp_eq hk, hw]) (sndI it sc _ _ X W true k hi2 c tk) (blkOk_by (by rw [c.hN, c.hsc]; exact hb)) (fun i hi => of_decide_eq_true (List.all_eq_true.mp hu1 i hi)) (fun i hi => of_decide_eq_true (List.all_eq_true.mp hu i hi)) (fun s H C cl fp => sndG (c.blk s H _ cl C fp) (loc_blk c.hsc s H cl C fp) tg _ hg)
                  (fun s H C cl fp => sndF ifs _ _ _ W0 false k hf (c.blk s H _ cl C fp) takes0) (fun s H C cl fp => sndI it1 _ _ _ _ W0 false k hi1 (c.blk s H _ cl C fp) takes0) (fun s H C cl fp => sndG (c.blk s H _ cl C fp) (loc_blk c.hsc s H cl C fp) tg1 _ hg1) (fun s H C cl fp => sndF ifs1 _ _ _ W0 false k hf1 (c.blk s H _ cl C fp) takes0) (fun s H C cl fp => jd_E (sndE ee _ _ _ W0 false k he2 (c.blk s H _ cl C fp) takes0).1) (noset_fold hns) (fun _ => noset_fold hns1)
              · cases h3
            | hole => exact ⟨fun pins s σ H Dn I h => by
                obtain ⟨en, ρ, H0, rr, p⟩ := h
                exact p.elim⟩
            | _ => unfold chkE at h3; cases h3
        · cases h4
    · cases h
  | .own i e, st, h => by
    unfold chkS at h
    split at h
    · rename_i y py x _
      simp only [Bool.and_eq_true, decide_eq_true_eq, Bool.or_eq_true] at h
      obtain ⟨⟨⟨⟨h1, h2⟩, h3⟩, hn⟩, h4⟩ := h
      obtain ⟨l1, l2⟩ := loc_of c h2
      have hN : X.N.Nodup := by rw [c.hN]; exact c.nd
      have hi : X.N[i]? = some y := by rw [c.hN]; exact h1
      have he : JE X G.excs W x .new (evalE G e) := by
        have he := (sndE e sc x X W true k h3 c tk).1
        unfold isNew at hn
        split at hn
        · rename_i q
          rw [q] at he
          exact he
        · cases hn
      rcases h4 with h4 | h4
      · exact js_own hN hi l1 he (nocomp_sw h4) l2
      · split at h4
        · rename_i elt gs scope cpos
          cases hw : swp X.env.scope y py (.ListComp elt gs scope cpos) with
          | false => exact js_own hN hi l1 he (by rw [swp_eq hk, hw]) l2
          | true =>
            cases e with
            | comp ee tg it ifs own =>
              unfold chkE at h3
              split at h3
              · rename_i hq
                cases hq
                simp only [Bool.and_eq_true] at h3
                obtain ⟨⟨⟨⟨⟨⟨hi2, hns⟩, hb⟩, hg⟩, hu⟩, hf⟩, he2⟩ := h3
                have hyl : X.env.scope.names.lookup y = some .local := by
                  unfold swp at hw
                  simp only [Bool.and_eq_true, decide_eq_true_eq] at hw
                  exact hw.1.1
                exact js_ownLc (us := tg.slots) (mm := isTupX _) c.calm hN hi hyl (by rw [swp_eq hk, hw]) (sndI it sc _ _ X W true k hi2 c tk) (blkOk_by (by rw [c.hN, c.hsc]; exact hb)) (fun i hi => of_decide_eq_true (List.all_eq_true.mp hu i hi)) (fun s H C cl fp => sndG (c.blk s H _ cl C fp) (loc_blk c.hsc s H cl C fp) tg _ hg)
                  (fun s H C cl fp => sndF ifs _ _ _ W0 false k hf (c.blk s H _ cl C fp) takes0) (fun s H C cl fp => jd_E (sndE ee _ _ _ W0 false k he2 (c.blk s H _ cl C fp) takes0).1) (noset_fold hns)
              · cases h3
            | comp2 ee tg it ifs tg1 it1 ifs1 own =>
              unfold chkE at h3
              split at h3
              · rename_i y0 t0 i0 fs0 t1 i1 fs1 scope0 pos0 hq
                cases hq
                simp only [Bool.and_eq_true] at h3
                obtain ⟨⟨⟨⟨⟨⟨⟨⟨⟨⟨⟨hi2, hns⟩, hns1⟩, hb⟩, hg⟩, hu⟩, hf⟩, hi1⟩, hg1⟩, hu1⟩, hf1⟩, he2⟩ := h3
                have hyl : X.env.scope.names.lookup y = some .local := by
                  unfold swp at hw
                  simp only [Bool.and_eq_true, decide_eq_true_eq] at hw
                  exact hw.1.1
                exact js_ownLc2 (us := tg.slots) (vs1 := tg1.slots) (mm := isTupX _) (mm1 := isTupX t1) c.calm hN hi hyl (by rw [swp_eq hk, hw]) (sndI it sc _ _ X W true k hi2 c tk) (blkOk_by (by rw [c.hN, c.hsc]; exact hb)) (fun i hi => of_decide_eq_true (List.all_eq_true.mp hu1 i hi)) (fun i hi => of_decide_eq_true (List.all_eq_true.mp hu i hi)) (fun s H C cl fp => sndG (c.blk s H _ cl C fp) (loc_blk c.hsc s H cl C fp) tg _ hg)
                  (fun s H C cl fp => sndF ifs _ _ _ W0 false k hf (c.blk s H _ cl C fp) takes0) (fun s H C cl fp => sndI it1 _ _ _ _ W0 false k hi1 (c.blk s H _ cl C fp) takes0) (fun s H C cl fp => sndG (c.blk s H _ cl C fp) (loc_blk c.hsc s H cl C fp) tg1 _ hg1) (fun s H C cl fp => sndF ifs1 _ _ _ W0 false k hf1 (c.blk s H _ cl C fp) takes0) (fun s H C cl fp => jd_E (sndE ee _ _ _ W0 false k he2 (c.blk s H _ cl C fp) takes0).1) (noset_fold hns) (fun _ => noset_fold hns1)
              · cases h3
            | hole => exact ⟨fun pins s σ H Dn I h => by
                obtain ⟨en, ρ, H0, rr, p⟩ := h
                exact p.elim⟩
            | _ => unfold chkE at h3; cases h3
        · cases h4
    · cases h
  | .tgt t e, st, h => by
    unfold chkS at h
    split at h
    · rename_i es kk p x _
      simp only [Bool.and_eq_true] at h
      obtain ⟨⟨⟨h1, h2⟩, h3⟩, h4⟩ := h
      exact js_tg (jd_E (sndE e sc x X W true k h2 c tk).1) (sndG c (fun _ h => loc_of c h) t _ h1) (by unfold swapsWithSole; exact nocomp_sw h3) (noSwap_sw h4) rfl
    · cases h
  | .aug i o e, st, h => by
    unfold chkS at h
    split at h
    · simp only [Bool.and_eq_true, decide_eq_true_eq] at h
      obtain ⟨⟨⟨⟨h1, h2⟩, h3⟩, h4⟩, h5⟩ := h
      obtain ⟨l1, l2⟩ := loc_of c h2
      obtain ⟨r, ho, hf⟩ := inplR_of (X := X) h3 h5
      exact js_aug (by rw [c.hN]; exact c.nd) (by rw [c.hN]; exact h1) l1 (sndE e sc _ X W true k h4 c tk).1 ho hf l2
    · cases h
  | .app i e, st, h => by
    unfold chkS at h
    split at h
    · simp only [Bool.and_eq_true, decide_eq_true_eq] at h
      obtain ⟨⟨⟨⟨⟨⟨h1, h2⟩, h3⟩, rfl⟩, h5⟩, h6⟩, h7⟩ := h
      obtain ⟨d1, d2, _⟩ := plain_of h3
      exact js_app (by rw [c.hN]; exact h1) (by rw [c.hsc]; exact vis_of h2) d1 d2 (jd_E (sndE e sc _ X W true k h6 c tk).1) rfl (star1 h5) h7
    · cases h
  | .expr e, st, h => by
    unfold chkS at h
    split at h
    · simp only [Bool.and_eq_true] at h
      exact js_expr (sndE e sc _ X W true k h.1 c tk).1 (nocomp_sw h.2)
    · cases h
  | .ret e, st, h => by
    unfold chkS at h
    split at h
    · rename_i x rpos
      simp only [Bool.and_eq_true] at h
      obtain ⟨h1, h2⟩ := h
      have he := (sndE e sc x X W true k h1 c tk).1
      cases hio : nw.io with
      | some kio =>
        show JS X G.excs W nw (.Return (some x) rpos) (retS nw e (evalE G e))
        unfold retS
        rw [hio]
        exact js_retIO hio (jd_E he)
      | none =>
      show JS X G.excs W nw (.Return (some x) rpos) (retS nw e (evalE G e))
      unfold retS
      rw [hio]
      dsimp only
      have gen : (∀ i, e ≠ .var i) → JS X G.excs W nw (.Return (some x) rpos) (thenS (evalE G e) (fun _ d => some (.ret d))) := by
        intro hv
        refine js_ret hio ?_
        have h2' : (!nw.nw || isNew G e) = true := by
          unfold okRet at h2
          rw [hio] at h2
          dsimp only at h2
          split at h2
          · exact absurd rfl (hv _)
          · exact h2
        have hns : ∀ i, e.srcG G ≠ .slot i := fun i q => by
          have := srcG_slot q
          cases e <;> first | (exact absurd rfl (hv _)) | (simp only [E.src] at this; cases this)
        cases hnw : nw.nw with
        | false =>
          cases q : e.srcG G with
          | new => rw [q] at he; exact call_any (nw := true) he
          | any => rw [q] at he; exact he
          | slot i => exact absurd q (hns i)
        | true =>
          have h3 : isNew G e = true := by rw [hnw] at h2'; simpa using h2'
          unfold isNew at h3
          split at h3
          · rename_i q
            rw [q] at he
            exact he
          · cases h3
      cases e with
      | var i =>
        unfold chkE at h1
        split at h1
        · simp only [Bool.and_eq_true, decide_eq_true_eq] at h1
          obtain ⟨d1, d2, _⟩ := plain_of h1.2
          exact js_retV hio (by rw [c.hN]; exact h1.1.1) (by rw [c.hsc]; exact vis_of h1.1.2) d1 d2
        · cases h1
      | _ => exact gen (fun i q => nomatch q)
    · cases h
  | .retN, st, h => by
    unfold chkS at h
    split at h
    · show JS X G.excs W nw _ (retNS nw)
      unfold retNS
      cases hio : nw.io with
      | none => exact js_retN hio
      | some kio => exact js_retNIO hio
    · cases h
  | .pass, st, h => by
    unfold chkS at h
    split at h
    · exact js_pass
    · cases h
  | .ifS cc a b, st, h => by
    unfold chkS at h
    split at h
    · simp only [Bool.and_eq_true] at h
      exact js_if (sndE cc sc _ X W true k h.1.1 c tk).2 (sndSs c tk po hk hs' hf' a _ h.1.2) (sndSs c tk po hk hs' hf' b _ h.2)
    · cases h
  | .forS t it body, st, h => by
    unfold chkS at h
    split at h
    · simp only [Bool.and_eq_true] at h
      exact js_for (mm := isTupX _) po c.calm (sndI it sc _ _ X W true k h.1.1.2 c tk) (sndG c (fun _ h => loc_of c h) t _ h.1.1.1) (sndSs c tk po hk hs' hf' body _ h.2) (noset_fold h.1.2)
    · cases h
  | .whl cc body, st, h => by
    unfold chkS at h
    split at h
    · simp only [Bool.and_eq_true] at h
      exact js_while po (sndE cc sc _ X W true k h.1 c tk).2 (sndSs c tk po hk hs' hf' body _ h.2)
    · cases h
  | .raise cn, st, h => by
    unfold chkS at h
    split at h
    · simp only [Bool.and_eq_true, decide_eq_true_eq] at h
      obtain ⟨⟨⟨h1, h2⟩, h3⟩, h4⟩ := h
      exact js_raise c tk h1 h2 (by show X.env.scope.names.lookup _ = _; rw [c.hsc]; exact of_decide_eq_true h3) (plain_of h4).1
    · cases h
  | .freeze i, st, h => by
    unfold chkS at h
    cases h
  | .put i ix e, st, h => by
    unfold chkS at h
    split at h
    · simp only [Bool.and_eq_true, decide_eq_true_eq] at h
      obtain ⟨⟨⟨⟨⟨⟨h1, h2⟩, h3⟩, h4⟩, h5⟩, h6⟩, h7⟩ := h
      obtain ⟨d1, d2, _⟩ := plain_of h3
      exact js_put (by rw [c.hN]; exact h1) (by rw [c.hsc]; exact vis_of h2) d1 d2 (jd_E (sndE e sc _ X W true k h6 c tk).1) (sndE ix sc _ X W true k h5 c tk).1 (asgPl h4) (by unfold swapsWithSole; exact nocomp_sw h7) (swSt h7) rfl
    · cases h
  | .augp i ix o e, st, h => by
    unfold chkS at h
    split at h
    · simp only [Bool.and_eq_true, decide_eq_true_eq] at h
      obtain ⟨⟨⟨⟨⟨⟨⟨h1, h2⟩, h3⟩, h4⟩, h5⟩, h6⟩, h7⟩, h8⟩ := h
      obtain ⟨d1, d2, _⟩ := plain_of h3
      obtain ⟨r, ho, hf⟩ := inplR_of (X := X) h6 h8
      exact js_augp (by rw [c.hN]; exact h1) (by rw [c.hsc]; exact vis_of h2) d1 d2 (sndE e sc _ X W true k h7 c tk).1 (sndE ix sc _ X W true k h5 c tk).1 ho hf (augPl h4)
    · cases h
  | .pop i j front, st, h => by
    unfold chkS at h
    split at h
    · simp only [Bool.and_eq_true, decide_eq_true_eq] at h
      obtain ⟨⟨⟨⟨⟨⟨⟨h1, h2⟩, h3⟩, h4⟩, h5⟩, h6⟩, h7⟩, h8⟩ := h
      subst h6
      obtain ⟨l1, l2⟩ := loc_of c h2
      obtain ⟨d1, d2, _⟩ := plain_of h5
      split at h8
      · exact js_pop0 (by rw [c.hN]; exact c.nd) (by rw [c.hN]; exact h1) l1 l2 (by rw [c.hN]; exact h3) (by rw [c.hsc]; exact vis_of h4) d1 d2 h7
      · exact js_pop (by rw [c.hN]; exact c.nd) (by rw [c.hN]; exact h1) l1 l2 (by rw [c.hN]; exact h3) (by rw [c.hsc]; exact vis_of h4) d1 d2 h7
      · cases h8
    · cases h
  | .ext i e, st, h => by
    unfold chkS at h
    split at h
    · rename_i x cp _
      simp only [Bool.and_eq_true, decide_eq_true_eq] at h
      obtain ⟨⟨⟨⟨⟨⟨⟨h1, h2⟩, h3⟩, rfl⟩, h5⟩, h6⟩, hn⟩, h7⟩ := h
      obtain ⟨d1, d2, _⟩ := plain_of h3
      have he : JE X G.excs W x .new (evalE G e) := by
        have he := (sndE e sc x X W true k h6 c tk).1
        unfold isNew at hn
        split at hn
        · rename_i q
          rw [q] at he
          exact he
        · cases hn
      exact js_ext (by rw [c.hN]; exact h1) (by rw [c.hsc]; exact vis_of h2) d1 d2 he (star1 h5) h7
    · cases h
  | .dput i ix e, st, h => by
    unfold chkS at h
    split at h
    · simp only [Bool.and_eq_true, decide_eq_true_eq] at h
      obtain ⟨⟨⟨⟨⟨h1, h2⟩, h3⟩, h5⟩, h6⟩, h7⟩ := h
      obtain ⟨d1, d2, _⟩ := plain_of h3
      exact js_dput (by have := c.room.un; omega) (by rw [c.hN]; exact h1) (by rw [c.hsc]; exact vis_of h2) d1 d2 (jd_E (sndE e sc _ X W true k h6 c tk).1) (sndE ix sc _ X W true k h5 c tk).1 (nocomp_sw h7)
    · cases h
  | .par b1 i e1 b2 j e2, st, h => by
    unfold chkS at h
    split at h
    · rename_i x px y py kt pt a b k2 pt2 spos
      simp only [Bool.and_eq_true, decide_eq_true_eq] at h
      obtain ⟨⟨⟨⟨⟨⟨⟨⟨⟨h1, h2⟩, h3⟩, h4⟩, na⟩, nb⟩, h5⟩, h6⟩, n1⟩, n2⟩ := h
      have hij : i ≠ j := by
        intro e
        simp [e] at h3
      have jx : ∀ (b : Bool) (e : E) (x : Expr), chkE G N sc e x = true → (!b || isNew G e) = true → JX b X G.excs W x (keepX b e (evalE G e)) := by
        intro b e x hx hn
        have he := (sndE e sc x X W true k hx c tk).1
        cases b with
        | true =>
          have hn' : isNew G e = true := by simpa using hn
          unfold isNew at hn'
          split at hn'
          · rename_i q
            rw [q] at he
            exact jx_new he
          · cases hn'
        | false => exact jx_dat (jd_E he)
      have hp : parB X.env.scope x y px py a b = true := by rw [c.hsc]; exact h4
      have hl := hp
      unfold parB at hl
      simp only [Bool.and_eq_true, decide_eq_true_eq] at hl
      exact js_par2 c.calm (by rw [c.hN]; exact c.nd) (by rw [c.hN]; exact h1) (by rw [c.hN]; exact h2) hij hl.1.1.1.1.1 hl.1.1.1.1.2 (jx b1 e1 a h5 n1) (jx b2 e2 b h6 n2) (par_sw hk hp (nostar_ne na) (nostar_ne nb)) (star1 na) (star1 nb)
    · cases h
  | .io fn es i, st, h => by
    unfold chkS at h
    split at h
    · split at h
      · rename_i F eF
        simp only [Bool.and_eq_true, decide_eq_true_eq] at h
        obtain ⟨⟨⟨⟨⟨ey, g1⟩, pl⟩, har⟩, hva⟩, ca⟩ := h
        subst ey
        have hg : Gl X F.name := by
          show X.env.scope.names.lookup _ = _
          rw [c.hsc]
          exact of_decide_eq_true g1
        have hst := (chkA_stars ca).1
        have ha := sndX es (some F.at_) sc _ X W true k (fun q e => by cases e; exact hva) ca c tk
        unfold noStars at hst
        rw [Bool.and_eq_true] at hst
        obtain ⟨f, fd, ps, kk, hk', hl, hF, hm, hkp, hb⟩ := c.mod.ios fn F eF
        have q1 : G.phiI fn = F.phi := by unfold Gb.phiI; rw [eF]
        have q2 : G.atI fn = some F.at_ := by unfold Gb.atI; rw [eF]
        show JS X G.excs W nw _ (ioV (G.phiI fn) (evalX G (G.atI fn) es) i nxK)
        rw [q1, q2]
        exact js_io tk hF (c.room.mono hk') hg hm hkp hb ha (fun ρ ds e => by rw [evalX_len e, har, hl]) (fun ρ ds e => evalX_at hva e) (plain_of pl).1 (star1 hst.1) (back_star hst.2)
      · cases h
    · cases h
  | .ioA fn es i t o, st, h => by
    unfold chkS at h
    split at h
    · split at h
      · rename_i F eF
        simp only [Bool.and_eq_true, decide_eq_true_eq] at h
        obtain ⟨⟨⟨⟨⟨⟨⟨⟨⟨⟨ey, g1⟩, pl⟩, har⟩, hva⟩, ca⟩, j1⟩, j2⟩, j3⟩, j4⟩, j5⟩ := h
        subst ey
        have hg : Gl X F.name := by
          show X.env.scope.names.lookup _ = _
          rw [c.hsc]
          exact of_decide_eq_true g1
        have hst := (chkA_stars ca).1
        have ha := sndX es (some F.at_) sc _ X W true k (fun q e => by cases e; exact hva) ca c tk
        unfold noStars at hst
        rw [Bool.and_eq_true] at hst
        obtain ⟨f, fd, ps, kk, hk', hl, hF, hm, hkp, hb⟩ := c.mod.ios fn F eF
        have q1 : G.phiI fn = F.phi := by unfold Gb.phiI; rw [eF]
        have q2 : G.atI fn = some F.at_ := by unfold Gb.atI; rw [eF]
        have hij : i ≠ t := by
          intro e
          simp [e] at j4
        obtain ⟨l1, l2⟩ := loc_of c j2
        obtain ⟨r, ho, hf⟩ := inplR_of (X := X) j3 j5
        show JS X G.excs W nw _ (seqS (fun ρ => match ρ[t]? with | some (some (.dat, _)) => some (.next ρ) | _ => none) (ioV (G.phiI fn) (evalX G (G.atI fn) es) i (augK (augI o) t)))
        rw [q1, q2]
        exact js_ioAug hij (by rw [c.hN]; exact c.nd) (by rw [c.hN]; exact j1) l1 ho hf l2 tk hF (c.room.mono hk') hg hm hkp hb ha (fun ρ ds e => by rw [evalX_len e, har, hl]) (fun ρ ds e => evalX_at hva e) (plain_of pl).1 (star1 hst.1) (back_star hst.2)
      · cases h
    · cases h
  | .tryS n body hs, st, h => by
    unfold chkS at h
    split at h
    · simp only [Bool.and_eq_true, decide_eq_true_eq] at h
      exact js_try h.1.1.1 c tk h.1.1.2 hk hs' hf' (fun W' pn xe t p => sndSs (c.tr pn xe) t p hk hs' hf' body _ h.1.2) h.2
    · cases h
theorem sndSs {G : Gb} {N : List Str} {sc : Scope} {X : Cx} {W : WX} {k fuel : Nat} {nw : Mo} (c : Cc X G N sc true k) (tk : Takes X W) (po : PassesOwn (model X.prog X.w) X.A X.env X.xe) (hk : X.env.scope.kind = .function) (hs' : X.stack = X.env :: X.outer) (hf' : X.env.frame = some X.env.locals) :
    ∀ (s : Ss) (st : List Stmt), chkSs G N sc nw s st = true → JSs X G.excs W nw st (execSs G fuel nw s)
  | .nil, st, h => by
    unfold chkSs at h
    split at h
    · exact jss_nil
    · cases h
  | .rest, st, h => by
    refine ⟨fun pins s σ H Dn I h => ?_⟩
    obtain ⟨en, ρ, H0, rr, p⟩ := h
    exact p.elim
  | .cons s r, st, h => by
    cases s with
    | freeze i =>
      unfold chkSs at h
      exact jss_freeze (sndSs c tk po hk hs' hf' r st h)
    | _ =>
      unfold chkSs at h
      cases st with
      | nil => cases h
      | cons y ys =>
        simp only [Bool.and_eq_true] at h
        exact jss_cons (sndS c tk po hk hs' hf' _ y h.1) (sndSs c tk po hk hs' hf' r ys h.2)
end

/-! ### a def -/
def initR (args : List D) (n : Nat) : Rho := args.map (fun d => some (.bor, d)) ++ List.replicate (n - args.length) none
def runF (G : Gb) (fuel : Nat) (nw : Bool) (body : Ss) (n : Nat) : List D → Option Res := fun args => match execSs G fuel ⟨nw, none⟩ body (initR args n) with
  | some (.next _) => some (.ok .none)
  | some (.ret d) => some (.ok d)
  | some (.exc c p) => some (.exc c p)
  | none => none
/-- with a thing lent at the place k -/
def initL : Option Nat → List D → Rho
  | _, [] => []
  | some 0, d :: ds => some (.io, d) :: initL none ds
  | some (k + 1), d :: ds => some (.dat, d) :: initL (some k) ds
  | none, d :: ds => some (.dat, d) :: initL none ds
def initX (args : List D) (n k : Nat) : Rho := initL (some k) args ++ List.replicate (n - args.length) none
def runI (G : Gb) (fuel : Nat) (body : Ss) (n k : Nat) : List D → Option Res := fun args => match execSs G fuel ⟨false, some k⟩ body (initX args n k) with
  | some (.next ρ) => (match ρ[k]? with
    | some (some (.io, x)) => some (.ok (.tuple [.none, x]))
    | _ => none)
  | some (.ret d) => some (.ok d)
  | _ => none
theorem rbs_get {K : PySem.W.Frag} {H0 H : Hp} : ∀ {vs : List V} {ds : List D}, RBs K H0 H vs ds → ∀ {i : Nat} {d : D}, ds[i]? = some d → ∃ v, vs[i]? = some v ∧ RB K H0 H v d
  | _, _, .nil, _, _, h => by simp at h
  | _, _, .cons h r, 0, _, e => by
    simp at e; subst e; exact ⟨_, rfl, h⟩
  | _, _, .cons h r, i + 1, _, e => by
    obtain ⟨v, h1, h2⟩ := rbs_get r (i := i) (by simpa using e)
    exact ⟨v, by simpa using h1, h2⟩
theorem initR_get {args : List D} {n i : Nat} {fl : Fl} {d : D} (h : (initR args n)[i]? = some (some (fl, d))) : fl = .bor ∧ args[i]? = some d := by
  unfold initR at h
  by_cases hi : i < args.length
  · rw [List.getElem?_append_left (by simpa using hi), List.getElem?_map, List.getElem?_eq_getElem hi] at h
    cases h
    exact ⟨rfl, List.getElem?_eq_getElem hi⟩
  · rw [List.getElem?_append_right (by simpa using hi), List.getElem?_replicate] at h
    split at h <;> cases h
theorem start_R {K : PySem.W.Frag} {H0 H : Hp} {N : List Str} {vs : List V} {ds : List D} (s : Same H0 H) (r : RBs K H0 H vs ds) : R K ⟨H0, H, (initR ds N.length).length, none⟩ (initR ds N.length) H0 (L2.start N vs) H where
  sub := s
  len := by
    unfold L2.start initR
    simp only [List.length_append, List.length_map, List.length_replicate]
    rw [r.length]
  slot := fun i fl d h => by
    obtain ⟨rfl, h1⟩ := initR_get h
    obtain ⟨v, h2, h3⟩ := rbs_get r h1
    have hi : i < vs.length := by
      by_cases hi : i < vs.length
      · exact hi
      · rw [List.getElem?_eq_none (by omega)] at h2
        cases h2
    refine ⟨v, ?_, ?_⟩
    · unfold L2.start
      rw [List.getElem?_append_left (by simpa using hi), List.getElem?_map, h2]
      rfl
    · rcases h3 with h3 | ⟨a, e, m⟩
      · exact .inl h3
      · exact .inr ⟨a, e, m, m.there⟩
  apart := fun i j fi fj di dj v hij mi mj hi hj => by
    obtain ⟨z, _⟩ := initR_get hi
    subst z
    cases mi
  lent := fun a e => nomatch e
  e1 := Same.refl _
  e2 := Same.refl _
  e3 := fun _ _ _ => rfl
  hn := rfl
theorem initL_len : ∀ (o : Option Nat) (ds : List D), (initL o ds).length = ds.length
  | _, [] => by cases ‹Option Nat› <;> rfl
  | some 0, d :: ds => by rw [initL, List.length_cons, initL_len none ds, List.length_cons]
  | some (k + 1), d :: ds => by rw [initL, List.length_cons, initL_len (some k) ds, List.length_cons]
  | none, d :: ds => by rw [initL, List.length_cons, initL_len none ds, List.length_cons]
theorem initL_get : ∀ (ds : List D) (o : Option Nat) (i : Nat) {fl : Fl} {d : D}, (initL o ds)[i]? = some (some (fl, d)) → ds[i]? = some d ∧ ((fl = .io ∧ o = some i) ∨ (fl = .dat ∧ o ≠ some i))
  | [], o, i, fl, d, h => by
    have : initL o [] = [] := by cases o <;> rfl
    rw [this] at h
    simp at h
  | e :: ds, o, 0, fl, d, h => by
    match o, h with
    | none, h => simp [initL] at h; obtain ⟨rfl, rfl⟩ := h; exact ⟨rfl, .inr ⟨rfl, fun e => nomatch e⟩⟩
    | some 0, h => simp [initL] at h; obtain ⟨rfl, rfl⟩ := h; exact ⟨rfl, .inl ⟨rfl, rfl⟩⟩
    | some (k + 1), h => simp [initL] at h; obtain ⟨rfl, rfl⟩ := h; exact ⟨rfl, .inr ⟨rfl, fun e => by cases e⟩⟩
  | e :: ds, o, i + 1, fl, d, h => by
    match o, h with
    | none, h =>
      simp only [initL, List.getElem?_cons_succ] at h ⊢
      obtain ⟨h1, h2⟩ := initL_get ds none i h
      exact ⟨h1, h2.elim (fun z => nomatch z.2) (fun z => .inr ⟨z.1, fun e => nomatch e⟩)⟩
    | some 0, h =>
      simp only [initL, List.getElem?_cons_succ] at h ⊢
      obtain ⟨h1, h2⟩ := initL_get ds none i h
      exact ⟨h1, h2.elim (fun z => nomatch z.2) (fun z => .inr ⟨z.1, fun e => by cases e⟩)⟩
    | some (k + 1), h =>
      simp only [initL, List.getElem?_cons_succ] at h ⊢
      obtain ⟨h1, h2⟩ := initL_get ds (some k) i h
      exact ⟨h1, h2.elim (fun z => .inl ⟨z.1, by cases z.2; rfl⟩) (fun z => .inr ⟨z.1, fun e => z.2 (by cases e; rfl)⟩)⟩
theorem initX_get {ds : List D} {n k i : Nat} {fl : Fl} {d : D} (h : (initX ds n k)[i]? = some (some (fl, d))) : ds[i]? = some d ∧ ((fl = .io ∧ k = i) ∨ (fl = .dat ∧ k ≠ i)) := by
  unfold initX at h
  by_cases hi : i < ds.length
  · rw [List.getElem?_append_left (by rw [initL_len]; exact hi)] at h
    obtain ⟨h1, h2⟩ := initL_get ds (some k) i h
    exact ⟨h1, h2.elim (fun z => .inl ⟨z.1, by cases z.2; rfl⟩) (fun z => .inr ⟨z.1, fun e => z.2 (by rw [e])⟩)⟩
  · rw [List.getElem?_append_right (by rw [initL_len]; omega), List.getElem?_replicate] at h
    split at h <;> cases h
theorem start_RX {K : PySem.W.Frag} {H0 H : Hp} {N : List Str} {vs : List V} {ds : List D} {a : Addr} {k : Nat} {d : D} (s : Same H0 H) (r : Argx K H0 (.ref a) (some k) vs ds) (hd : ds[k]? = some d) (hm : MO K H0 H a d) :
    R K ⟨H0, del H a, (initX ds N.length k).length, some a⟩ (initX ds N.length k) H0 (L2.start N vs) H where
  sub := s
  len := by
    unfold L2.start initX
    simp only [List.length_append, List.length_map, List.length_replicate, initL_len]
    rw [r.length]
  slot := fun i fl d' h => by
    obtain ⟨h1, h2⟩ := initX_get h
    have st : ∀ v, vs[i]? = some v → (L2.start N vs)[i]? = some (some v) := fun v hv => by
      have hi : i < vs.length := by
        by_cases hi : i < vs.length
        · exact hi
        · rw [List.getElem?_eq_none (by omega)] at hv
          cases hv
      unfold L2.start
      rw [List.getElem?_append_left (by simpa using hi), List.getElem?_map, hv]
      rfl
    rcases h2 with ⟨rfl, rfl⟩ | ⟨rfl, hne⟩
    · rw [hd] at h1
      cases h1
      exact ⟨.ref a, st _ (r.at k rfl), a, rfl, hm, del_same, rfl⟩
    · obtain ⟨v, hv, hdd⟩ := r.other i d' (fun e => hne (by cases e; rfl)) h1
      exact ⟨v, st v hv, hdd⟩
  apart := fun i j fi fj di dj v hij mi mj hi hj => by
    obtain ⟨_, h1⟩ := initX_get hi
    obtain ⟨_, h2⟩ := initX_get hj
    rcases h1 with ⟨_, e1⟩ | ⟨e1, _⟩
    · rcases h2 with ⟨_, e2⟩ | ⟨e2, _⟩
      · exact absurd (e1.symm.trans e2) hij
      · subst e2; cases mj
    · subst e1; cases mi
  lent := fun b e => by
    cases e
    exact hm.there
  e1 := fun b o e => (del_some e).2
  e2 := Same.refl _
  e3 := fun _ _ _ => rfl
  hn := rfl
/-- the end of a def to which a thing is lent -/
theorem post_runI {X : Cx} {xs : List Str} {W : WX} {G : Gb} {fuel k : Nat} {body : Ss} {vs : List V} {H H0 : Hp} {ds : List D} {a : Addr} {d r y : D} {N : List Str} {Dn : Ends} {Q : VK} (hnx : ∀ σ H', Q .non H' → Dn.nx σ H') (hrt : ∀ v H', Q v H' → Dn.rt v H')
    (s0 : Same H0 H) (g1 : Argx X.K H0 (.ref a) (some k) vs ds) (g2 : ds[k]? = some d) (g3 : MO X.K H0 H a d) (g4 : runI G fuel body N.length k ds = some (.ok (.tuple [r, y]))) (q : ∀ v H0' H', Ext H0 (del H a) H0' H' → Dd X.K H0' v r → MO X.K H0' H' a y → Q v H') :
    TauS X.K X.mg xs W ⟨false, some k⟩ (execSs G fuel ⟨false, some k⟩ body) Dn (L2.start N vs) H := by
  refine ⟨_, initX ds N.length k, H0, start_RX s0 g1 g2 g3, ?_⟩
  unfold runI at g4
  cases e : execSs G fuel ⟨false, some k⟩ body (initX ds N.length k) with
  | none => rw [e] at g4; cases g4
  | some o =>
    rw [e] at g4
    cases o with
    | next ρ =>
      intro σ' H0' H' r' _
      dsimp only at g4
      split at g4
      · rename_i x ex
        cases g4
        obtain ⟨v, h1, b, h2, h3, h4, h5⟩ := r'.slot k .io _ ex
        cases h5
        exact hnx _ _ (q .non H0' H' r'.ext .non h3)
      · cases g4
    | ret d' =>
      cases g4
      exact ⟨a, r, y, rfl, rfl, fun v H0' H' x1 z1 z2 => hrt _ _ (q v H0' H' x1 z1 z2)⟩
    | exc c q => cases g4
end
end DD

namespace DD
noncomputable section
open PySem PySem.Spec PyProof.Rows L2

theorem fn_sndD {P : Program} {w : World} {K : PySem.W.Frag} {mg : Str → Option Value} {base : Heap} {G : Gb} {k fuel : Nat} {nw : Bool} {x qual : Str} {params : Arguments} {bd : List Stmt} {sc : Scope} {f : Addr} {fd : FuncData} {N ps : List Str} {body : Ss} (F : FunD K x qual params bd sc [] [] f fd) (Sc : FnScope N ps sc) (hm : MdOk P w K mg base G k)
    (hc : chkSs G N sc ⟨nw, none⟩ body bd = true) : FnOk P w K mg base (L2.CX P w) (k + 1) f fd ps (spOf nw K mg G.excs ps.length (runF G fuel nw body N.length)) := by
  refine F.ok Sc (fun vs H Q E h => h.1) (fun cdv A outer s H vs Q E hr h => ?_)
  obtain ⟨hl, H0, ds, s0, rb, p⟩ := h
  have c : Cc (cxOf (L2.CX P w) P w K mg base N qual sc f cdv A outer s H E) G N sc true k := ⟨rfl, Sc.nd, rfl, rfl, hr, fun _ _ => rfl, hm⟩
  refine ⟨_, sndSs (W := fun cls d _ H => E cls d H) (fuel := fuel) c (takes_of rfl rfl rfl rfl) (passes_of rfl) Sc.kind rfl rfl body _ hc, ?_⟩
  refine ⟨⟨H0, H, (initR ds N.length).length, none⟩, initR ds N.length, H0, start_R s0 rb, ?_⟩
  unfold runF at p
  cases e : execSs G fuel ⟨nw, none⟩ body (initR ds N.length) with
  | none => rw [e] at p; exact p.elim
  | some o =>
    rw [e] at p
    cases o with
    | next ρ => exact fun σ' H0' H' r' _ => p .non H0' H' r'.ext (.inl ⟨.non, fun _ => rfl⟩)
    | ret d => exact fun v H0' H' x1 z1 => p v H0' H' x1 z1
    | exc c q => exact fun σ' _ cls dd H0' H' x1 z1 => p cls dd H0' H' x1 z1

theorem fn_sndI {P : Program} {w : World} {K : PySem.W.Frag} {mg : Str → Option Value} {base : Heap} {G : Gb} {k fuel kio : Nat} {x qual : Str} {params : Arguments} {bd : List Stmt} {sc : Scope} {f : Addr} {fd : FuncData} {N ps : List Str} {body : Ss} (F : FunD K x qual params bd sc [] [] f fd) (Sc : FnScope N ps sc) (hm : MdOk P w K mg base G k)
    (hc : chkSs G N sc ⟨false, some kio⟩ body bd = true) : FnOk P w K mg base (L2.CX P w) (k + 1) f fd ps (spIO K ps.length kio (runI G fuel body N.length kio)) := by
  refine F.ok Sc (fun vs H Q E h => h.1) (fun cdv A outer s H vs Q E hr h => ?_)
  obtain ⟨hl, H0, ds, a, d, r, y, s0, g1, g2, g3, g4, q⟩ := h
  have c : Cc (cxOf (L2.CX P w) P w K mg base N qual sc f cdv A outer s H E) G N sc true k := ⟨rfl, Sc.nd, rfl, rfl, hr, fun _ _ => rfl, hm⟩
  exact ⟨_, sndSs (W := fun cls d _ H => E cls d H) (fuel := fuel) c (takes_of rfl rfl rfl rfl) (passes_of rfl) Sc.kind rfl rfl body _ hc, post_runI (fun _ _ z => z) (fun _ _ z => z) s0 g1 g2 g3 g4 q⟩

/-! ### all defs of a law -/
structure DefX where
  nm : Str
  ps : List Str
  N : List Str
  nw : Bool
  fuel : Nat
  body : Ss
  st : Stmt
  /-- the place of the thing that is lent -/
  io : Option Nat := none
  /-- the class whose __init__ this is -/
  cl : Bool := false
/-- an __init__ of which only its errors are told: self is no value -/
def initM (args : List D) (n : Nat) : Rho := none :: initR args (n - 1)
def runM (G : Gb) (fuel : Nat) (body : Ss) (n : Nat) : List D → Option Res := fun args => match execSs G fuel ⟨true, none⟩ body (initM args n) with
  | some (.exc c p) => some (.exc c p)
  | _ => none
theorem start_RM {K : PySem.W.Frag} {H0 H : Hp} {N : List Str} {a : Addr} {vs : List V} {ds : List D} (s : Same H0 H) (hN : 0 < N.length) (r : RBs K H0 H vs ds) : R K ⟨H0, H, (initM ds N.length).length, none⟩ (initM ds N.length) H0 (L2.start N (.ref a :: vs)) H := by
  cases N with
  | nil => exact absurd hN (Nat.lt_irrefl _)
  | cons x N =>
    have q := start_R (N := N) s r
    have es : L2.start (x :: N) (V.ref a :: vs) = some (.ref a) :: L2.start N vs := by
      unfold L2.start
      rw [List.map_cons, List.length_cons, List.length_cons, Nat.add_sub_add_right]
      rfl
    have ei : initM ds (x :: N).length = none :: initR ds N.length := rfl
    rw [es, ei]
    refine ⟨s, ?_, fun i fl d h => ?_, fun i j fi fj di dj v hij mi mj hi hj => ?_, (fun a e => (nomatch e)), Same.refl _, Same.refl _, (fun _ _ _ => rfl), rfl⟩
    · have := q.len
      simp only [List.length_cons]
      omega
    · cases i with
      | zero => cases h
      | succ i => exact q.slot i fl d h
    · cases i with
      | zero => cases hi
      | succ i =>
        cases j with
        | zero => cases hj
        | succ j => exact q.apart i j fi fj di dj v (fun e => hij (by rw [e])) mi mj hi hj
theorem fn_sndM {P : Program} {w : World} {K : PySem.W.Frag} {mg : Str → Option Value} {base : Heap} {G : Gb} {k fuel : Nat} {x qual : Str} {params : Arguments} {bd : List Stmt} {sc : Scope} {f : Addr} {fd : FuncData} {N ps : List Str} {body : Ss} (F : FunD K x qual params bd sc [] [] f fd) (Sc : FnScope N ps sc) (hps : ps ≠ []) (hm : MdOk P w K mg base G k)
    (hc : chkSs G N sc ⟨true, none⟩ body bd = true) : FnOk P w K mg base (L2.CX P w) (k + 1) f fd ps (spIn K mg G.excs ps.length (runM G fuel body N.length)) := by
  have hN : 0 < N.length := by
    have h1 := Sc.pre
    have h2 := List.length_pos_iff.mpr hps
    rw [← h1, List.length_take] at h2
    omega
  refine F.ok Sc (fun vs H Q E h => h.1) (fun cdv A outer s H vs Q E hr h => ?_)
  obtain ⟨hl, a, us, H0, ds, rfl, s0, rb, p⟩ := h
  have c : Cc (cxOf (L2.CX P w) P w K mg base N qual sc f cdv A outer s H E) G N sc true k := ⟨rfl, Sc.nd, rfl, rfl, hr, fun _ _ => rfl, hm⟩
  refine ⟨_, sndSs (W := fun cls d _ H => E cls d H) (fuel := fuel) c (takes_of rfl rfl rfl rfl) (passes_of rfl) Sc.kind rfl rfl body _ hc, ?_⟩
  refine ⟨⟨H0, H, (initM ds N.length).length, none⟩, initM ds N.length, H0, start_RM s0 hN rb, ?_⟩
  unfold runM at p
  cases e : execSs G fuel ⟨true, none⟩ body (initM ds N.length) with
  | none => rw [e] at p; exact p.elim
  | some o =>
    rw [e] at p
    cases o with
    | next ρ => exact p.elim
    | ret d => exact p.elim
    | exc c q => exact fun σ' _ cls dd H0' H' x1 z1 => p cls dd H0' H' x1 z1
def DefX.mo (d : DefX) : Mo := match d.io with
  | none => ⟨d.nw, none⟩
  | some k => ⟨false, some k⟩
def DefX.fnI (G : Gb) (d : DefX) (k : Nat) : FnI := ⟨d.nm, d.ps.length, k, runI G d.fuel d.body d.N.length k⟩
def DefX.fn (G : Gb) (d : DefX) : FnE := ⟨d.nm, d.ps.length, d.nw, runF G d.fuel d.nw d.body d.N.length⟩
def DefX.fnM (G : Gb) (d : DefX) : FnE := ⟨d.nm, d.ps.length - 1, true, runM G d.fuel d.body d.N.length⟩
def addF (G : Gb) (d : DefX) : Gb := match d.cl with
  | true => { G with mks := G.mks ++ [d.fnM G] }
  | false => (match d.io with
    | none => { G with fns := G.fns ++ [d.fn G] }
    | some k => { G with ios := G.ios ++ [d.fnI G k] })
def gbOf (G : Gb) (ds : List DefX) : Gb := ds.foldl addF G
def scopeB (N ps : List Str) (sc : Scope) : Bool := decide (sc.kind = .function) && decide (sc.isCoroutine = false) && decide (sc.isGenerator = false) && decide (N.Nodup) && decide (N.take ps.length = ps) && ps.all (fun x => decide (sc.names.lookup x = some .local) || decide (sc.names.lookup x = some .cell)) && sc.names.all (fun y => !decide (y.2 = .free))
theorem scopeB_ok {N ps : List Str} {sc : Scope} (h : scopeB N ps sc = true) : FnScope N ps sc := by
  unfold scopeB at h
  simp only [Bool.and_eq_true, decide_eq_true_eq, List.all_eq_true, Bool.or_eq_true, Bool.not_eq_true', decide_eq_false_iff_not] at h
  obtain ⟨⟨⟨⟨⟨⟨h1, h2⟩, h3⟩, h4⟩, h5⟩, h6⟩, h7⟩ := h
  exact ⟨h1, h2, h3, h4, h5, h6, h7⟩
def argsB (ps : List Str) : Arguments → Bool
  | ⟨[], as, none, [], [], none, []⟩ => decide (as.map (·.arg) = ps)
  | _ => false
/-- a call gives every parameter its argument -/
def BindNm (ps : List Str) : Prop := ∀ (x qual : Str) (as : List Arg) (bd : List Stmt) (sc : Scope) (kV doc pm : Value) (an : Option Addr) (cdv ct : Value), as.map (·.arg) = ps → ∀ us : List Value, us.length = ps.length →
  bindArgs (PySem.W.fnOf x qual ⟨[], as, none, [], [], none, []⟩ bd sc .none kV doc pm an cdv ct) ⟨us, []⟩ = pure (ps.zip us)
theorem bind_pl {x qual : Str} {ps : List Str} {params : Arguments} {bd : List Stmt} {sc : Scope} (bn : BindNm ps) (h : argsB ps params = true) (kV doc pm : Value) (an : Option Addr) (cdv ct : Value) (us : List Value) (hl : us.length = ps.length) :
    bindArgs (PySem.W.fnOf x qual params bd sc .none kV doc pm an cdv ct) ⟨us, []⟩ = pure (ps.zip us) := by
  unfold argsB at h
  split at h
  · exact bn x qual _ bd sc kV doc pm an cdv ct (of_decide_eq_true h) us hl
  · cases h
def okDef (G : Gb) (d : DefX) : Bool := (!d.cl || (decide (d.ps ≠ []) && decide (d.io = none) && d.nw)) && scopeB d.N d.ps (defScope d.st) && argsB d.ps (defArgs d.st) && chkSs G d.N (defScope d.st) d.mo d.body (defBody d.st)
def okDefs (G : Gb) : List DefX → Bool
  | [] => true
  | d :: r => okDef G d && okDefs (addF G d) r
theorem MdOk.up {P : Program} {w : World} {K : PySem.W.Frag} {mg : Str → Option Value} {base : Heap} {G : Gb} {k : Nat} {F : FnE} (hm : MdOk P w K mg base G k) (hF : ∃ f fd ps, ps.length = F.ar ∧ FnOk P w K mg base (L2.CX P w) (k + 1) f fd ps (spOf F.nw K mg G.excs ps.length F.phi) ∧ mg F.name = some (.ref f) ∧ PySem.W.keepIn K (.ref f) = true ∧ Binds K fd ps []) :
    MdOk P w K mg base { G with fns := G.fns ++ [F] } (k + 1) where
  blt := hm.blt
  cst := hm.cst
  exc := hm.exc
  xc := hm.xc
  xg := hm.xg
  xx := hm.xx
  mks := fun j F h => by
    obtain ⟨C, f, fd, ps, kk, h1, h2⟩ := hm.mks j F h
    exact ⟨C, f, fd, ps, kk, by omega, h2⟩
  ios := fun j F h => by
    obtain ⟨f, fd, ps, kk, h1, h2⟩ := hm.ios j F h
    exact ⟨f, fd, ps, kk, by omega, h2⟩
  fns := fun j F' h => by
    by_cases hj : j < G.fns.length
    · have h' : G.fns[j]? = some F' := by
        rw [← h]
        exact (List.getElem?_append_left hj).symm
      obtain ⟨f, fd, ps, kk, h1, h2⟩ := hm.fns j F' h'
      exact ⟨f, fd, ps, kk, by omega, h2⟩
    · have h' : (G.fns ++ [F])[j]? = some F' := h
      rw [List.getElem?_append_right (by omega)] at h'
      have e : j - G.fns.length = 0 := by
        by_cases e : j - G.fns.length = 0
        · exact e
        · rw [List.getElem?_eq_none (by simp; omega)] at h'
          cases h'
      rw [e] at h'
      cases h'
      obtain ⟨f, fd, ps, h1, h2⟩ := hF
      exact ⟨f, fd, ps, k + 1, Nat.le_refl _, h1, h2⟩
theorem MdOk.upI {P : Program} {w : World} {K : PySem.W.Frag} {mg : Str → Option Value} {base : Heap} {G : Gb} {k : Nat} {F : FnI} (hm : MdOk P w K mg base G k) (hF : ∃ f fd ps, ps.length = F.ar ∧ FnOk P w K mg base (L2.CX P w) (k + 1) f fd ps (spIO K ps.length F.at_ F.phi) ∧ mg F.name = some (.ref f) ∧ PySem.W.keepIn K (.ref f) = true ∧ Binds K fd ps []) :
    MdOk P w K mg base { G with ios := G.ios ++ [F] } (k + 1) where
  blt := hm.blt
  cst := hm.cst
  exc := hm.exc
  xc := hm.xc
  xg := hm.xg
  xx := hm.xx
  mks := fun j F h => by
    obtain ⟨C, f, fd, ps, kk, h1, h2⟩ := hm.mks j F h
    exact ⟨C, f, fd, ps, kk, by omega, h2⟩
  fns := fun j F h => by
    obtain ⟨f, fd, ps, kk, h1, h2⟩ := hm.fns j F h
    exact ⟨f, fd, ps, kk, by omega, h2⟩
  ios := fun j F' h => by
    by_cases hj : j < G.ios.length
    · have h' : G.ios[j]? = some F' := by
        rw [← h]
        exact (List.getElem?_append_left hj).symm
      obtain ⟨f, fd, ps, kk, h1, h2⟩ := hm.ios j F' h'
      exact ⟨f, fd, ps, kk, by omega, h2⟩
    · have h' : (G.ios ++ [F])[j]? = some F' := h
      rw [List.getElem?_append_right (by omega)] at h'
      have e : j - G.ios.length = 0 := by
        by_cases e : j - G.ios.length = 0
        · exact e
        · rw [List.getElem?_eq_none (by simp; omega)] at h'
          cases h'
      rw [e] at h'
      cases h'
      obtain ⟨f, fd, ps, h1, h2⟩ := hF
      exact ⟨f, fd, ps, k + 1, Nat.le_refl _, h1, h2⟩
theorem MdOk.upM {P : Program} {w : World} {K : PySem.W.Frag} {mg : Str → Option Value} {base : Heap} {G : Gb} {k : Nat} {F : FnE} (hm : MdOk P w K mg base G k) (hF : ∃ C f fd ps, ps.length = F.ar + 1 ∧ Mk K C f ∧ FnOk P w K mg base (L2.CX P w) (k + 1) f fd ps (spIn K mg G.excs ps.length F.phi) ∧ mg F.name = some (.ref C) ∧ Binds K fd ps []) :
    MdOk P w K mg base { G with mks := G.mks ++ [F] } (k + 2) where
  blt := hm.blt
  cst := hm.cst
  exc := hm.exc
  xc := hm.xc
  xg := hm.xg
  xx := hm.xx
  ios := fun j F h => by
    obtain ⟨f, fd, ps, kk, h1, h2⟩ := hm.ios j F h
    exact ⟨f, fd, ps, kk, by omega, h2⟩
  fns := fun j F h => by
    obtain ⟨f, fd, ps, kk, h1, h2⟩ := hm.fns j F h
    exact ⟨f, fd, ps, kk, by omega, h2⟩
  mks := fun j F' h => by
    by_cases hj : j < G.mks.length
    · have h' : G.mks[j]? = some F' := by
        rw [← h]
        exact (List.getElem?_append_left hj).symm
      obtain ⟨C, f, fd, ps, kk, h1, h2⟩ := hm.mks j F' h'
      exact ⟨C, f, fd, ps, kk, by omega, h2⟩
    · have h' : (G.mks ++ [F])[j]? = some F' := h
      rw [List.getElem?_append_right (by omega)] at h'
      have e : j - G.mks.length = 0 := by
        by_cases e : j - G.mks.length = 0
        · exact e
        · rw [List.getElem?_eq_none (by simp; omega)] at h'
          cases h'
      rw [e] at h'
      cases h'
      obtain ⟨C, f, fd, ps, h1, h2⟩ := hF
      exact ⟨C, f, fd, ps, k + 1, Nat.le_refl _, h1, h2⟩
section
variable {P : Program} {w : World} {K : PySem.W.Frag} {mg : Str → Option Value} {base : Heap}
def HasFn (K : PySem.W.Frag) (mg : Str → Option Value) (d : DefX) : Prop := (d.cl = false → ∃ f fd, FunD K d.nm d.nm (defArgs d.st) (defBody d.st) (defScope d.st) [] [] f fd ∧ mg d.nm = some (.ref f)) ∧
  (d.cl = true → ∃ C f fd, Mk K C f ∧ FunD K "__init__" (d.nm ++ ".__init__") (defArgs d.st) (defBody d.st) (defScope d.st) [] [] f fd ∧ mg d.nm = some (.ref C))
/-- how deep the calls go -/
def dep : List DefX → Nat
  | [] => 0
  | d :: r => (match d.cl with
    | true => 2
    | false => 1) + dep r
theorem def_ok {G : Gb} {k : Nat} {d : DefX} (hio : d.io = none) (bn : BindNm d.ps) (hm : MdOk P w K mg base G k) (h : okDef G d = true) {f : Addr} {fd : FuncData} (F : FunD K d.nm d.nm (defArgs d.st) (defBody d.st) (defScope d.st) [] [] f fd) :
    FnOk P w K mg base (L2.CX P w) (k + 1) f fd d.ps (spOf d.nw K mg G.excs d.ps.length (d.fn G).phi) ∧ Binds K fd d.ps [] := by
  unfold okDef DefX.mo at h
  rw [hio] at h
  simp only [Bool.and_eq_true] at h
  exact ⟨fn_sndD F (scopeB_ok h.1.1.2) hm h.2, F.bindsN fun kV doc pm an cdv ct us hl => bind_pl bn h.1.2 kV doc pm an cdv ct us hl⟩
theorem def_okI {G : Gb} {k kio : Nat} {d : DefX} (hio : d.io = some kio) (bn : BindNm d.ps) (hm : MdOk P w K mg base G k) (h : okDef G d = true) {f : Addr} {fd : FuncData} (F : FunD K d.nm d.nm (defArgs d.st) (defBody d.st) (defScope d.st) [] [] f fd) :
    FnOk P w K mg base (L2.CX P w) (k + 1) f fd d.ps (spIO K d.ps.length kio (d.fnI G kio).phi) ∧ Binds K fd d.ps [] := by
  unfold okDef DefX.mo at h
  rw [hio] at h
  simp only [Bool.and_eq_true] at h
  exact ⟨fn_sndI F (scopeB_ok h.1.1.2) hm h.2, F.bindsN fun kV doc pm an cdv ct us hl => bind_pl bn h.1.2 kV doc pm an cdv ct us hl⟩
theorem def_okM {G : Gb} {k : Nat} {d : DefX} (hcl : d.cl = true) (bn : BindNm d.ps) (hm : MdOk P w K mg base G k) (h : okDef G d = true) {x qual : Str} {f : Addr} {fd : FuncData} (F : FunD K x qual (defArgs d.st) (defBody d.st) (defScope d.st) [] [] f fd) :
    FnOk P w K mg base (L2.CX P w) (k + 1) f fd d.ps (spIn K mg G.excs d.ps.length (d.fnM G).phi) ∧ d.ps.length = (d.fnM G).ar + 1 ∧ Binds K fd d.ps [] := by
  unfold okDef at h
  rw [hcl] at h
  simp only [Bool.not_true, Bool.false_or, Bool.and_eq_true, decide_eq_true_eq] at h
  obtain ⟨⟨⟨⟨⟨h1, h2⟩, h3⟩, h4⟩, h5⟩, h6⟩ := h
  have hmo : d.mo = ⟨true, none⟩ := by
    unfold DefX.mo
    rw [h2, h3]
  rw [hmo] at h6
  refine ⟨fn_sndM F (scopeB_ok h4) h1 hm h6, ?_, F.bindsN fun kV doc pm an cdv ct us hl => bind_pl bn h5 kV doc pm an cdv ct us hl⟩
  have := List.length_pos_iff.mpr h1
  show d.ps.length = d.ps.length - 1 + 1
  omega
theorem md_all : ∀ {ds : List DefX} {G : Gb} {k : Nat}, MdOk P w K mg base G k → okDefs G ds = true → (∀ d ∈ ds, HasFn K mg d) → (∀ d ∈ ds, BindNm d.ps) → MdOk P w K mg base (gbOf G ds) (k + dep ds)
  | [], G, k, hm, _, _, _ => hm
  | d :: r, G, k, hm, h, hf, hb => by
    unfold okDefs at h
    simp only [Bool.and_eq_true] at h
    have hfd := hf d List.mem_cons_self
    cases hcl : d.cl with
    | false =>
      obtain ⟨f, fd, F, m⟩ := hfd.1 hcl
      have hup : MdOk P w K mg base (addF G d) (k + 1) := by
        unfold addF
        rw [hcl]
        cases hio : d.io with
        | none =>
          obtain ⟨o, b⟩ := def_ok hio (hb d List.mem_cons_self) hm h.1 F
          exact hm.up (F := d.fn G) ⟨f, fd, d.ps, rfl, o, m, F.kp, b⟩
        | some kio =>
          obtain ⟨o, b⟩ := def_okI hio (hb d List.mem_cons_self) hm h.1 F
          exact hm.upI (F := d.fnI G kio) ⟨f, fd, d.ps, rfl, o, m, F.kp, b⟩
      have z := md_all (ds := r) hup h.2 (fun e he => hf e (List.mem_cons_of_mem _ he)) (fun e he => hb e (List.mem_cons_of_mem _ he))
      have e0 : dep (d :: r) = (match d.cl with | true => 2 | false => 1) + dep r := rfl
      have e : k + dep (d :: r) = k + 1 + dep r := by
        rw [e0, hcl]
        dsimp only
        omega
      rw [e]
      exact z
    | true =>
      obtain ⟨C, f, fd, M, F, m⟩ := hfd.2 hcl
      have hup : MdOk P w K mg base (addF G d) (k + 2) := by
        unfold addF
        rw [hcl]
        obtain ⟨o, hl, b⟩ := def_okM hcl (hb d List.mem_cons_self) hm h.1 F
        exact hm.upM (F := d.fnM G) ⟨C, f, fd, d.ps, hl, M, o, m, b⟩
      have z := md_all (ds := r) hup h.2 (fun e he => hf e (List.mem_cons_of_mem _ he)) (fun e he => hb e (List.mem_cons_of_mem _ he))
      have e0 : dep (d :: r) = (match d.cl with | true => 2 | false => 1) + dep r := rfl
      have e : k + dep (d :: r) = k + 2 + dep r := by
        rw [e0, hcl]
        dsimp only
        omega
      rw [e]
      exact z
end
/-! ### the module's facts -/
structure Md where
  csts : List (Str × Cst)
  excs : List Str
  rz : List Bool
  tab : List (List Bool)
def Md.sub (M : Md) : Sub := fun i j => (M.tab.getD i []).getD j false
def Md.gb (M : Md) : Gb := ⟨M.csts, M.excs, M.rz, M.sub, [], [], []⟩
def rzd : List Str → List Bool → List Str
  | x :: xs, b :: bs => if b = true then x :: rzd xs bs else rzd xs bs
  | _, _ => []
def Md.fa (M : Md) (names : List Str) : List He.Fa := bltNames.map .free ++ M.csts.filterMap (fun q => match q.2 with
  | .int i => some (.int q.1 i)
  | .str s => some (.str q.1 s)
  | _ => none) ++ M.excs.map .glo ++ (rzd M.excs M.rz).map .exc ++ names.map .glo
def excB (K : PySem.W.Frag) (D : Addr) : Bool := decide (PySem.W.findIn K (.ref D) "__getattribute__" = some (some (.builtin "BaseException.__getattribute__"))) && decide (PySem.W.findIn K (.ref D) "__getattr__" = some none) && decide (PySem.W.subIn K (.ref D) (.type "BaseException") = some true) && PySem.W.hasDictIn K D && decide (PySem.W.findIn K (.ref D) "__class__" = some (some (.builtin "object.__class__"))) && decide (PySem.W.specialIn K (.builtin "object.__class__") "__get__" = some (some (.builtin "getset_descriptor.__get__"))) && decide (PySem.W.takesIn K (.builtin "object.__class__") = some true) && decide (PySem.W.mroIn K D (.type "object") = some true)
theorem excB_ok {K : PySem.W.Frag} {D : Addr} (h : excB K D = true) : ExcC K D := by
  unfold excB at h
  simp only [Bool.and_eq_true, decide_eq_true_eq] at h
  obtain ⟨⟨⟨⟨⟨⟨⟨h1, h2⟩, h3⟩, h4⟩, h5⟩, h6⟩, h7⟩, h8⟩ := h
  exact ⟨h1, h2, h3, h4, h5, h6, h7, h8⟩
def cstB (M : Md) : Bool := M.csts.all fun q => match q.2 with
  | .int _ => true
  | .str _ => true
  | _ => false
def Md.ex (M : Md) (K : PySem.W.Frag) : Bool := cstB M && (M.excs.all fun x => excB K (He.ga K x)) && ((List.range M.excs.length).all fun j => (List.range M.excs.length).all fun l => match M.excs[j]?, M.excs[l]? with
  | some x, some y => decide (PySem.W.exmOne K (.ref (He.ga K x)) (.ref (He.ga K y)) = some (M.sub j l)) && decide (PySem.W.kitOne K (.ref (He.ga K x)) (.ref (He.ga K y)) = some (M.sub j l))
  | _, _ => false) && (K.all fun q => !decide (q.2.cls = .type "list"))
theorem rzd_mem : ∀ {xs : List Str} {bs : List Bool} {j : Nat} {x : Str}, xs[j]? = some x → bs[j]? = some true → x ∈ rzd xs bs
  | [], _, _, _, h, _ => by simp at h
  | _ :: _, [], _, _, _, h => by simp at h
  | y :: xs, b :: bs, 0, x, h1, h2 => by
    simp at h1 h2
    subst h1 h2
    simp [rzd]
  | y :: xs, b :: bs, j + 1, x, h1, h2 => by
    have z := rzd_mem (xs := xs) (bs := bs) (j := j) (by simpa using h1) (by simpa using h2)
    unfold rzd
    split
    · exact List.mem_cons_of_mem _ z
    · exact z
section
variable {P : Program} {w : World} {K : PySem.W.Frag} {mg : Str → Option Value} {base h : Heap} {M : Md} {names : List Str} {fn : List He.DefD}
theorem md_base (X : K.In h) (G : h.Ns mainGlobals mg) (fc : ∀ f, f ∈ M.fa names → f.ok K = true) (e : M.ex K = true) : MdOk P w K mg base M.gb 0 := by
  unfold Md.ex at e
  simp only [Bool.and_eq_true] at e
  obtain ⟨⟨⟨e1, e2⟩, e3⟩, e4⟩ := e
  have gx : ∀ x, x ∈ M.excs → mg x = some (.ref (He.ga K x)) := fun x hx => He.glo_ok X G (fc (.glo x) (by unfold Md.fa; simp [hx]))
  refine ⟨fun x hx => He.free_ok X G (fc (.free x) (by unfold Md.fa; simp [hx])), ?_, ?_, ?_, ?_, ?_, ?_, ?_, ?_⟩
  · intro j z k hj
    have hm := List.mem_of_getElem? hj
    have e1' := List.all_eq_true.mp e1 _ hm
    cases k with
    | int i =>
      obtain ⟨t, ht⟩ := He.int_ok X G (x := z) (i := i) (fc (.int z i) (by
        unfold Md.fa
        simp only [List.mem_append, List.mem_filterMap]
        exact .inl (.inl (.inl (.inr ⟨_, hm, rfl⟩)))))
      exact ⟨_, ht, ⟨t, rfl⟩⟩
    | str s =>
      obtain ⟨t, ht⟩ := He.str_ok X G (x := z) (z := s) (fc (.str z s) (by
        unfold Md.fa
        simp only [List.mem_append, List.mem_filterMap]
        exact .inl (.inl (.inl (.inr ⟨_, hm, rfl⟩)))))
      exact ⟨_, ht, ⟨t, rfl⟩⟩
    | none => cases e1'
    | bool b => cases e1'
  · intro j x hj hr
    have hm := List.mem_of_getElem? hj
    exact ⟨_, gx x hm, He.exc_ok (fc (.exc x) (by
      unfold Md.fa
      simp only [List.mem_append, List.mem_map]
      exact .inl (.inr ⟨x, rzd_mem hj hr, rfl⟩)))⟩
  · intro j x C hj hC
    have hm := List.mem_of_getElem? hj
    rw [gx x hm] at hC
    cases hC
    exact excB_ok (List.all_eq_true.mp e2 x hm)
  · intro j x hj
    exact ⟨_, gx x (List.mem_of_getElem? hj)⟩
  · intro j l x y C D hj hl hC hD
    rw [gx x (List.mem_of_getElem? hj)] at hC
    rw [gx y (List.mem_of_getElem? hl)] at hD
    cases hC
    cases hD
    have lt : ∀ {xs : List Str} {j : Nat} {x : Str}, xs[j]? = some x → j ∈ List.range xs.length := fun {xs j x} h => by
      rw [List.mem_range]
      by_cases hj : j < xs.length
      · exact hj
      · rw [List.getElem?_eq_none (by omega)] at h
        cases h
    have z := List.all_eq_true.mp (List.all_eq_true.mp e3 j (lt hj)) l (lt hl)
    have hj' : M.excs[j]? = some x := hj
    have hl' : M.excs[l]? = some y := hl
    rw [hj', hl'] at z
    simp only [Bool.and_eq_true, decide_eq_true_eq] at z
    exact z
  · intro j F hj
    simp [Md.gb] at hj
  · intro j F hj
    simp [Md.gb] at hj
  · intro j F hj
    simp [Md.gb] at hj
theorem no_list (e : M.ex K = true) {a : Addr} {o : Obj} (h : K.lookup a = some o) : o.cls ≠ .type "list" := by
  unfold Md.ex at e
  simp only [Bool.and_eq_true] at e
  have z := List.all_eq_true.mp e.2 _ (He.lookup_mem h)
  intro hc
  simp [hc] at z
def defD (d : DefX) : He.DefD := match d.cl with
  | false => ⟨(d.nm, none), d.nm, d.nm, defArgs d.st, defBody d.st, defScope d.st, [], []⟩
  | true => ⟨(d.nm, some "__init__"), "__init__", d.nm ++ ".__init__", defArgs d.st, defBody d.st, defScope d.st, [], []⟩
def faX (M : Md) (ds : List DefX) : List He.Fa := M.fa (ds.map (·.nm)) ++ (ds.filter (·.cl)).map fun d => .mkr d.nm
theorem hasFn (X : K.In h) (G : h.Ns mainGlobals mg) (ds : List DefX) (c : He.SaysD (faX M ds) (ds.map defD) K) : ∀ d ∈ ds, (d.cl = false → ∃ fd, FunD K d.nm d.nm (defArgs d.st) (defBody d.st) (defScope d.st) [] [] (He.ga K d.nm) fd ∧ mg d.nm = some (.ref (He.ga K d.nm))) ∧ HasFn K mg d := fun d hd => by
  obtain ⟨fd, F⟩ := c.defs (d := defD d) (List.mem_map.mpr ⟨d, hd, rfl⟩)
  have m : mg d.nm = some (.ref (He.ga K d.nm)) := He.glo_ok X G (c.facts (f := .glo d.nm) (by
    unfold faX Md.fa
    simp only [List.mem_append, List.mem_map]
    exact .inl (.inr ⟨d.nm, ⟨d, hd, rfl⟩, rfl⟩)))
  have k1 : d.cl = false → ∃ fd, FunD K d.nm d.nm (defArgs d.st) (defBody d.st) (defScope d.st) [] [] (He.ga K d.nm) fd ∧ mg d.nm = some (.ref (He.ga K d.nm)) := fun hc => by
    unfold defD at F
    rw [hc] at F
    exact ⟨fd, F, m⟩
  refine ⟨k1, fun hc => ?_, fun hc => ?_⟩
  · obtain ⟨fd, F, m⟩ := k1 hc
    exact ⟨_, fd, F, m⟩
  · unfold defD at F
    rw [hc] at F
    exact ⟨_, _, fd, He.mkr_ok (c.facts (f := .mkr d.nm) (by
      unfold faX
      simp only [List.mem_append, List.mem_map]
      exact .inr ⟨d, List.mem_filter.mpr ⟨hd, hc⟩, rfl⟩)), F, m⟩
end
/-- THE END: a law by its defs -/
theorem law_end {l : PySem.W.OpenLaw} {M : Md} {ds : List DefX} {lw : DefX} {x : Str} {n : Nat} {w : World} {mg : Str → Option Value} {fa : Addr} {h : Heap} {k : Nat}
    (Y : ∃ K : PySem.W.Frag, K.In h ∧ He.SaysX (faX M (ds ++ [lw])) ((ds ++ [lw]).map defD) [] [] M.ex w h K) (G : h.Ns mainGlobals mg) (hmg : mg lw.nm = some (.ref fa)) (hlio : lw.io = none) (hlcl : lw.cl = false) (hp : lw.ps = [x]) (hk : dep ds + 1 = k)
    (ok : okDefs M.gb (ds ++ [lw]) = true) (hbn : ∀ d ∈ ds ++ [lw], BindNm d.ps) (hf : (∀ ns : List Int, ns.length ≤ n → ((lw.fn (gbOf M.gb ds)).phi [.list (ns.map .int)]) = some (.ok (.bool true)))) :
    ∃ (K : PySem.W.Frag) (fd : FuncData) (sp : Sp), K.In h ∧ (∀ (s : Shared) (u : Value), BindsTo s fd ⟨[u], []⟩ [(x, u)]) ∧
        (∀ (H : Hp) (a : Addr) (ns : List Int), ns.length ≤ n → Only H → SqL K H a (ns.map V.int) → sp [.ref a] H (fun v _ => v = .bl true) fun _ _ _ => False) ∧
        ∀ base : Heap, K.In base → base.Ns mainGlobals mg → FnOk l.prog w K mg base CX0 k fa fd [x] sp := by
  obtain ⟨K, KX, c⟩ := Y
  have hfn := hasFn KX G (ds ++ [lw]) c.t.d
  obtain ⟨fd, F, m⟩ := (hfn lw (by simp)).1 hlcl
  rw [hmg] at m
  cases m
  have okk : ∀ (ds : List DefX) (G : Gb), okDefs G (ds ++ [lw]) = true → okDefs G ds = true ∧ okDef (gbOf G ds) lw = true := by
    intro ds
    induction ds with
    | nil =>
      intro G h
      have h' : (okDef G lw && okDefs (addF G lw) []) = true := h
      rw [Bool.and_eq_true] at h'
      exact ⟨rfl, h'.1⟩
    | cons d r ih =>
      intro G h
      rw [List.cons_append] at h
      unfold okDefs at h
      simp only [Bool.and_eq_true] at h
      obtain ⟨h2, h3⟩ := ih (addF G d) h.2
      refine ⟨?_, h3⟩
      unfold okDefs
      simp [h.1, h2]
  obtain ⟨ok1, ok2⟩ := okk ds M.gb ok
  have hargs : argsB lw.ps (defArgs lw.st) = true := by
    unfold okDef at ok2
    simp only [Bool.and_eq_true] at ok2
    exact ok2.1.2
  have b := FunD.bindsA (ps := lw.ps) F fun kV doc pm an cdv ct us hl => bind_pl (hbn lw (by simp)) hargs kV doc pm an cdv ct us hl
  have base_ok : ∀ base : Heap, FnOk l.prog w K mg base (L2.CX l.prog w) k (He.ga K lw.nm) fd [x] (spOf lw.nw K mg (gbOf M.gb ds).excs 1 (lw.fn (gbOf M.gb ds)).phi) := fun base => by
    have m0 : MdOk l.prog w K mg base M.gb 0 := md_base KX G (fun f hf => c.t.d.facts (by unfold faX; exact List.mem_append_left _ hf)) c.more
    have m1 := md_all m0 ok1 (fun d hd => (hfn d (by simp [hd])).2) (fun d hd => hbn d (by simp [hd]))
    have z := (def_ok hlio (hbn lw (by simp)) m1 ok2 F).1
    rw [← hk]
    rw [hp] at z
    simpa using z
  refine ⟨K, fd, fun vs H Q E => ∃ (a : Addr) (ns : List Int), vs = [.ref a] ∧ ns.length ≤ n ∧ SqL K H a (ns.map V.int) ∧ ∀ H', Q (.bl true) H', KX, fun s u => ?_, ?_, ?_⟩
  · have z := b s [u] (by rw [hp]; rfl)
    rw [hp] at z
    exact z
  · intro H a ns hl _ hs
    exact ⟨a, ns, rfl, hl, hs, fun _ => rfl⟩
  · intro base _ _
    refine ⟨?_, ?_⟩
    · intro vs H Q E h
      obtain ⟨a, ns, rfl, _⟩ := h
      rfl
    · intro A outer s H args us vs Q E hr he hb hv hs
      obtain ⟨a, ns, rfl, hl, hS, hQ⟩ := hs
      have hR : Rd H a (.lst (ns.map V.int)) := by
        rcases hS with r | ⟨o, its, q, h1, h2, _⟩
        · exact r
        · exact absurd h2 (no_list c.more h1)
      have sp0 : spOf lw.nw K mg (gbOf M.gb ds).excs 1 (lw.fn (gbOf M.gb ds)).phi [.ref a] H (fun v _ => v = .bl true) (fun _ _ _ => False) := by
        refine ⟨rfl, H, [.list (ns.map .int)], Same.refl _, .cons (.inl (.lst hR (dds_ints ns))) .nil, ?_⟩
        rw [hf ns hl]
        intro v H0' H' _ z
        rcases z with ⟨z, _⟩ | ⟨_, _, mo, _⟩
        · cases z
          rfl
        · cases mo
      refine codeAny_mono ((base_ok base).run A outer s H args us [.ref a] _ _ hr he hb hv sp0) fun r s' hq => ?_
      match r, hq with
      | .ok (.ret u), hq =>
        obtain ⟨v, H', q1, q2, q3, q4, q5, q6⟩ := hq
        exact ⟨v, H', q1, q2, q3, q4, q5, by rw [q6]; exact hQ H'⟩
      | .error e, hq =>
        obtain ⟨_, _, _, _, _, _, _, _, _, _, _, _, z⟩ := hq
        exact z.elim
end
end DD

namespace DD
noncomputable section
open PySem PySem.Spec PyProof.Rows L2
def b_law_cell : Ss := (.cons (.ifS (.cmp .lt (.var 1) (.blt .len (.cons (.var 0) .nil))) (.cons (.ret (.idx (.var 0) (.var 1))) .nil) .nil) (.cons (.ret (.cst (.int 0))) .nil))
def b_law_row (c_law_cell : Nat) : Ss := (.cons (.dat 2 (.call c_law_cell (.cons (.var 0) (.cons (.var 1) .nil)))) (.cons (.own 3 (.lst .nil)) (.cons (.forS (.one 4) (.rng (.cons (.cst (.int 60)) .nil)) (.cons (.ifS (.cmp .lt (.call c_law_cell (.cons (.var 0) (.cons (.var 1) .nil))) (.op .pow (.cst (.int 10)) (.cst (.int 18)))) (.cons (.dat 2 (.op .mod (.op .add (.op .add (.op .add (.op .mul (.var 2) (.cst (.int 48271))) (.op .mul (.cst (.int 131)) (.var 4))) (.cst (.int 7))) (.call c_law_cell (.cons (.var 0) (.cons (.op .mod (.op .add (.op .add (.var 1) (.cst (.int 1))) (.var 4)) (.cst (.int 20))) .nil)))) (.cst (.int 2147483647)))) (.cons (.app 3 (.op .mod (.op .fdiv (.var 2) (.cst (.int 11))) (.cst (.int 1000)))) .nil)) (.cons (.app 3 (.op .mod (.var 2) (.cst (.int 1000)))) (.cons (.dat 2 (.op .fdiv (.var 2) (.cst (.int 1000)))) .nil))) .nil)) (.cons (.ret (.var 3)) .nil))))
def b_law_building (c_law_row : Nat) : Ss := (.cons (.dat 4 (.call c_law_row (.cons (.var 0) (.cons (.var 1) .nil)))) (.cons (.dat 5 (.op .add (.cst (.int 1)) (.op .mod (.idx (.var 4) (.cst (.int 0))) (.var 2)))) (.cons (.own 6 (.lst .nil)) (.cons (.ifS (.cmp .gt (.var 5) (.cst (.int 1))) (.cons (.forS (.one 7) (.rng (.cons (.op .mod (.idx (.var 4) (.cst (.int 1))) (.op .add (.var 3) (.cst (.int 1)))) .nil)) (.cons (.dat 8 (.op .mod (.idx (.var 4) (.op .add (.cst (.int 2)) (.op .mul (.cst (.int 3)) (.var 7)))) (.var 5))) (.cons (.dat 9 (.op .mod (.op .add (.op .add (.var 8) (.cst (.int 1))) (.op .mod (.idx (.var 4) (.op .add (.cst (.int 3)) (.op .mul (.cst (.int 3)) (.var 7)))) (.op .sub (.var 5) (.cst (.int 1))))) (.var 5))) (.cons (.ifS (.idx (.lst (.cons (.cst (.bool true)) (.cons (.cst (.bool false)) (.cons (.cmp .eq (.op .mod (.idx (.var 4) (.op .add (.cst (.int 4)) (.op .mul (.cst (.int 3)) (.var 7)))) (.cst (.int 2))) (.cst (.int 0))) .nil)))) (.op .mod (.idx (.var 4) (.cst (.int 40))) (.cst (.int 3)))) (.cons (.app 6 (.tup (.cons (.blt .min (.cons (.var 8) (.cons (.var 9) .nil))) (.cons (.blt .max (.cons (.var 8) (.cons (.var 9) .nil))) (.cons (.cst (.str "two-way")) .nil))))) .nil) (.cons (.app 6 (.tup (.cons (.var 8) (.cons (.var 9) (.cons (.cst (.str "one-way")) .nil))))) .nil)) .nil)))) .nil) .nil) (.cons (.ret (.tup (.cons (.var 5) (.cons (.blt .tuple (.cons (.var 6) .nil)) .nil)))) .nil)))))
def b_law_side : Ss := (.cons (.tgt (.many (.cons (.one 3) (.cons (.one 4) (.cons (.one 5) .nil)))) (.idx (.idx (.var 0) (.cst (.int 1))) (.var 1))) (.cons (.ifS (.cmp .eq (.var 2) (.var 3)) (.cons (.ret (.var 4)) .nil) .nil) (.cons (.ret (.ifE (.and (.cons (.cmp .eq (.var 2) (.var 4)) (.cons (.cmp .eq (.var 5) (.cst (.str "two-way"))) .nil))) (.var 3) (.cst .none))) .nil)))
def b_law_walked (c_law_row c_law_side : Nat) : Ss := (.cons (.dat 4 (.call c_law_row (.cons (.var 0) (.cons (.var 1) .nil)))) (.cons (.dat 5 (.op .mod (.idx (.var 4) (.cst (.int 0))) (.idx (.var 2) (.cst (.int 0))))) (.cons (.dat 6 (.var 5)) (.cons (.own 7 (.lst .nil)) (.cons (.forS (.one 8) (.rng (.cons (.op .mod (.idx (.var 4) (.cst (.int 1))) (.op .add (.var 3) (.cst (.int 1)))) .nil)) (.cons (.dat 9 (.comp (.var 10) (.one 10) (.rng (.cons (.blt .len (.cons (.idx (.var 2) (.cst (.int 1))) .nil)) .nil)) (.yes (.notN (.call c_law_side (.cons (.var 2) (.cons (.var 10) (.cons (.var 6) .nil)))))) [("number", 10)])) (.cons (.ifS (.cmp .ne (.var 9) (.lst .nil)) (.cons (.dat 10 (.idx (.var 9) (.op .mod (.idx (.var 4) (.op .add (.cst (.int 2)) (.var 8))) (.blt .len (.cons (.var 9) .nil))))) (.cons (.app 7 (.var 10)) (.cons (.dat 6 (.call c_law_side (.cons (.var 2) (.cons (.var 10) (.cons (.var 6) .nil))))) .nil))) .nil) .nil))) (.cons (.ret (.tup (.cons (.var 5) (.cons (.blt .tuple (.cons (.var 7) .nil)) (.cons (.var 6) .nil))))) .nil))))))
def b_law_whole : Ss := (.cons (.ret (.and (.cons (.isi (.var 0) .int) (.cons (.not (.isi (.var 0) .bool)) .nil)))) .nil)
def b_law_in (c_law_whole : Nat) : Ss := (.cons (.ret (.and (.cons (.call c_law_whole (.cons (.var 0) .nil)) (.cons (.chain (.var 1) (.link .le (.var 0) (.last .le (.var 2)))) .nil)))) .nil)
def b_law_rooms (c_law_in c_law_side : Nat) : Ss := (.cons (.ifS (.or (.cons (.not (.isi (.var 1) .tuple)) (.cons (.cmp .ne (.blt .len (.cons (.var 1) .nil)) (.cst (.int 2))) (.cons (.not (.call c_law_in (.cons (.idx (.var 1) (.cst (.int 0))) (.cons (.cst (.int 0)) (.cons (.op .sub (.idx (.var 0) (.cst (.int 0))) (.cst (.int 1))) .nil))))) .nil)))) (.cons (.ret (.cst .none)) .nil) .nil) (.cons (.ifS (.or (.cons (.not (.isi (.idx (.var 1) (.cst (.int 1))) .tuple)) (.cons (.cmp .gt (.blt .len (.cons (.idx (.var 1) (.cst (.int 1))) .nil)) (.cst (.int 72))) .nil))) (.cons (.ret (.cst .none)) .nil) .nil) (.cons (.own 2 (.lst (.cons (.idx (.var 1) (.cst (.int 0))) .nil))) (.cons (.forS (.one 3) (.seq (.idx (.var 1) (.cst (.int 1)))) (.cons (.ifS (.not (.call c_law_in (.cons (.var 3) (.cons (.cst (.int 0)) (.cons (.op .sub (.blt .len (.cons (.idx (.var 0) (.cst (.int 1))) .nil)) (.cst (.int 1))) .nil))))) (.cons (.ret (.cst .none)) .nil) .nil) (.cons (.dat 4 (.call c_law_side (.cons (.var 0) (.cons (.var 3) (.cons (.idx (.var 2) (.neg (.cst (.int 1)))) .nil))))) (.cons (.ifS (.isN (.var 4)) (.cons (.ret (.cst .none)) .nil) .nil) (.cons (.app 2 (.var 4)) .nil))))) (.cons (.ret (.var 2)) .nil)))))
def b_in_range : Ss := (.cons (.ret (.and (.cons (.isi (.var 0) .int) (.cons (.not (.isi (.var 0) .bool)) (.cons (.chain (.var 1) (.link .le (.var 0) (.last .le (.var 2)))) .nil))))) .nil)
def b_is_door (g_TWO_WAY g_ONE_WAY c_in_range : Nat) : Ss := (.cons (.ifS (.or (.cons (.not (.isi (.var 1) .tuple)) (.cons (.cmp .ne (.blt .len (.cons (.var 1) .nil)) (.cst (.int 3))) (.cons (.cmp .notin (.idx (.var 1) (.cst (.int 2))) (.tup (.cons (.glb g_ONE_WAY) (.cons (.glb g_TWO_WAY) .nil)))) .nil)))) (.cons (.ret (.cst (.bool false))) .nil) .nil) (.cons (.ifS (.or (.cons (.not (.call c_in_range (.cons (.idx (.var 1) (.cst (.int 0))) (.cons (.cst (.int 0)) (.cons (.op .sub (.var 0) (.cst (.int 1))) .nil))))) (.cons (.not (.call c_in_range (.cons (.idx (.var 1) (.cst (.int 1))) (.cons (.cst (.int 0)) (.cons (.op .sub (.var 0) (.cst (.int 1))) .nil))))) .nil))) (.cons (.ret (.cst (.bool false))) .nil) .nil) (.cons (.ret (.ifE (.cmp .eq (.idx (.var 1) (.cst (.int 2))) (.glb g_ONE_WAY)) (.cmp .ne (.idx (.var 1) (.cst (.int 0))) (.idx (.var 1) (.cst (.int 1)))) (.cmp .lt (.idx (.var 1) (.cst (.int 0))) (.idx (.var 1) (.cst (.int 1)))))) .nil)))
def b_is_building (c_in_range g_MAX_ROOMS g_MAX_DOORS c_is_door : Nat) : Ss := (.cons (.ifS (.or (.cons (.not (.isi (.var 0) .tuple)) (.cons (.cmp .ne (.blt .len (.cons (.var 0) .nil)) (.cst (.int 2))) (.cons (.not (.call c_in_range (.cons (.idx (.var 0) (.cst (.int 0))) (.cons (.cst (.int 1)) (.cons (.glb g_MAX_ROOMS) .nil))))) .nil)))) (.cons (.ret (.cst (.bool false))) .nil) .nil) (.cons (.ifS (.or (.cons (.not (.isi (.idx (.var 0) (.cst (.int 1))) .tuple)) (.cons (.cmp .gt (.blt .len (.cons (.idx (.var 0) (.cst (.int 1))) .nil)) (.glb g_MAX_DOORS)) .nil))) (.cons (.ret (.cst (.bool false))) .nil) .nil) (.cons (.ret (.not (.comp (.var 1) (.one 1) (.seq (.idx (.var 0) (.cst (.int 1)))) (.yes (.not (.call c_is_door (.cons (.idx (.var 0) (.cst (.int 0))) (.cons (.var 1) .nil))))) [("door", 1)]))) .nil)))
def b_check_building (c_is_building x_InvalidBuilding : Nat) : Ss := (.cons (.ifS (.not (.call c_is_building (.cons (.var 0) .nil))) (.cons (.raise x_InvalidBuilding) .nil) .nil) .nil)
def b_other_side (g_TWO_WAY : Nat) : Ss := (.cons (.tgt (.many (.cons (.one 3) (.cons (.one 4) (.cons (.one 5) .nil)))) (.idx (.idx (.var 0) (.cst (.int 1))) (.var 1))) (.cons (.ifS (.cmp .eq (.var 2) (.var 3)) (.cons (.ret (.var 4)) .nil) .nil) (.cons (.ret (.ifE (.and (.cons (.cmp .eq (.var 2) (.var 4)) (.cons (.cmp .eq (.var 5) (.glb g_TWO_WAY)) .nil))) (.var 3) (.cst .none))) .nil)))
def b_trace (c_in_range g_MAX_STEPS c_other_side : Nat) : Ss := (.cons (.ifS (.or (.cons (.not (.isi (.var 1) .tuple)) (.cons (.cmp .ne (.blt .len (.cons (.var 1) .nil)) (.cst (.int 2))) (.cons (.not (.call c_in_range (.cons (.idx (.var 1) (.cst (.int 0))) (.cons (.cst (.int 0)) (.cons (.op .sub (.idx (.var 0) (.cst (.int 0))) (.cst (.int 1))) .nil))))) .nil)))) (.cons (.ret (.cst .none)) .nil) .nil) (.cons (.ifS (.or (.cons (.not (.isi (.idx (.var 1) (.cst (.int 1))) .tuple)) (.cons (.cmp .gt (.blt .len (.cons (.idx (.var 1) (.cst (.int 1))) .nil)) (.glb g_MAX_STEPS)) .nil))) (.cons (.ret (.cst .none)) .nil) .nil) (.cons (.own 2 (.lst (.cons (.idx (.var 1) (.cst (.int 0))) .nil))) (.cons (.forS (.one 3) (.seq (.idx (.var 1) (.cst (.int 1)))) (.cons (.ifS (.not (.call c_in_range (.cons (.var 3) (.cons (.cst (.int 0)) (.cons (.op .sub (.blt .len (.cons (.idx (.var 0) (.cst (.int 1))) .nil)) (.cst (.int 1))) .nil))))) (.cons (.ret (.cst .none)) .nil) .nil) (.cons (.dat 4 (.call c_other_side (.cons (.var 0) (.cons (.var 3) (.cons (.idx (.var 2) (.neg (.cst (.int 1)))) .nil))))) (.cons (.ifS (.isN (.var 4)) (.cons (.ret (.cst .none)) .nil) .nil) (.cons (.app 2 (.var 4)) .nil))))) (.cons (.ret (.var 2)) .nil)))))
def b_checked_rooms (c_trace x_InvalidWalk : Nat) : Ss := (.cons (.dat 2 (.call c_trace (.cons (.var 0) (.cons (.var 1) .nil)))) (.cons (.ifS (.isN (.var 2)) (.cons (.raise x_InvalidWalk) .nil) .nil) (.cons (.ret (.var 2)) .nil)))
def b_law_moves (c_law_rooms : Nat) : Ss := (.cons (.par false 4 (.call c_law_rooms (.cons (.var 0) (.cons (.var 1) .nil))) false 5 (.idx (.var 1) (.cst (.int 1)))) (.cons (.own 2 (.lst .nil)) (.cons (.forS (.one 3) (.rng (.cons (.blt .len (.cons (.var 4) .nil)) .nil)) (.cons (.forS (.one 6) (.rng (.cons (.op .add (.var 3) (.cst (.int 1))) (.cons (.blt .len (.cons (.var 4) .nil)) .nil))) (.cons (.dat 7 (.slc (.var 5) (.yes (.var 3)) (.yes (.var 6)))) (.cons (.ifS (.and (.cons (.cmp .eq (.idx (.var 4) (.var 3)) (.idx (.var 4) (.var 6))) (.cons (.cmp .eq (.comp (.var 11) (.one 11) (.seq (.var 7)) (.yes (.cmp .eq (.idx (.idx (.idx (.var 0) (.cst (.int 1))) (.var 11)) (.cst (.int 2))) (.cst (.str "one-way")))) [("one", 11)]) (.lst .nil)) .nil))) (.cons (.app 2 (.tup (.cons (.tup (.cons (.cst (.str "reverse")) (.cons (.var 3) (.cons (.var 6) .nil)))) (.cons (.op .add (.op .add (.slc (.var 5) .no (.yes (.var 3))) (.rev (.var 7))) (.slc (.var 5) (.yes (.var 6)) .no)) .nil)))) .nil) .nil) (.cons (.forS (.one 8) (.rng (.cons (.var 6) (.cons (.blt .len (.cons (.var 4) .nil)) .nil))) (.cons (.forS (.one 9) (.rng (.cons (.op .add (.var 8) (.cst (.int 1))) (.cons (.blt .len (.cons (.var 4) .nil)) .nil))) (.cons (.ifS (.and (.cons (.cmp .eq (.idx (.var 4) (.var 3)) (.idx (.var 4) (.var 8))) (.cons (.cmp .eq (.idx (.var 4) (.var 6)) (.idx (.var 4) (.var 9))) .nil))) (.cons (.dat 10 (.op .add (.op .add (.slc (.var 5) (.yes (.var 8)) (.yes (.var 9))) (.slc (.var 5) (.yes (.var 6)) (.yes (.var 8)))) (.var 7))) (.cons (.app 2 (.tup (.cons (.tup (.cons (.cst (.str "exchange")) (.cons (.var 3) (.cons (.var 6) (.cons (.var 8) (.cons (.var 9) .nil)))))) (.cons (.op .add (.op .add (.slc (.var 5) .no (.yes (.var 3))) (.var 10)) (.slc (.var 5) (.yes (.var 9)) .no)) .nil)))) .nil)) .nil) .nil)) .nil)) .nil)))) .nil)) (.cons (.ret (.blt .sorted (.cons (.var 2) .nil))) .nil))))
def b_may_reverse (g_TWO_WAY : Nat) : Ss := (.cons (.ifS (.or (.cons (.not (.chain (.cst (.int 0)) (.link .le (.var 3) (.link .lt (.var 4) (.last .lt (.blt .len (.cons (.var 2) .nil))))))) (.cons (.cmp .ne (.idx (.var 2) (.var 3)) (.idx (.var 2) (.var 4))) .nil))) (.cons (.ret (.cst (.bool false))) .nil) .nil) (.cons (.ret (.not (.comp (.var 5) (.one 5) (.seq (.slc (.idx (.var 1) (.cst (.int 1))) (.yes (.var 3)) (.yes (.var 4)))) (.yes (.cmp .ne (.idx (.idx (.idx (.var 0) (.cst (.int 1))) (.var 5)) (.cst (.int 2))) (.glb g_TWO_WAY))) [("number", 5)]))) .nil))
def b_moves_of (c_may_reverse : Nat) : Ss := (.cons (.dat 3 (.lrng (.blt .len (.cons (.var 2) .nil)))) (.cons (.dat 4 (.comp2 (.tup (.cons (.var 6) (.cons (.var 7) .nil))) (.one 6) (.seq (.var 3)) .no (.one 7) (.seq (.var 3)) (.yes (.cmp .lt (.var 6) (.var 7))) [("first", 6), ("last", 7)])) (.cons (.own 5 (.lst .nil)) (.cons (.forS (.many (.cons (.one 6) (.cons (.one 7) .nil))) (.seq (.var 4)) (.cons (.ifS (.call c_may_reverse (.cons (.var 0) (.cons (.var 1) (.cons (.var 2) (.cons (.var 6) (.cons (.var 7) .nil)))))) (.cons (.app 5 (.tup (.cons (.cst (.str "reverse")) (.cons (.var 6) (.cons (.var 7) .nil))))) .nil) .nil) (.cons (.forS (.many (.cons (.one 8) (.cons (.one 9) .nil))) (.seq (.var 4)) (.cons (.ifS (.and (.cons (.cmp .le (.var 7) (.var 8)) (.cons (.cmp .eq (.idx (.var 2) (.var 6)) (.idx (.var 2) (.var 8))) (.cons (.cmp .eq (.idx (.var 2) (.var 7)) (.idx (.var 2) (.var 9))) .nil)))) (.cons (.app 5 (.tup (.cons (.cst (.str "exchange")) (.cons (.var 6) (.cons (.var 7) (.cons (.var 8) (.cons (.var 9) .nil))))))) .nil) .nil) .nil)) .nil))) (.cons (.ret (.blt .sorted (.cons (.var 5) .nil))) .nil)))))
def b_moves (c_check_building c_checked_rooms g_MAX_PASSAGES x_TooManyPassages c_moves_of : Nat) : Ss := (.cons (.expr (.call c_check_building (.cons (.var 0) .nil))) (.cons (.dat 2 (.call c_checked_rooms (.cons (.var 0) (.cons (.var 1) .nil)))) (.cons (.ifS (.cmp .gt (.blt .len (.cons (.var 2) .nil)) (.op .add (.glb g_MAX_PASSAGES) (.cst (.int 1)))) (.cons (.raise x_TooManyPassages) .nil) .nil) (.cons (.ret (.call c_moves_of (.cons (.var 0) (.cons (.var 1) (.cons (.var 2) .nil))))) .nil))))
def b_after : Ss := (.cons (.dat 2 (.idx (.var 0) (.cst (.int 1)))) (.cons (.ifS (.cmp .eq (.idx (.var 1) (.cst (.int 0))) (.cst (.str "reverse"))) (.cons (.ret (.tup (.cons (.idx (.var 0) (.cst (.int 0))) (.cons (.op .add (.op .add (.slc (.var 2) .no (.yes (.idx (.var 1) (.cst (.int 1))))) (.rev (.slc (.var 2) (.yes (.idx (.var 1) (.cst (.int 1)))) (.yes (.idx (.var 1) (.cst (.int 2))))))) (.slc (.var 2) (.yes (.idx (.var 1) (.cst (.int 2)))) .no)) .nil)))) .nil) .nil) (.cons (.tgt (.many (.cons (.one 4) (.cons (.one 5) (.cons (.one 6) (.cons (.one 7) .nil))))) (.slc (.var 1) (.yes (.cst (.int 1))) .no)) (.cons (.dat 3 (.op .add (.op .add (.slc (.var 2) (.yes (.var 6)) (.yes (.var 7))) (.slc (.var 2) (.yes (.var 5)) (.yes (.var 6)))) (.slc (.var 2) (.yes (.var 4)) (.yes (.var 5))))) (.cons (.ret (.tup (.cons (.idx (.var 0) (.cst (.int 0))) (.cons (.op .add (.op .add (.slc (.var 2) .no (.yes (.var 4))) (.var 3)) (.slc (.var 2) (.yes (.var 7)) .no)) .nil)))) .nil)))))
def b_may_exchange : Ss := (.cons (.tgt (.many (.cons (.one 2) (.cons (.one 3) (.cons (.one 4) (.cons (.one 5) .nil))))) (.var 1)) (.cons (.ifS (.not (.chain (.cst (.int 0)) (.link .le (.var 2) (.link .lt (.var 3) (.link .le (.var 4) (.link .lt (.var 5) (.last .lt (.blt .len (.cons (.var 0) .nil))))))))) (.cons (.ret (.cst (.bool false))) .nil) .nil) (.cons (.ret (.and (.cons (.cmp .eq (.idx (.var 0) (.var 2)) (.idx (.var 0) (.var 4))) (.cons (.cmp .eq (.idx (.var 0) (.var 3)) (.idx (.var 0) (.var 5))) .nil)))) .nil)))
def b_allowed (c_in_range c_may_reverse c_may_exchange : Nat) : Ss := (.cons (.ifS (.or (.cons (.not (.isi (.var 3) .tuple)) (.cons (.comp (.var 4) (.one 4) (.seq (.slc (.var 3) (.yes (.cst (.int 1))) .no)) (.yes (.not (.call c_in_range (.cons (.var 4) (.cons (.cst (.int 0)) (.cons (.op .sub (.blt .len (.cons (.var 2) .nil)) (.cst (.int 1))) .nil)))))) [("time", 4)]) .nil))) (.cons (.ret (.cst (.bool false))) .nil) .nil) (.cons (.ifS (.and (.cons (.cmp .eq (.blt .len (.cons (.var 3) .nil)) (.cst (.int 3))) (.cons (.cmp .eq (.idx (.var 3) (.cst (.int 0))) (.cst (.str "reverse"))) .nil))) (.cons (.ret (.call c_may_reverse (.cons (.var 0) (.cons (.var 1) (.cons (.var 2) (.cons (.idx (.var 3) (.cst (.int 1))) (.cons (.idx (.var 3) (.cst (.int 2))) .nil))))))) .nil) .nil) (.cons (.ret (.and (.cons (.cmp .eq (.blt .len (.cons (.var 3) .nil)) (.cst (.int 5))) (.cons (.cmp .eq (.idx (.var 3) (.cst (.int 0))) (.cst (.str "exchange"))) (.cons (.call c_may_exchange (.cons (.var 2) (.cons (.slc (.var 3) (.yes (.cst (.int 1))) .no) .nil))) .nil))))) .nil)))
def b_moved_v2 (c_check_building c_checked_rooms c_allowed x_InvalidMove c_after : Nat) : Ss := (.cons (.expr (.call c_check_building (.cons (.var 0) .nil))) (.cons (.dat 3 (.call c_checked_rooms (.cons (.var 0) (.cons (.var 1) .nil)))) (.cons (.ifS (.not (.call c_allowed (.cons (.var 0) (.cons (.var 1) (.cons (.var 3) (.cons (.var 2) .nil)))))) (.cons (.raise x_InvalidMove) .nil) .nil) (.cons (.ret (.call c_after (.cons (.var 1) (.cons (.var 2) .nil)))) .nil))))
def b_law_moved (x_TooManyPassages x_DoorError x_InvalidWalk x_InvalidMove c_moves c_moved : Nat) : Ss := (.cons (.tryS 4 (.cons (.ret (.ifE (.isN (.var 2)) (.call c_moves (.cons (.var 0) (.cons (.var 1) .nil))) (.call c_moved (.cons (.var 0) (.cons (.var 1) (.cons (.var 2) .nil)))))) .nil) [(x_TooManyPassages, 3, (.ret (.ifE (.and (.isx x_DoorError) (.not (.isx x_InvalidWalk))) (.str "many") (.str "other")))), (x_InvalidWalk, 3, (.ret (.ifE (.and (.isx x_DoorError) (.not (.isx x_InvalidMove))) (.str "walk") (.str "other")))), (x_InvalidMove, 3, (.ret (.ifE (.and (.isx x_DoorError) (.not (.isx x_InvalidWalk))) (.str "move") (.str "other"))))]) .nil)
def b_law_v15_s7 (c_law_building c_law_walked c_law_moves c_moves c_moved c_law_rooms c_law_moved : Nat) : Ss := .cons (.ret (.and (.cons (.cmp .eq (.call c_law_moved (.cons (.var 4) (.cons (.tup (.cons (.cst (.int 0)) (.cons (.op .mul (.tup (.cons (.cst (.int 0)) .nil)) (.cst (.int 11))) .nil))) (.cons (.cst .none) .nil)))) (.cst (.str "many"))) (.cons (.cmp .eq (.call c_law_moved (.cons (.var 1) (.cons (.cst .none) (.cons (.cst .none) .nil)))) (.cst (.str "walk"))) .nil)))) .nil
def b_law_v15_s6 (c_law_building c_law_walked c_law_moves c_moves c_moved c_law_rooms c_law_moved : Nat) : Ss := .cons (.dat 4 (.tup (.cons (.cst (.int 2)) (.cons (.tup (.cons (.tup (.cons (.cst (.int 0)) (.cons (.cst (.int 1)) (.cons (.cst (.str "two-way")) .nil)))) .nil)) .nil)))) (b_law_v15_s7 c_law_building c_law_walked c_law_moves c_moves c_moved c_law_rooms c_law_moved)
def b_law_v15_s5 (c_law_building c_law_walked c_law_moves c_moves c_moved c_law_rooms c_law_moved : Nat) : Ss := .cons (.forS (.many (.cons (.one 8) (.cons (.one 9) .nil))) (.seq (.var 3)) (.cons (.ifS (.cmp .ne (.call c_moved (.cons (.var 1) (.cons (.var 2) (.cons (.var 8) .nil)))) (.tup (.cons (.var 5) (.cons (.var 9) .nil)))) (.cons (.ret (.cst (.bool false))) .nil) .nil) (.cons (.ifS (.or (.cons (.cmp .ne (.blt .sorted (.cons (.var 9) .nil)) (.blt .sorted (.cons (.var 6) .nil))) (.cons (.cmp .ne (.idx (.call c_law_rooms (.cons (.var 1) (.cons (.tup (.cons (.var 5) (.cons (.var 9) .nil))) .nil))) (.neg (.cst (.int 1)))) (.var 7)) .nil))) (.cons (.ret (.cst (.bool false))) .nil) .nil) .nil))) (b_law_v15_s6 c_law_building c_law_walked c_law_moves c_moves c_moved c_law_rooms c_law_moved)
def b_law_v15_s4 (c_law_building c_law_walked c_law_moves c_moves c_moved c_law_rooms c_law_moved : Nat) : Ss := .cons (.ifS (.cmp .ne (.call c_moves (.cons (.var 1) (.cons (.var 2) .nil))) (.comp (.var 8) (.many (.cons (.one 8) (.cons (.one 9) .nil))) (.seq (.var 3)) .no [("move", 8), ("behind", 9)])) (.cons (.ret (.cst (.bool false))) .nil) .nil) (b_law_v15_s5 c_law_building c_law_walked c_law_moves c_moves c_moved c_law_rooms c_law_moved)
def b_law_v15_s3 (c_law_building c_law_walked c_law_moves c_moves c_moved c_law_rooms c_law_moved : Nat) : Ss := .cons (.dat 3 (.call c_law_moves (.cons (.var 1) (.cons (.var 2) .nil)))) (b_law_v15_s4 c_law_building c_law_walked c_law_moves c_moves c_moved c_law_rooms c_law_moved)
def b_law_v15_s2 (c_law_building c_law_walked c_law_moves c_moves c_moved c_law_rooms c_law_moved : Nat) : Ss := .cons (.dat 2 (.tup (.cons (.var 5) (.cons (.var 6) .nil)))) (b_law_v15_s3 c_law_building c_law_walked c_law_moves c_moves c_moved c_law_rooms c_law_moved)
def b_law_v15_s1 (c_law_building c_law_walked c_law_moves c_moves c_moved c_law_rooms c_law_moved : Nat) : Ss := .cons (.tgt (.many (.cons (.one 5) (.cons (.one 6) (.cons (.one 7) .nil)))) (.call c_law_walked (.cons (.var 0) (.cons (.cst (.int 3)) (.cons (.var 1) (.cons (.cst (.int 7)) .nil)))))) (b_law_v15_s2 c_law_building c_law_walked c_law_moves c_moves c_moved c_law_rooms c_law_moved)
def b_law_v15_s0 (c_law_building c_law_walked c_law_moves c_moves c_moved c_law_rooms c_law_moved : Nat) : Ss := .cons (.dat 1 (.call c_law_building (.cons (.var 0) (.cons (.cst (.int 2)) (.cons (.cst (.int 4)) (.cons (.cst (.int 4)) .nil)))))) (b_law_v15_s1 c_law_building c_law_walked c_law_moves c_moves c_moved c_law_rooms c_law_moved)
def b_law_v15 (c_law_building c_law_walked c_law_moves c_moves c_moved c_law_rooms c_law_moved : Nat) : Ss := b_law_v15_s0 c_law_building c_law_walked c_law_moves c_moves c_moved c_law_rooms c_law_moved
end
end DD

namespace K12
open PySem PySem.Spec PyProof.Rows L2 DD
def top (i : Nat) : Stmt := PySem.Challenge.pw_doorcounters_k12_moves.main.body.getD i (.Pass ⟨0, 0, 0, 0⟩)
def md : Md := ⟨[("MAX_ROOMS", .int 6), ("MAX_DOORS", .int 8), ("MAX_COUNT", .int 9), ("ONE_WAY", .str "one-way"), ("TWO_WAY", .str "two-way"), ("MAX_STEPS", .int 72), ("MAX_PASSAGES", .int 10)], ["DoorError", "InvalidBuilding", "InvalidWalk", "InvalidMove", "TooManyPassages"], [false, true, true, true, true], [[true, false, false, false, false], [true, true, false, false, false], [true, false, true, false, false], [true, false, false, true, false], [true, false, false, false, true]]⟩
abbrev d_law_cell : DefX := ⟨"_law_cell", ["script", "k"], ["script", "k"], false, 0, b_law_cell, top 31, none, false⟩
abbrev d_law_row : DefX := ⟨"_law_row", ["script", "at"], ["script", "at", "cell", "found", "time"], true, 0, b_law_row 0, top 33, none, false⟩
abbrev d_law_building : DefX := ⟨"_law_building", ["script", "at", "most_rooms", "most_doors"], ["script", "at", "most_rooms", "most_doors", "draws", "rooms", "doors", "time", "one", "other"], true, 0, b_law_building 1, top 35, none, false⟩
abbrev d_law_side : DefX := ⟨"_law_side", ["building", "number", "room"], ["building", "number", "room", "one", "other", "kind"], false, 0, b_law_side, top 36, none, false⟩
abbrev d_law_walked : DefX := ⟨"_law_walked", ["script", "at", "building", "most"], ["script", "at", "building", "most", "draws", "start", "room", "doors", "time", "here", "number"], true, 0, b_law_walked 1 3, top 37, none, false⟩
abbrev d_law_whole : DefX := ⟨"_law_whole", ["found"], ["found"], false, 0, b_law_whole, top 32, none, false⟩
abbrev d_law_in : DefX := ⟨"_law_in", ["thing", "low", "high"], ["thing", "low", "high"], false, 0, b_law_in 5, top 34, none, false⟩
abbrev d_law_rooms : DefX := ⟨"_law_rooms", ["building", "value"], ["building", "value", "found", "number", "there"], true, 0, b_law_rooms 6 3, top 38, none, false⟩
abbrev d_law_moves : DefX := ⟨"_law_moves", ["building", "walk"], ["building", "walk", "found", "first", "rooms", "doors", "last", "part", "other", "end", "middle", "one"], true, 0, b_law_moves 7, top 39, none, false⟩
abbrev d_in_range : DefX := ⟨"in_range", ["value", "low", "high"], ["value", "low", "high"], false, 0, b_in_range, top 12, none, false⟩
abbrev d_is_door : DefX := ⟨"is_door", ["rooms", "value"], ["rooms", "value"], false, 0, b_is_door 4 3 9, top 13, none, false⟩
abbrev d_is_building : DefX := ⟨"is_building", ["value"], ["value", "door"], true, 0, b_is_building 9 0 1 10, top 14, none, false⟩
abbrev d_check_building : DefX := ⟨"check_building", ["building"], ["building"], true, 0, b_check_building 11 1, top 15, none, false⟩
abbrev d_other_side : DefX := ⟨"other_side", ["building", "number", "room"], ["building", "number", "room", "one", "other", "kind"], false, 0, b_other_side 4, top 16, none, false⟩
abbrev d_trace : DefX := ⟨"trace", ["building", "value"], ["building", "value", "rooms", "number", "room"], true, 0, b_trace 9 5 13, top 19, none, false⟩
abbrev d_checked_rooms : DefX := ⟨"checked_rooms", ["building", "walk"], ["building", "walk", "rooms"], false, 0, b_checked_rooms 14 2, top 20, none, false⟩
abbrev d_may_reverse : DefX := ⟨"may_reverse", ["building", "walk", "rooms", "first", "last"], ["building", "walk", "rooms", "first", "last", "number"], true, 0, b_may_reverse 4, top 23, none, false⟩
abbrev d_moves_of : DefX := ⟨"moves_of", ["building", "walk", "rooms"], ["building", "walk", "rooms", "times", "pairs", "result", "first", "last", "other", "end"], true, 0, b_moves_of 16, top 28, none, false⟩
abbrev d_moves : DefX := ⟨"moves", ["building", "walk"], ["building", "walk", "rooms"], true, 0, b_moves 12 15 6 4 17, top 29, none, false⟩
abbrev d_after : DefX := ⟨"after", ["walk", "move"], ["walk", "move", "doors", "middle", "first", "last", "other", "end"], true, 0, b_after, top 26, none, false⟩
abbrev d_may_exchange : DefX := ⟨"may_exchange", ["rooms", "times"], ["rooms", "times", "first", "last", "other", "end"], false, 0, b_may_exchange, top 24, none, false⟩
abbrev d_allowed : DefX := ⟨"allowed", ["building", "walk", "rooms", "move"], ["building", "walk", "rooms", "move", "time"], false, 0, b_allowed 9 16 20, top 25, none, false⟩
abbrev d_moved : DefX := ⟨"moved", ["building", "walk", "move"], ["building", "walk", "move", "rooms"], true, 0, b_moved_v2 12 15 21 3 19, top 27, none, false⟩
abbrev d_law_moved : DefX := ⟨"_law_moved", ["building", "walk", "move"], ["building", "walk", "move", "e"], false, 0, b_law_moved 4 0 2 3 18 22, top 40, none, false⟩
abbrev d_law : DefX := ⟨"law", ["script"], ["script", "building", "walk", "due", "two", "start", "doors", "end", "move", "behind"], false, 0, b_law_v15 2 4 8 18 22 7 23, top 41, none, false⟩
def ds : List DefX := [d_law_cell, d_law_row, d_law_building, d_law_side, d_law_walked, d_law_whole, d_law_in, d_law_rooms, d_law_moves, d_in_range, d_is_door, d_is_building, d_check_building, d_other_side, d_trace, d_checked_rooms, d_may_reverse, d_moves_of, d_moves, d_after, d_may_exchange, d_allowed, d_moved, d_law_moved]
abbrev lw : DefX := d_law
theorem bn_0 : BindNm ["script", "k"] := by
  intro x qual as bd sc kV doc pm an cdv ct e us hl
  match as, us, e, hl with
  | [⟨n0, _, _⟩, ⟨n1, _, _⟩], [_, _], e, _ =>
    simp only [List.map_cons, List.map_nil, List.cons.injEq, and_true] at e
    obtain ⟨rfl, rfl⟩ := e
    rfl
theorem bn_1 : BindNm ["script", "at"] := by
  intro x qual as bd sc kV doc pm an cdv ct e us hl
  match as, us, e, hl with
  | [⟨n0, _, _⟩, ⟨n1, _, _⟩], [_, _], e, _ =>
    simp only [List.map_cons, List.map_nil, List.cons.injEq, and_true] at e
    obtain ⟨rfl, rfl⟩ := e
    rfl
theorem bn_2 : BindNm ["script", "at", "most_rooms", "most_doors"] := by
  intro x qual as bd sc kV doc pm an cdv ct e us hl
  match as, us, e, hl with
  | [⟨n0, _, _⟩, ⟨n1, _, _⟩, ⟨n2, _, _⟩, ⟨n3, _, _⟩], [_, _, _, _], e, _ =>
    simp only [List.map_cons, List.map_nil, List.cons.injEq, and_true] at e
    obtain ⟨rfl, rfl, rfl, rfl⟩ := e
    rfl
theorem bn_3 : BindNm ["building", "number", "room"] := by
  intro x qual as bd sc kV doc pm an cdv ct e us hl
  match as, us, e, hl with
  | [⟨n0, _, _⟩, ⟨n1, _, _⟩, ⟨n2, _, _⟩], [_, _, _], e, _ =>
    simp only [List.map_cons, List.map_nil, List.cons.injEq, and_true] at e
    obtain ⟨rfl, rfl, rfl⟩ := e
    rfl
theorem bn_4 : BindNm ["script", "at", "building", "most"] := by
  intro x qual as bd sc kV doc pm an cdv ct e us hl
  match as, us, e, hl with
  | [⟨n0, _, _⟩, ⟨n1, _, _⟩, ⟨n2, _, _⟩, ⟨n3, _, _⟩], [_, _, _, _], e, _ =>
    simp only [List.map_cons, List.map_nil, List.cons.injEq, and_true] at e
    obtain ⟨rfl, rfl, rfl, rfl⟩ := e
    rfl
theorem bn_5 : BindNm ["found"] := by
  intro x qual as bd sc kV doc pm an cdv ct e us hl
  match as, us, e, hl with
  | [⟨n0, _, _⟩], [_], e, _ =>
    simp only [List.map_cons, List.map_nil, List.cons.injEq, and_true] at e
    subst e
    rfl
theorem bn_6 : BindNm ["thing", "low", "high"] := by
  intro x qual as bd sc kV doc pm an cdv ct e us hl
  match as, us, e, hl with
  | [⟨n0, _, _⟩, ⟨n1, _, _⟩, ⟨n2, _, _⟩], [_, _, _], e, _ =>
    simp only [List.map_cons, List.map_nil, List.cons.injEq, and_true] at e
    obtain ⟨rfl, rfl, rfl⟩ := e
    rfl
theorem bn_7 : BindNm ["building", "value"] := by
  intro x qual as bd sc kV doc pm an cdv ct e us hl
  match as, us, e, hl with
  | [⟨n0, _, _⟩, ⟨n1, _, _⟩], [_, _], e, _ =>
    simp only [List.map_cons, List.map_nil, List.cons.injEq, and_true] at e
    obtain ⟨rfl, rfl⟩ := e
    rfl
theorem bn_8 : BindNm ["building", "walk"] := by
  intro x qual as bd sc kV doc pm an cdv ct e us hl
  match as, us, e, hl with
  | [⟨n0, _, _⟩, ⟨n1, _, _⟩], [_, _], e, _ =>
    simp only [List.map_cons, List.map_nil, List.cons.injEq, and_true] at e
    obtain ⟨rfl, rfl⟩ := e
    rfl
theorem bn_9 : BindNm ["value", "low", "high"] := by
  intro x qual as bd sc kV doc pm an cdv ct e us hl
  match as, us, e, hl with
  | [⟨n0, _, _⟩, ⟨n1, _, _⟩, ⟨n2, _, _⟩], [_, _, _], e, _ =>
    simp only [List.map_cons, List.map_nil, List.cons.injEq, and_true] at e
    obtain ⟨rfl, rfl, rfl⟩ := e
    rfl
theorem bn_10 : BindNm ["rooms", "value"] := by
  intro x qual as bd sc kV doc pm an cdv ct e us hl
  match as, us, e, hl with
  | [⟨n0, _, _⟩, ⟨n1, _, _⟩], [_, _], e, _ =>
    simp only [List.map_cons, List.map_nil, List.cons.injEq, and_true] at e
    obtain ⟨rfl, rfl⟩ := e
    rfl
theorem bn_11 : BindNm ["value"] := by
  intro x qual as bd sc kV doc pm an cdv ct e us hl
  match as, us, e, hl with
  | [⟨n0, _, _⟩], [_], e, _ =>
    simp only [List.map_cons, List.map_nil, List.cons.injEq, and_true] at e
    subst e
    rfl
theorem bn_12 : BindNm ["building"] := by
  intro x qual as bd sc kV doc pm an cdv ct e us hl
  match as, us, e, hl with
  | [⟨n0, _, _⟩], [_], e, _ =>
    simp only [List.map_cons, List.map_nil, List.cons.injEq, and_true] at e
    subst e
    rfl
theorem bn_13 : BindNm ["building", "walk", "rooms", "first", "last"] := by
  intro x qual as bd sc kV doc pm an cdv ct e us hl
  match as, us, e, hl with
  | [⟨n0, _, _⟩, ⟨n1, _, _⟩, ⟨n2, _, _⟩, ⟨n3, _, _⟩, ⟨n4, _, _⟩], [_, _, _, _, _], e, _ =>
    simp only [List.map_cons, List.map_nil, List.cons.injEq, and_true] at e
    obtain ⟨rfl, rfl, rfl, rfl, rfl⟩ := e
    rfl
theorem bn_14 : BindNm ["building", "walk", "rooms"] := by
  intro x qual as bd sc kV doc pm an cdv ct e us hl
  match as, us, e, hl with
  | [⟨n0, _, _⟩, ⟨n1, _, _⟩, ⟨n2, _, _⟩], [_, _, _], e, _ =>
    simp only [List.map_cons, List.map_nil, List.cons.injEq, and_true] at e
    obtain ⟨rfl, rfl, rfl⟩ := e
    rfl
theorem bn_15 : BindNm ["walk", "move"] := by
  intro x qual as bd sc kV doc pm an cdv ct e us hl
  match as, us, e, hl with
  | [⟨n0, _, _⟩, ⟨n1, _, _⟩], [_, _], e, _ =>
    simp only [List.map_cons, List.map_nil, List.cons.injEq, and_true] at e
    obtain ⟨rfl, rfl⟩ := e
    rfl
theorem bn_16 : BindNm ["rooms", "times"] := by
  intro x qual as bd sc kV doc pm an cdv ct e us hl
  match as, us, e, hl with
  | [⟨n0, _, _⟩, ⟨n1, _, _⟩], [_, _], e, _ =>
    simp only [List.map_cons, List.map_nil, List.cons.injEq, and_true] at e
    obtain ⟨rfl, rfl⟩ := e
    rfl
theorem bn_17 : BindNm ["building", "walk", "rooms", "move"] := by
  intro x qual as bd sc kV doc pm an cdv ct e us hl
  match as, us, e, hl with
  | [⟨n0, _, _⟩, ⟨n1, _, _⟩, ⟨n2, _, _⟩, ⟨n3, _, _⟩], [_, _, _, _], e, _ =>
    simp only [List.map_cons, List.map_nil, List.cons.injEq, and_true] at e
    obtain ⟨rfl, rfl, rfl, rfl⟩ := e
    rfl
theorem bn_18 : BindNm ["building", "walk", "move"] := by
  intro x qual as bd sc kV doc pm an cdv ct e us hl
  match as, us, e, hl with
  | [⟨n0, _, _⟩, ⟨n1, _, _⟩, ⟨n2, _, _⟩], [_, _, _], e, _ =>
    simp only [List.map_cons, List.map_nil, List.cons.injEq, and_true] at e
    obtain ⟨rfl, rfl, rfl⟩ := e
    rfl
theorem bn_19 : BindNm ["script"] := by
  intro x qual as bd sc kV doc pm an cdv ct e us hl
  match as, us, e, hl with
  | [⟨n0, _, _⟩], [_], e, _ =>
    simp only [List.map_cons, List.map_nil, List.cons.injEq, and_true] at e
    subst e
    rfl
theorem bns : ∀ d ∈ ds ++ [lw], BindNm d.ps := by
  intro d hd
  simp only [ds, List.cons_append, List.nil_append, List.mem_cons, List.not_mem_nil, or_false] at hd
  rcases hd with rfl | rfl | rfl | rfl | rfl | rfl | rfl | rfl | rfl | rfl | rfl | rfl | rfl | rfl | rfl | rfl | rfl | rfl | rfl | rfl | rfl | rfl | rfl | rfl | rfl
  · exact bn_0
  · exact bn_1
  · exact bn_2
  · exact bn_3
  · exact bn_4
  · exact bn_5
  · exact bn_6
  · exact bn_7
  · exact bn_8
  · exact bn_9
  · exact bn_10
  · exact bn_11
  · exact bn_12
  · exact bn_3
  · exact bn_7
  · exact bn_8
  · exact bn_13
  · exact bn_14
  · exact bn_8
  · exact bn_15
  · exact bn_16
  · exact bn_17
  · exact bn_18
  · exact bn_18
  · exact bn_19
theorem ok : okDefs md.gb (ds ++ [lw]) = true := by kernel_rfl
abbrev R : PySem.W.OpenRow := PySem.W.OpenLaw.row PySem.Challenge.rw_doorcounters_k12_moves
abbrev hk : PySem.W.Hook := He.hookX 4 (faX md (ds ++ [lw])) ((ds ++ [lw]).map defD) [] [] md.ex
def ob (s : PySem.W.SharedT) : He.AlX := He.obsX 4 (faX md (ds ++ [lw])) ((ds ++ [lw]).map defD) [] [] md.ex (HandSHeadRun.getT s)
theorem ob_eq (s : PySem.W.SharedT) : ob s = hk.obs s.abs := He.obsX_eq (HandSHeadRun.getT_eq s)
def loose : List Str := (["DoorError", "InvalidBuilding", "InvalidWalk", "InvalidMove", "TooManyPassages", "MAX_ROOMS", "MAX_DOORS", "MAX_COUNT", "ONE_WAY", "TWO_WAY", "in_range", "is_door"] : List Str) ++ (["is_building", "check_building", "other_side", "MAX_STEPS", "trace", "checked_rooms", "MAX_PASSAGES", "may_reverse", "may_exchange", "allowed", "after", "moved"] : List Str) ++ (["moves_of", "moves", "_law_cell", "_law_whole", "_law_row", "_law_in", "_law_building", "_law_side", "_law_walked", "_law_rooms", "_law_moves", "_law_moved"] : List Str)
theorem run (w : World) : HandSHeadRun.RunEq R (PySem.W.view R.prog [41]) hk ob 4000 loose w := by
  intro os
  kernel_rfl
end K12

theorem K12.holds_of (hf : ∀ ns : List Int, ns.length ≤ 63 → ((K12.lw.fn (DD.gbOf K12.md.gb K12.ds)).phi [.list (ns.map .int)]) = some (.ok (.bool true))) : PySem.Challenge.rw_doorcounters_k12_moves.Holds := by
  open PySem PySem.W PySem.Calls PyProof.Rows in
  w_on; o_law
  open PySem PySem.W PySem.Calls PyProof.Rows in
  refine HandSHeadRun.head_any (r := OpenLaw.row PySem.Challenge.rw_doorcounters_k12_moves) (q := view (OpenLaw.row PySem.Challenge.rw_doorcounters_k12_moves).prog [41]) (H := K12.hk) (ob := K12.ob) (M := 4000) (loose := K12.loose) (d := HandSHeadRun.topDef (OpenLaw.row PySem.Challenge.rw_doorcounters_k12_moves).prog 41) (kwd := []) K12.ob_eq
    (by kernel_rfl) (fun s => by kernel_rfl) K12.run (by kernel_rfl) (by kernel_rfl) (by kernel_rfl) (by rfl) (by first | assumption | decide +kernel) (by decide +kernel) ⟨rfl, rfl, rfl, rfl, rfl, by decide +kernel⟩ ?hw ?hc
  case hw => w_witness2
  case hc =>
    refine L2.walk_ofE (l := PySem.Challenge.rw_doorcounters_k12_moves) (n := 63) (k := 25) (x := "script") (CX := L2.CX0) rfl (by decide) (by kernel_rfl) ⟨rfl, by decide, by decide⟩ ?F (fun _ _ _ _ z => z)
    intro w mg fa h Y G hmg0
    have hmg : mg ("law" : PySem.Str) = some (.ref fa) := by
      have e : (HandSHeadRun.topDef (OpenLaw.row PySem.Challenge.rw_doorcounters_k12_moves).prog 41).name = ("law" : PySem.Str) := by kernel_rfl
      rw [← e]
      exact hmg0
    exact DD.law_end (lw := K12.lw) (ds := K12.ds) Y G hmg rfl rfl rfl rfl K12.ok K12.bns hf


namespace DD
noncomputable section
open PySem PySem.Spec PyProof.Rows L2
theorem truth_bool (b : Bool) : truthD (.bool b) = some b := rfl
theorem truth_none : truthD .none = some false := rfl
theorem truth_int (i : Int) : truthD (.int i) = some (i != 0) := rfl
theorem truth_list (ds : List D) : truthD (.list ds) = some (!ds.isEmpty) := rfl
theorem truth_tuple (ds : List D) : truthD (.tuple ds) = some (!ds.isEmpty) := rfl
theorem tg_one (i : Nat) (d : D) (ρ : Rho) : Tg.bind (.one i) d ρ = some (ρ.set i (some (.dat, d))) := by unfold Tg.bind; rfl
theorem tg_many (ts : Tgs) (ds : List D) (ρ : Rho) : Tg.bind (.many ts) (.tuple ds) ρ = ts.bind ds ρ := by rw [Tg.bind]
theorem tgs_nil (ρ : Rho) : Tgs.bind .nil [] ρ = some ρ := by rw [Tgs.bind]
theorem tgs_cons (t : Tg) (ts : Tgs) (d : D) (ds : List D) (ρ : Rho) : Tgs.bind (.cons t ts) (d :: ds) ρ = (match t.bind d ρ with
    | some ρ' => ts.bind ds ρ'
    | none => none) := by rw [Tgs.bind]; try rfl
def isInt : D → Bool
  | .int _ => true
  | .bool _ => true
  | _ => false
def isBool : D → Bool
  | .bool _ => true
  | _ => false
def isTup : D → Bool
  | .tuple _ => true
  | _ => false
def isLst : D → Bool
  | .list _ => true
  | _ => false
def isStr : D → Bool
  | .str _ => true
  | _ => false
theorem isi_int (d : D) : isiD "int" d = some (.bool (isInt d)) := by cases d <;> rfl
theorem isi_bool (d : D) : isiD "bool" d = some (.bool (isBool d)) := by cases d <;> rfl
theorem isi_tuple (d : D) : isiD "tuple" d = some (.bool (isTup d)) := by cases d <;> rfl
theorem isi_list (d : D) : isiD "list" d = some (.bool (isLst d)) := by cases d <;> rfl
theorem isi_str (d : D) : isiD "str" d = some (.bool (isStr d)) := by cases d <;> rfl
theorem mul_int (i j : Int) : mulD (.int i) (.int j) = if mulOk i j = true then some (.int (i * j)) else none := rfl
theorem fdiv_int (i j : Int) : fdivD (.int i) (.int j) = if 0 < j ∧ j < 1073741824 then some (.int (i / j)) else none := rfl
theorem mod_int (i j : Int) : modD (.int i) (.int j) = if 0 < j then some (.int (i % j)) else none := rfl
theorem mul_ok1 {i j : Int} (h1 : -(2 ^ 64) < i) (h2 : i < 2 ^ 64) : mulOk i j = true := by
  rw [mulOk_eq]
  exact decide_eq_true (.inl ⟨h1, h2⟩)
theorem mul_ok2 {i j : Int} (h1 : -(2 ^ 64) < j) (h2 : j < 2 ^ 64) : mulOk i j = true := by
  rw [mulOk_eq]
  exact decide_eq_true (.inr ⟨h1, h2⟩)
theorem rng_ok {i j : Int} (h1 : -16777216 ≤ i) (h2 : i ≤ 16777216) (h3 : -16777216 ≤ j) (h4 : j ≤ 16777216) (h5 : j - i ≤ 16777216) : rngOk i j = true := by
  rw [rngOk_eq]
  exact decide_eq_true ⟨h1, h2, h3, h4, h5⟩
/-- a def's answer from its run -/
theorem run_ret {G : Gb} {fuel : Nat} {nw : Bool} {body : Ss} {n : Nat} {args : List D} {d : D} (ρ : Rho) (h0 : initR args n = ρ) (h : execSs G fuel ⟨nw, none⟩ body ρ = some (.ret d)) : runF G fuel nw body n args = some (.ok d) := by
  unfold runF
  rw [h0, h]
theorem run_exc {G : Gb} {fuel : Nat} {nw : Bool} {body : Ss} {n : Nat} {args : List D} {c : Nat} {p : Option D} (ρ : Rho) (h0 : initR args n = ρ) (h : execSs G fuel ⟨nw, none⟩ body ρ = some (.exc c p)) : runF G fuel nw body n args = some (.exc c p) := by
  unfold runF
  rw [h0, h]
theorem run_next {G : Gb} {fuel : Nat} {nw : Bool} {body : Ss} {n : Nat} {args : List D} {ρ' : Rho} (ρ : Rho) (h0 : initR args n = ρ) (h : execSs G fuel ⟨nw, none⟩ body ρ = some (.next ρ')) : runF G fuel nw body n args = some (.ok .none) := by
  unfold runF
  rw [h0, h]
def inR : D → Int → Int → Bool
  | .int i, lo, hi => decide (lo ≤ i) && decide (i ≤ hi)
  | _, _, _ => false
theorem in_range_sem (G : Gb) (v : D) (lo hi : Int) : runF G 0 false b_in_range 3 [v, .int lo, .int hi] = some (.ok (.bool (inR v lo hi))) := by
  refine run_ret [some (.bor, v), some (.bor, .int lo), some (.bor, .int hi)] rfl ?_
  cases v with
  | int i =>
    by_cases h : lo ≤ i <;> by_cases h2 : i ≤ hi <;> simp -implicitDefEqProofs only [b_in_range, execSs, execS, seqS, thenS, retS, retNS, retV, mutL, mutD, keepX, ixD2, inD2, itemsOf, seqOf, zipI, enumI, cntV, popK, takeOff, extK, dputS, dct1, dkey, dinD, parK, bindX, ioV, nxK, retIO, callT, newA, evalT, evalX, evalZ, keepB, isDict, Bool.true_or, Bool.or_true, Bool.false_or, Bool.or_false, Bool.true_and, Bool.and_true, Bool.false_and, Bool.and_false, datK, ownK, tgK, appK, evalE, evalK, evalA, evalAnd, evalOr, evalO, evalF, evalI, evalC, keep, keepV, slotVal, lift1, lift2, liftA, consA, callF, notV, andT, orT, ifV, tstB, DD.ifS, DD.forS, compV, seqI, rngI, E.src, sem2, semC, semB, Ty.nm, Cst.d, boolRes, truth_bool, truth_none, truth_int, truth_list, truth_tuple, isi_int, isi_bool, isi_tuple, isi_list, isi_str, addD, subD, mul_int, fdiv_int, mod_int, ltD, leD, gtD, geD, lenD, isNone, negD, tg_one, tg_many, tgs_nil, tgs_cons, flatRoot, okSize, List.getElem?_cons_zero, List.getElem?_cons_succ, List.set_cons_zero, List.set_cons_succ, List.length_cons, List.length_nil, Option.map_some, Option.map_none, Nat.zero_add, if_true, if_false, Bool.not_true, Bool.not_false, reduceCtorEq, or_true, true_or, or_false, false_or, Nat.reduceAdd, Nat.reduceLeDiff, decide_true, decide_false, Bool.false_eq_true, isInt, isBool, h, h2, inR, Bool.and_true, Bool.and_false, Bool.true_and, Bool.false_and]
  | _ => simp -implicitDefEqProofs only [b_in_range, execSs, execS, seqS, thenS, retS, retNS, retV, mutL, mutD, keepX, ixD2, inD2, itemsOf, seqOf, zipI, enumI, cntV, popK, takeOff, extK, dputS, dct1, dkey, dinD, parK, bindX, ioV, nxK, retIO, callT, newA, evalT, evalX, evalZ, keepB, isDict, Bool.true_or, Bool.or_true, Bool.false_or, Bool.or_false, Bool.true_and, Bool.and_true, Bool.false_and, Bool.and_false, datK, ownK, tgK, appK, evalE, evalK, evalA, evalAnd, evalOr, evalO, evalF, evalI, evalC, keep, keepV, slotVal, lift1, lift2, liftA, consA, callF, notV, andT, orT, ifV, tstB, DD.ifS, DD.forS, compV, seqI, rngI, E.src, sem2, semC, semB, Ty.nm, Cst.d, boolRes, truth_bool, truth_none, truth_int, truth_list, truth_tuple, isi_int, isi_bool, isi_tuple, isi_list, isi_str, addD, subD, mul_int, fdiv_int, mod_int, ltD, leD, gtD, geD, lenD, isNone, negD, tg_one, tg_many, tgs_nil, tgs_cons, flatRoot, okSize, List.getElem?_cons_zero, List.getElem?_cons_succ, List.set_cons_zero, List.set_cons_succ, List.length_cons, List.length_nil, Option.map_some, Option.map_none, Nat.zero_add, if_true, if_false, Bool.not_true, Bool.not_false, reduceCtorEq, or_true, true_or, or_false, false_or, Nat.reduceAdd, Nat.reduceLeDiff, decide_true, decide_false, Bool.false_eq_true, isInt, isBool, inR]
/-! ### the script's cells -/
def cellN (ns : List Int) (k : Int) : Int := if k < ns.length then ns.getD k.toNat 0 else 0
theorem atI_nat {ds : List D} {k : Int} {d : D} (h0 : 0 ≤ k) (h : ds[k.toNat]? = some d) : atI ds k = some d := by
  have hl : k.toNat < ds.length := by
    by_cases hl : k.toNat < ds.length
    · exact hl
    · rw [List.getElem?_eq_none (by omega)] at h
      cases h
  unfold atI ixN
  rw [if_pos h0, if_pos (by omega)]
  exact h
theorem cell_sem (G : Gb) (ns : List Int) (k : Int) (h : 0 ≤ k) : runF G 0 false b_law_cell 2 [.list (ns.map .int), .int k] = some (.ok (.int (cellN ns k))) := by
  refine run_ret [some (.bor, .list (ns.map .int)), some (.bor, .int k)] rfl ?_
  unfold cellN
  by_cases h1 : k < ns.length
  · have e : atI (ns.map PyData.int) k = some (.int (ns.getD k.toNat 0)) := atI_nat h (by
      rw [List.getElem?_map, List.getElem?_eq_getElem (by omega), List.getD_eq_getElem?_getD, List.getElem?_eq_getElem (by omega)]
      rfl)
    simp -implicitDefEqProofs only [b_law_cell, execSs, execS, seqS, thenS, retS, retNS, retV, mutL, mutD, keepX, ixD2, inD2, itemsOf, seqOf, zipI, enumI, cntV, popK, takeOff, extK, dputS, dct1, dkey, dinD, parK, bindX, ioV, nxK, retIO, callT, newA, evalT, evalX, evalZ, keepB, isDict, Bool.true_or, Bool.or_true, Bool.false_or, Bool.or_false, Bool.true_and, Bool.and_true, Bool.false_and, Bool.and_false, datK, ownK, tgK, appK, evalE, evalK, evalA, evalAnd, evalOr, evalO, evalF, evalI, evalC, keep, keepV, slotVal, lift1, lift2, liftA, consA, callF, notV, andT, orT, ifV, tstB, DD.ifS, DD.forS, compV, seqI, rngI, E.src, sem2, semC, semB, Ty.nm, Cst.d, boolRes, truth_bool, truth_none, truth_int, truth_list, truth_tuple, isi_int, isi_bool, isi_tuple, isi_list, isi_str, addD, subD, mul_int, fdiv_int, mod_int, ltD, leD, gtD, geD, lenD, isNone, negD, tg_one, tg_many, tgs_nil, tgs_cons, flatRoot, okSize, List.getElem?_cons_zero, List.getElem?_cons_succ, List.set_cons_zero, List.set_cons_succ, List.length_cons, List.length_nil, Option.map_some, Option.map_none, Nat.zero_add, if_true, if_false, Bool.not_true, Bool.not_false, reduceCtorEq, or_true, true_or, or_false, false_or, Nat.reduceAdd, Nat.reduceLeDiff, decide_true, decide_false, Bool.false_eq_true, h1, List.length_map, ixD, e]
  · simp -implicitDefEqProofs only [b_law_cell, execSs, execS, seqS, thenS, retS, retNS, retV, mutL, mutD, keepX, ixD2, inD2, itemsOf, seqOf, zipI, enumI, cntV, popK, takeOff, extK, dputS, dct1, dkey, dinD, parK, bindX, ioV, nxK, retIO, callT, newA, evalT, evalX, evalZ, keepB, isDict, Bool.true_or, Bool.or_true, Bool.false_or, Bool.or_false, Bool.true_and, Bool.and_true, Bool.false_and, Bool.and_false, datK, ownK, tgK, appK, evalE, evalK, evalA, evalAnd, evalOr, evalO, evalF, evalI, evalC, keep, keepV, slotVal, lift1, lift2, liftA, consA, callF, notV, andT, orT, ifV, tstB, DD.ifS, DD.forS, compV, seqI, rngI, E.src, sem2, semC, semB, Ty.nm, Cst.d, boolRes, truth_bool, truth_none, truth_int, truth_list, truth_tuple, isi_int, isi_bool, isi_tuple, isi_list, isi_str, addD, subD, mul_int, fdiv_int, mod_int, ltD, leD, gtD, geD, lenD, isNone, negD, tg_one, tg_many, tgs_nil, tgs_cons, flatRoot, okSize, List.getElem?_cons_zero, List.getElem?_cons_succ, List.set_cons_zero, List.set_cons_succ, List.length_cons, List.length_nil, Option.map_some, Option.map_none, Nat.zero_add, if_true, if_false, Bool.not_true, Bool.not_false, reduceCtorEq, or_true, true_or, or_false, false_or, Nat.reduceAdd, Nat.reduceLeDiff, decide_true, decide_false, Bool.false_eq_true, h1, List.length_map]

/-! ### loops -/
def runL {σ : Type} (step : σ → D → Sum σ Out) : List D → σ → Sum σ Out
  | [], s => .inl s
  | d :: ds, s => (match step s d with
    | .inl s' => runL step ds s'
    | .inr o => .inr o)
def outL {σ : Type} (st : σ → Rho) : Sum σ Out → Option Out
  | .inl s => some (.next (st s))
  | .inr o => some o
theorem forL_gen {σ : Type} (st : σ → Rho) (step : σ → D → Sum σ Out) (I : Nat → σ → Prop) {bb : D → Rho → Option Rho} {body : Rho → Option Out} :
    ∀ (ds : List D) (n : Nat) (s0 : σ), I n s0 → (∀ k d s, ds[k]? = some d → I (n + k) s → ∃ ρ1, bb d (st s) = some ρ1 ∧ (match step s d with
      | .inl s' => body ρ1 = some (.next (st s')) ∧ I (n + k + 1) s'
      | .inr o => body ρ1 = some o ∧ ∀ ρ, o ≠ .next ρ)) → forL bb body ds (st s0) = outL st (runL step ds s0)
  | [], n, s0, _, _ => rfl
  | d :: ds, n, s0, h0, h => by
    obtain ⟨ρ1, e1, e2⟩ := h 0 d s0 rfl h0
    unfold forL runL
    rw [e1]
    dsimp only
    cases e : step s0 d with
    | inl s' =>
      rw [e] at e2
      dsimp only at e2 ⊢
      rw [e2.1]
      dsimp only
      refine forL_gen st step I ds (n + 1) s' e2.2 fun k d' s hk hs => ?_
      have := h (k + 1) d' s (by simpa using hk) (by rw [show n + (k + 1) = n + 1 + k by omega]; exact hs)
      rw [show n + (k + 1) = n + 1 + k by omega] at this
      exact this
    | inr o =>
      rw [e] at e2
      dsimp only at e2 ⊢
      rw [e2.1]
      cases o with
      | next ρ => exact absurd rfl (e2.2 ρ)
      | ret d => rfl
      | exc c p => rfl
/-- a loop that always goes on -/
theorem forL_fold {σ : Type} (st : σ → Rho) (step : σ → D → σ) (I : Nat → σ → Prop) {bb : D → Rho → Option Rho} {body : Rho → Option Out} :
    ∀ (ds : List D) (n : Nat) (s0 : σ), I n s0 → (∀ k d s, ds[k]? = some d → I (n + k) s → ∃ ρ1, bb d (st s) = some ρ1 ∧ body ρ1 = some (.next (st (step s d))) ∧ I (n + k + 1) (step s d)) → forL bb body ds (st s0) = some (.next (st (ds.foldl step s0)))
  | [], n, s0, _, _ => rfl
  | d :: ds, n, s0, h0, h => by
    obtain ⟨ρ1, e1, e2, e3⟩ := h 0 d s0 rfl h0
    unfold forL
    rw [e1]
    dsimp only
    rw [e2]
    dsimp only
    rw [List.foldl_cons]
    refine forL_fold st step I ds (n + 1) _ e3 fun k d' s hk hs => ?_
    have := h (k + 1) d' s (by simpa using hk) (by rw [show n + (k + 1) = n + 1 + k by omega]; exact hs)
    rw [show n + (k + 1) = n + 1 + k by omega] at this
    exact this
theorem fold_inv {σ : Type} {step : σ → D → σ} {I : Nat → σ → Prop} : ∀ (ds : List D) (n : Nat) (s0 : σ), I n s0 → (∀ k d s, ds[k]? = some d → I (n + k) s → I (n + k + 1) (step s d)) → I (n + ds.length) (ds.foldl step s0)
  | [], n, s0, h, _ => h
  | d :: ds, n, s0, h0, h => by
    have := fold_inv ds (n + 1) (step s0 d) (h 0 d s0 rfl h0) (fun k d' s hk hs => by
      have := h (k + 1) d' s (by simpa using hk) (by rw [show n + (k + 1) = n + 1 + k by omega]; exact hs)
      rw [show n + (k + 1) = n + 1 + k by omega] at this
      exact this)
    rw [List.foldl_cons, List.length_cons, show n + (ds.length + 1) = n + 1 + ds.length by omega]
    exact this
/-- the same, as a rule to write over -/
theorem forL_foldR {σ : Type} (st : σ → Rho) (step : σ → D → σ) (I : Nat → σ → Prop) (s0 : σ) {bb : D → Rho → Option Rho} {body : Rho → Option Out} {ds : List D} {ρ0 : Rho} (e0 : ρ0 = st s0) (h0 : I 0 s0) (h : ∀ k d s, ds[k]? = some d → I k s → ∃ ρ1, bb d (st s) = some ρ1 ∧ body ρ1 = some (.next (st (step s d))) ∧ I (k + 1) (step s d)) :
    forL bb body ds ρ0 = some (.next (st (ds.foldl step s0))) := by
  rw [e0]
  exact forL_fold st step I ds 0 s0 h0 (fun k d s hk hs => by
    rw [Nat.zero_add] at hs ⊢
    exact h k d s hk hs)
theorem forL_genR {σ : Type} (st : σ → Rho) (step : σ → D → Sum σ Out) (I : Nat → σ → Prop) (s0 : σ) {bb : D → Rho → Option Rho} {body : Rho → Option Out} {ds : List D} {ρ0 : Rho} (e0 : ρ0 = st s0) (h0 : I 0 s0) (h : ∀ k d s, ds[k]? = some d → I k s → ∃ ρ1, bb d (st s) = some ρ1 ∧ (match step s d with
      | .inl s' => body ρ1 = some (.next (st s')) ∧ I (k + 1) s'
      | .inr o => body ρ1 = some o ∧ ∀ ρ, o ≠ .next ρ)) :
    forL bb body ds ρ0 = outL st (runL step ds s0) := by
  rw [e0]
  exact forL_gen st step I ds 0 s0 h0 (fun k d s hk hs => by
    rw [Nat.zero_add] at hs ⊢
    exact h k d s hk hs)
theorem compL_eq {bb : D → Rho → Option Rho} {mt : Rho → Option ResB} {me : Rho → Option Res} {ρ : Rho} (p : D → Bool) (g : D → D) : ∀ (ds : List D), (∀ d ∈ ds, ∃ ρ1, bb d ρ = some ρ1 ∧ mt ρ1 = some (.ok (p d)) ∧ (p d = true → me ρ1 = some (.ok (g d)))) → compL bb mt me ρ ds = some ((ds.filter p).map g)
  | [], _ => rfl
  | d :: ds, h => by
    obtain ⟨ρ1, e1, e2, e3⟩ := h d List.mem_cons_self
    have ih := compL_eq p g ds (fun d' hd => h d' (List.mem_cons_of_mem _ hd))
    unfold compL
    rw [e1]
    dsimp only
    rw [e2]
    cases e : p d with
    | true =>
      dsimp only
      rw [e3 e]
      dsimp only
      rw [ih, List.filter_cons, e]
      rfl
    | false =>
      dsimp only
      rw [ih, List.filter_cons, e]
      rfl
/-! ### the draws -/
def rowStep (ns : List Int) (a : Int) (s : Int × List Int × Option (Fl × D)) : D → Int × List Int × Option (Fl × D)
  | .int t => if cellN ns a < 10 ^ 18 then
      ((s.1 * 48271 + 131 * t + 7 + cellN ns ((a + 1 + t) % 20)) % 2147483647, s.2.1 ++ [(s.1 * 48271 + 131 * t + 7 + cellN ns ((a + 1 + t) % 20)) % 2147483647 / 11 % 1000], some (.dat, .int t))
    else (s.1 / 1000, s.2.1 ++ [s.1 % 1000], some (.dat, .int t))
  | _ => s
def rowN (ns : List Int) (a : Int) : List Int := ((rngL 0 60).foldl (rowStep ns a) (cellN ns a, [], none)).2.1
def CellOk (G : Gb) (c : Nat) : Prop := ∀ (ns : List Int) (k : Int), 0 ≤ k → G.phi c [.list (ns.map .int), .int k] = some (.ok (.int (cellN ns k)))
def RowOk (G : Gb) (c : Nat) : Prop := ∀ (ns : List Int) (a : Int), 0 ≤ a → G.phi c [.list (ns.map .int), .int a] = some (.ok (.list ((rowN ns a).map .int)))
theorem rngL_get {a b : Int} {k : Nat} {d : D} (h : (rngL a b)[k]? = some d) : d = .int (a + k) ∧ (k : Int) < b - a := by
  unfold rngL at h
  rw [List.getElem?_map] at h
  by_cases hk : k < (b - a).toNat
  · rw [List.getElem?_range hk] at h
    cases h
    exact ⟨rfl, by omega⟩
  · rw [List.getElem?_eq_none (by simpa using hk)] at h
    cases h
theorem rngL_len (a b : Int) : (rngL a b).length = (b - a).toNat := by
  unfold rngL
  simp
theorem row_inv (ns : List Int) (a : Int) : (rowN ns a).length = 60 ∧ ∀ x ∈ rowN ns a, 0 ≤ x ∧ x < 1000 := by
  have := fold_inv (step := rowStep ns a) (I := fun k s => s.2.1.length = k ∧ ∀ x ∈ s.2.1, 0 ≤ x ∧ x < 1000) (rngL 0 60) 0 (cellN ns a, [], none) ⟨rfl, fun x hx => nomatch hx⟩ (fun k d s hk hs => by
    obtain ⟨rfl, hk2⟩ := rngL_get hk
    unfold rowStep
    dsimp only
    have add1 : ∀ z : Int, 0 ≤ z ∧ z < 1000 → (s.2.1 ++ [z]).length = 0 + k + 1 ∧ ∀ x ∈ s.2.1 ++ [z], 0 ≤ x ∧ x < 1000 := fun z hz => ⟨by rw [List.length_append, hs.1]; rfl, fun x hx => by
      rcases List.mem_append.mp hx with hx | hx
      · exact hs.2 x hx
      · rw [List.mem_singleton.mp hx]
        exact hz⟩
    split
    · exact add1 _ (by omega)
    · exact add1 _ (by omega))
  rw [rngL_len] at this
  exact this
theorem row_sem (G : Gb) (c : Nat) (hc : CellOk G c) (ns : List Int) (a : Int) (ha : 0 ≤ a) : runF G 0 true (b_law_row c) 5 [.list (ns.map .int), .int a] = some (.ok (.list ((rowN ns a).map .int))) := by
  refine run_ret [some (.bor, .list (ns.map .int)), some (.bor, .int a), none, none, none] rfl ?_
  have hca := hc ns a ha
  have hr : rngOk 0 60 = true := rng_ok (by omega) (by omega) (by omega) (by omega) (by omega)
  simp -implicitDefEqProofs only [b_law_row, execSs, execS, seqS, thenS, retS, retNS, retV, mutL, mutD, keepX, ixD2, inD2, itemsOf, seqOf, zipI, enumI, cntV, popK, takeOff, extK, dputS, dct1, dkey, dinD, parK, bindX, ioV, nxK, retIO, callT, newA, evalT, evalX, evalZ, keepB, isDict, Bool.true_or, Bool.or_true, Bool.false_or, Bool.or_false, Bool.true_and, Bool.and_true, Bool.false_and, Bool.and_false, datK, ownK, tgK, appK, evalE, evalK, evalA, evalAnd, evalOr, evalO, evalF, evalI, evalC, keep, keepV, slotVal, lift1, lift2, liftA, consA, callF, notV, andT, orT, ifV, tstB, DD.ifS, DD.forS, compV, seqI, rngI, E.src, sem2, semC, semB, Ty.nm, Cst.d, boolRes, truth_bool, truth_none, truth_int, truth_list, truth_tuple, isi_int, isi_bool, isi_tuple, isi_list, isi_str, addD, subD, mul_int, fdiv_int, mod_int, ltD, leD, gtD, geD, lenD, isNone, negD, tg_one, tg_many, tgs_nil, tgs_cons, flatRoot, okSize, List.getElem?_cons_zero, List.getElem?_cons_succ, List.set_cons_zero, List.set_cons_succ, List.length_cons, List.length_nil, Option.map_some, Option.map_none, Nat.zero_add, if_true, if_false, Bool.not_true, Bool.not_false, reduceCtorEq, or_true, true_or, or_false, false_or, Nat.reduceAdd, Nat.reduceLeDiff, decide_true, decide_false, Bool.false_eq_true, hca, hr]
  rw [forL_foldR (fun s : Int × List Int × Option (Fl × D) => [some (Fl.bor, PyData.list (ns.map PyData.int)), some (Fl.bor, PyData.int a), some (Fl.dat, PyData.int s.1), some (Fl.own, PyData.list (s.2.1.map PyData.int)), s.2.2]) (rowStep ns a) (fun k s => s.2.1.length = k) (cellN ns a, [], none)]
  · simp -implicitDefEqProofs only [execSs, execS, seqS, thenS, retS, retNS, retV, mutL, mutD, keepX, ixD2, inD2, itemsOf, seqOf, zipI, enumI, cntV, popK, takeOff, extK, dputS, dct1, dkey, dinD, parK, bindX, ioV, nxK, retIO, callT, newA, evalT, evalX, evalZ, keepB, isDict, Bool.true_or, Bool.or_true, Bool.false_or, Bool.or_false, Bool.true_and, Bool.and_true, Bool.false_and, Bool.and_false, datK, ownK, tgK, appK, evalE, evalK, evalA, evalAnd, evalOr, evalO, evalF, evalI, evalC, keep, keepV, slotVal, lift1, lift2, liftA, consA, callF, notV, andT, orT, ifV, tstB, DD.ifS, DD.forS, compV, seqI, rngI, E.src, sem2, semC, semB, Ty.nm, Cst.d, boolRes, truth_bool, truth_none, truth_int, truth_list, truth_tuple, isi_int, isi_bool, isi_tuple, isi_list, isi_str, addD, subD, mul_int, fdiv_int, mod_int, ltD, leD, gtD, geD, lenD, isNone, negD, tg_one, tg_many, tgs_nil, tgs_cons, flatRoot, okSize, List.getElem?_cons_zero, List.getElem?_cons_succ, List.set_cons_zero, List.set_cons_succ, List.length_cons, List.length_nil, Option.map_some, Option.map_none, Nat.zero_add, if_true, if_false, Bool.not_true, Bool.not_false, reduceCtorEq, or_true, true_or, or_false, false_or, Nat.reduceAdd, Nat.reduceLeDiff, decide_true, decide_false, Bool.false_eq_true]
    rfl
  · rfl
  · rfl
  · intro k d s hk hs
    obtain ⟨rfl, hk2⟩ := rngL_get hk
    refine ⟨_, rfl, ?_⟩
    have hc2 := hc ns ((a + 1 + (0 + (k : Int))) % 20) (by omega)
    have hm1 : mulOk s.1 48271 = true := mul_ok2 (by omega) (by omega)
    have hm2 : mulOk 131 (0 + (k : Int)) = true := mul_ok1 (by omega) (by omega)
    have hp : powD (.int 10) (.int 18) = some (.int (10 ^ 18)) := rfl
    have hl : k < 16777216 := by omega
    unfold rowStep
    by_cases h1 : cellN ns a < 10 ^ 18
    · simp -implicitDefEqProofs only [execSs, execS, seqS, thenS, retS, retNS, retV, mutL, mutD, keepX, ixD2, inD2, itemsOf, seqOf, zipI, enumI, cntV, popK, takeOff, extK, dputS, dct1, dkey, dinD, parK, bindX, ioV, nxK, retIO, callT, newA, evalT, evalX, evalZ, keepB, isDict, Bool.true_or, Bool.or_true, Bool.false_or, Bool.or_false, Bool.true_and, Bool.and_true, Bool.false_and, Bool.and_false, datK, ownK, tgK, appK, evalE, evalK, evalA, evalAnd, evalOr, evalO, evalF, evalI, evalC, keep, keepV, slotVal, lift1, lift2, liftA, consA, callF, notV, andT, orT, ifV, tstB, DD.ifS, DD.forS, compV, seqI, rngI, E.src, sem2, semC, semB, Ty.nm, Cst.d, boolRes, truth_bool, truth_none, truth_int, truth_list, truth_tuple, isi_int, isi_bool, isi_tuple, isi_list, isi_str, addD, subD, mul_int, fdiv_int, mod_int, ltD, leD, gtD, geD, lenD, isNone, negD, tg_one, tg_many, tgs_nil, tgs_cons, flatRoot, okSize, List.getElem?_cons_zero, List.getElem?_cons_succ, List.set_cons_zero, List.set_cons_succ, List.length_cons, List.length_nil, Option.map_some, Option.map_none, Nat.zero_add, if_true, if_false, Bool.not_true, Bool.not_false, reduceCtorEq, or_true, true_or, or_false, false_or, Nat.reduceAdd, Nat.reduceLeDiff, decide_true, decide_false, Bool.false_eq_true, hca, hc2, hm1, hm2, hp, h1, List.length_map, hl, List.map_append, List.map_cons, List.map_nil, Int.reduceLT, and_self, List.length_append, hs]
    · simp -implicitDefEqProofs only [execSs, execS, seqS, thenS, retS, retNS, retV, mutL, mutD, keepX, ixD2, inD2, itemsOf, seqOf, zipI, enumI, cntV, popK, takeOff, extK, dputS, dct1, dkey, dinD, parK, bindX, ioV, nxK, retIO, callT, newA, evalT, evalX, evalZ, keepB, isDict, Bool.true_or, Bool.or_true, Bool.false_or, Bool.or_false, Bool.true_and, Bool.and_true, Bool.false_and, Bool.and_false, datK, ownK, tgK, appK, evalE, evalK, evalA, evalAnd, evalOr, evalO, evalF, evalI, evalC, keep, keepV, slotVal, lift1, lift2, liftA, consA, callF, notV, andT, orT, ifV, tstB, DD.ifS, DD.forS, compV, seqI, rngI, E.src, sem2, semC, semB, Ty.nm, Cst.d, boolRes, truth_bool, truth_none, truth_int, truth_list, truth_tuple, isi_int, isi_bool, isi_tuple, isi_list, isi_str, addD, subD, mul_int, fdiv_int, mod_int, ltD, leD, gtD, geD, lenD, isNone, negD, tg_one, tg_many, tgs_nil, tgs_cons, flatRoot, okSize, List.getElem?_cons_zero, List.getElem?_cons_succ, List.set_cons_zero, List.set_cons_succ, List.length_cons, List.length_nil, Option.map_some, Option.map_none, Nat.zero_add, if_true, if_false, Bool.not_true, Bool.not_false, reduceCtorEq, or_true, true_or, or_false, false_or, Nat.reduceAdd, Nat.reduceLeDiff, decide_true, decide_false, Bool.false_eq_true, hca, hc2, hm1, hm2, hp, h1, List.length_map, hl, List.map_append, List.map_cons, List.map_nil, Int.reduceLT, and_self, List.length_append, hs]
end
end DD

namespace DD
noncomputable section
open PySem PySem.Spec PyProof.Rows L2
/-! ### doors, buildings -/
structure Door where
  a : Int
  b : Int
  two : Bool
def kindS (t : Bool) : Str := if t = true then "two-way" else "one-way"
def Door.d (x : Door) : D := .tuple [.int x.a, .int x.b, .str (kindS x.two)]
structure Bld where
  R : Int
  ds : List Door
def Bld.d (b : Bld) : D := .tuple [.int b.R, .tuple (b.ds.map Door.d)]
def Door.ok (R : Int) (x : Door) : Prop := 0 ≤ x.a ∧ x.a < R ∧ 0 ≤ x.b ∧ x.b < R ∧ (if x.two = true then x.a < x.b else x.a ≠ x.b)
structure Bld.ok (b : Bld) : Prop where
  r1 : 1 ≤ b.R
  r6 : b.R ≤ 6
  n8 : b.ds.length ≤ 8
  all : ∀ x ∈ b.ds, x.ok b.R
def Door.side (x : Door) (r : Int) : Option Int := if r = x.a then some x.b else if r = x.b ∧ x.two = true then some x.a else none
def oI : Option Int → D
  | none => .none
  | some i => .int i
theorem at_c0 (x : D) (xs : List D) : atI (x :: xs) 0 = some x := atI_nat (by omega) rfl
theorem at_c1 (x y : D) (xs : List D) : atI (x :: y :: xs) 1 = some y := atI_nat (by omega) rfl
theorem at_c2 (x y z : D) (xs : List D) : atI (x :: y :: z :: xs) 2 = some z := atI_nat (by omega) rfl
theorem eq_int (i j : Int) : eqD (.int i) (.int j) = some (.bool (decide (i = j))) := by
  unfold eqD
  rw [if_pos ⟨rfl, rfl, rfl, rfl⟩]
  rfl
theorem ne_int (i j : Int) : neD (.int i) (.int j) = some (.bool (!decide (i = j))) := by
  unfold neD
  rw [if_pos ⟨rfl, rfl, rfl, rfl⟩]
  rfl
theorem eq_kind (t u : Bool) : eqD (.str (kindS t)) (.str (kindS u)) = some (.bool (t == u)) := by
  cases t <;> cases u <;> kernel_rfl
theorem at_door {b : Bld} {k : Nat} {x : Door} (h : b.ds[k]? = some x) : atI (b.ds.map Door.d) (k : Int) = some x.d := atI_nat (by omega) (by
  rw [Int.toNat_natCast, List.getElem?_map, h]
  rfl)
theorem side_sem (G : Gb) (b : Bld) (k : Nat) (x : Door) (r : Int) (h : b.ds[k]? = some x) : runF G 0 false b_law_side 6 [b.d, .int k, .int r] = some (.ok (oI (x.side r))) := by
  refine run_ret [some (.bor, b.d), some (.bor, .int k), some (.bor, .int r), none, none, none] rfl ?_
  have e1 : (PyData.str "two-way") = .str (kindS true) := rfl
  unfold Door.side
  by_cases h1 : r = x.a
  · simp -implicitDefEqProofs only [b_law_side, execSs, execS, seqS, thenS, retS, retNS, retV, mutL, mutD, keepX, ixD2, inD2, itemsOf, seqOf, zipI, enumI, cntV, popK, takeOff, extK, dputS, dct1, dkey, dinD, parK, bindX, ioV, nxK, retIO, callT, newA, evalT, evalX, evalZ, keepB, isDict, Bool.true_or, Bool.or_true, Bool.false_or, Bool.or_false, Bool.true_and, Bool.and_true, Bool.false_and, Bool.and_false, datK, ownK, tgK, appK, evalE, evalK, evalA, evalAnd, evalOr, evalO, evalF, evalI, evalC, keep, keepV, slotVal, lift1, lift2, liftA, consA, callF, notV, andT, orT, ifV, tstB, DD.ifS, DD.forS, compV, seqI, rngI, E.src, sem2, semC, semB, Ty.nm, Cst.d, boolRes, truth_bool, truth_none, truth_int, truth_list, truth_tuple, isi_int, isi_bool, isi_tuple, isi_list, isi_str, addD, subD, mul_int, fdiv_int, mod_int, ltD, leD, gtD, geD, lenD, isNone, negD, tg_one, tg_many, tgs_nil, tgs_cons, flatRoot, okSize, List.getElem?_cons_zero, List.getElem?_cons_succ, List.set_cons_zero, List.set_cons_succ, List.length_cons, List.length_nil, Option.map_some, Option.map_none, Nat.zero_add, if_true, if_false, Bool.not_true, Bool.not_false, reduceCtorEq, or_true, true_or, or_false, false_or, Nat.reduceAdd, Nat.reduceLeDiff, decide_true, decide_false, Bool.false_eq_true, Bld.d, Door.d, ixD, at_c1, at_door h, eq_int, h1, oI]
  · have k1 := eq_false h1
    by_cases h2 : r = x.b
    · have k2 := eq_true h2
      cases h3 : x.two <;> simp -implicitDefEqProofs only [b_law_side, execSs, execS, seqS, thenS, retS, retNS, retV, mutL, mutD, keepX, ixD2, inD2, itemsOf, seqOf, zipI, enumI, cntV, popK, takeOff, extK, dputS, dct1, dkey, dinD, parK, bindX, ioV, nxK, retIO, callT, newA, evalT, evalX, evalZ, keepB, isDict, Bool.true_or, Bool.or_true, Bool.false_or, Bool.or_false, Bool.true_and, Bool.and_true, Bool.false_and, Bool.and_false, datK, ownK, tgK, appK, evalE, evalK, evalA, evalAnd, evalOr, evalO, evalF, evalI, evalC, keep, keepV, slotVal, lift1, lift2, liftA, consA, callF, notV, andT, orT, ifV, tstB, DD.ifS, DD.forS, compV, seqI, rngI, E.src, sem2, semC, semB, Ty.nm, Cst.d, boolRes, truth_bool, truth_none, truth_int, truth_list, truth_tuple, isi_int, isi_bool, isi_tuple, isi_list, isi_str, addD, subD, mul_int, fdiv_int, mod_int, ltD, leD, gtD, geD, lenD, isNone, negD, tg_one, tg_many, tgs_nil, tgs_cons, flatRoot, okSize, List.getElem?_cons_zero, List.getElem?_cons_succ, List.set_cons_zero, List.set_cons_succ, List.length_cons, List.length_nil, Option.map_some, Option.map_none, Nat.zero_add, if_true, if_false, Bool.not_true, Bool.not_false, reduceCtorEq, or_true, true_or, or_false, false_or, Nat.reduceAdd, Nat.reduceLeDiff, decide_true, decide_false, Bool.false_eq_true, Bld.d, Door.d, ixD, at_c1, at_door h, eq_int, k1, k2, h3, oI, e1, eq_kind, Bool.false_beq, beq_self_eq_true, and_true, and_false]
    · have k2 := eq_false h2
      cases h3 : x.two <;> simp -implicitDefEqProofs only [b_law_side, execSs, execS, seqS, thenS, retS, retNS, retV, mutL, mutD, keepX, ixD2, inD2, itemsOf, seqOf, zipI, enumI, cntV, popK, takeOff, extK, dputS, dct1, dkey, dinD, parK, bindX, ioV, nxK, retIO, callT, newA, evalT, evalX, evalZ, keepB, isDict, Bool.true_or, Bool.or_true, Bool.false_or, Bool.or_false, Bool.true_and, Bool.and_true, Bool.false_and, Bool.and_false, datK, ownK, tgK, appK, evalE, evalK, evalA, evalAnd, evalOr, evalO, evalF, evalI, evalC, keep, keepV, slotVal, lift1, lift2, liftA, consA, callF, notV, andT, orT, ifV, tstB, DD.ifS, DD.forS, compV, seqI, rngI, E.src, sem2, semC, semB, Ty.nm, Cst.d, boolRes, truth_bool, truth_none, truth_int, truth_list, truth_tuple, isi_int, isi_bool, isi_tuple, isi_list, isi_str, addD, subD, mul_int, fdiv_int, mod_int, ltD, leD, gtD, geD, lenD, isNone, negD, tg_one, tg_many, tgs_nil, tgs_cons, flatRoot, okSize, List.getElem?_cons_zero, List.getElem?_cons_succ, List.set_cons_zero, List.set_cons_succ, List.length_cons, List.length_nil, Option.map_some, Option.map_none, Nat.zero_add, if_true, if_false, Bool.not_true, Bool.not_false, reduceCtorEq, or_true, true_or, or_false, false_or, Nat.reduceAdd, Nat.reduceLeDiff, decide_true, decide_false, Bool.false_eq_true, Bld.d, Door.d, ixD, at_c1, at_door h, eq_int, k1, k2, h3, oI, e1, eq_kind, false_and]
theorem oside_sem (G : Gb) (g : Nat) (hg : ∃ z, G.csts[g]? = some (z, .str "two-way")) (b : Bld) (k : Nat) (x : Door) (r : Int) (h : b.ds[k]? = some x) : runF G 0 false (b_other_side g) 6 [b.d, .int k, .int r] = some (.ok (oI (x.side r))) := by
  refine run_ret [some (.bor, b.d), some (.bor, .int k), some (.bor, .int r), none, none, none] rfl ?_
  have e1 : (PyData.str "two-way") = .str (kindS true) := rfl
  obtain ⟨z, hg⟩ := hg
  unfold Door.side
  by_cases h1 : r = x.a
  · simp -implicitDefEqProofs only [b_other_side, execSs, execS, seqS, thenS, retS, retNS, retV, mutL, mutD, keepX, ixD2, inD2, itemsOf, seqOf, zipI, enumI, cntV, popK, takeOff, extK, dputS, dct1, dkey, dinD, parK, bindX, ioV, nxK, retIO, callT, newA, evalT, evalX, evalZ, keepB, isDict, Bool.true_or, Bool.or_true, Bool.false_or, Bool.or_false, Bool.true_and, Bool.and_true, Bool.false_and, Bool.and_false, datK, ownK, tgK, appK, evalE, evalK, evalA, evalAnd, evalOr, evalO, evalF, evalI, evalC, keep, keepV, slotVal, lift1, lift2, liftA, consA, callF, notV, andT, orT, ifV, tstB, DD.ifS, DD.forS, compV, seqI, rngI, E.src, sem2, semC, semB, Ty.nm, Cst.d, boolRes, truth_bool, truth_none, truth_int, truth_list, truth_tuple, isi_int, isi_bool, isi_tuple, isi_list, isi_str, addD, subD, mul_int, fdiv_int, mod_int, ltD, leD, gtD, geD, lenD, isNone, negD, tg_one, tg_many, tgs_nil, tgs_cons, flatRoot, okSize, List.getElem?_cons_zero, List.getElem?_cons_succ, List.set_cons_zero, List.set_cons_succ, List.length_cons, List.length_nil, Option.map_some, Option.map_none, Nat.zero_add, if_true, if_false, Bool.not_true, Bool.not_false, reduceCtorEq, or_true, true_or, or_false, false_or, Nat.reduceAdd, Nat.reduceLeDiff, decide_true, decide_false, Bool.false_eq_true, Bld.d, Door.d, ixD, at_c1, at_door h, eq_int, h1, oI]
  · have k1 := eq_false h1
    by_cases h2 : r = x.b
    · have k2 := eq_true h2
      cases h3 : x.two <;> simp -implicitDefEqProofs only [b_other_side, execSs, execS, seqS, thenS, retS, retNS, retV, mutL, mutD, keepX, ixD2, inD2, itemsOf, seqOf, zipI, enumI, cntV, popK, takeOff, extK, dputS, dct1, dkey, dinD, parK, bindX, ioV, nxK, retIO, callT, newA, evalT, evalX, evalZ, keepB, isDict, Bool.true_or, Bool.or_true, Bool.false_or, Bool.or_false, Bool.true_and, Bool.and_true, Bool.false_and, Bool.and_false, datK, ownK, tgK, appK, evalE, evalK, evalA, evalAnd, evalOr, evalO, evalF, evalI, evalC, keep, keepV, slotVal, lift1, lift2, liftA, consA, callF, notV, andT, orT, ifV, tstB, DD.ifS, DD.forS, compV, seqI, rngI, E.src, sem2, semC, semB, Ty.nm, Cst.d, boolRes, truth_bool, truth_none, truth_int, truth_list, truth_tuple, isi_int, isi_bool, isi_tuple, isi_list, isi_str, addD, subD, mul_int, fdiv_int, mod_int, ltD, leD, gtD, geD, lenD, isNone, negD, tg_one, tg_many, tgs_nil, tgs_cons, flatRoot, okSize, List.getElem?_cons_zero, List.getElem?_cons_succ, List.set_cons_zero, List.set_cons_succ, List.length_cons, List.length_nil, Option.map_some, Option.map_none, Nat.zero_add, if_true, if_false, Bool.not_true, Bool.not_false, reduceCtorEq, or_true, true_or, or_false, false_or, Nat.reduceAdd, Nat.reduceLeDiff, decide_true, decide_false, Bool.false_eq_true, Bld.d, Door.d, ixD, at_c1, at_door h, eq_int, k1, k2, h3, oI, hg, e1, eq_kind, Bool.false_beq, beq_self_eq_true, and_true, and_false]
    · have k2 := eq_false h2
      cases h3 : x.two <;> simp -implicitDefEqProofs only [b_other_side, execSs, execS, seqS, thenS, retS, retNS, retV, mutL, mutD, keepX, ixD2, inD2, itemsOf, seqOf, zipI, enumI, cntV, popK, takeOff, extK, dputS, dct1, dkey, dinD, parK, bindX, ioV, nxK, retIO, callT, newA, evalT, evalX, evalZ, keepB, isDict, Bool.true_or, Bool.or_true, Bool.false_or, Bool.or_false, Bool.true_and, Bool.and_true, Bool.false_and, Bool.and_false, datK, ownK, tgK, appK, evalE, evalK, evalA, evalAnd, evalOr, evalO, evalF, evalI, evalC, keep, keepV, slotVal, lift1, lift2, liftA, consA, callF, notV, andT, orT, ifV, tstB, DD.ifS, DD.forS, compV, seqI, rngI, E.src, sem2, semC, semB, Ty.nm, Cst.d, boolRes, truth_bool, truth_none, truth_int, truth_list, truth_tuple, isi_int, isi_bool, isi_tuple, isi_list, isi_str, addD, subD, mul_int, fdiv_int, mod_int, ltD, leD, gtD, geD, lenD, isNone, negD, tg_one, tg_many, tgs_nil, tgs_cons, flatRoot, okSize, List.getElem?_cons_zero, List.getElem?_cons_succ, List.set_cons_zero, List.set_cons_succ, List.length_cons, List.length_nil, Option.map_some, Option.map_none, Nat.zero_add, if_true, if_false, Bool.not_true, Bool.not_false, reduceCtorEq, or_true, true_or, or_false, false_or, Nat.reduceAdd, Nat.reduceLeDiff, decide_true, decide_false, Bool.false_eq_true, Bld.d, Door.d, ixD, at_c1, at_door h, eq_int, k1, k2, h3, oI, hg, e1, eq_kind, false_and]
/-! ### is_door, is_building -/
theorem whole_sem (G : Gb) (v : D) : runF G 0 false b_law_whole 1 [v] = some (.ok (.bool (isInt v && !isBool v))) := by
  refine run_ret [some (.bor, v)] rfl ?_
  cases v <;> simp -implicitDefEqProofs only [b_law_whole, execSs, execS, seqS, thenS, retS, retNS, retV, mutL, mutD, keepX, ixD2, inD2, itemsOf, seqOf, zipI, enumI, cntV, popK, takeOff, extK, dputS, dct1, dkey, dinD, parK, bindX, ioV, nxK, retIO, callT, newA, evalT, evalX, evalZ, keepB, isDict, Bool.true_or, Bool.or_true, Bool.false_or, Bool.or_false, Bool.true_and, Bool.and_true, Bool.false_and, Bool.and_false, datK, ownK, tgK, appK, evalE, evalK, evalA, evalAnd, evalOr, evalO, evalF, evalI, evalC, keep, keepV, slotVal, lift1, lift2, liftA, consA, callF, notV, andT, orT, ifV, tstB, DD.ifS, DD.forS, compV, seqI, rngI, E.src, sem2, semC, semB, Ty.nm, Cst.d, boolRes, truth_bool, truth_none, truth_int, truth_list, truth_tuple, isi_int, isi_bool, isi_tuple, isi_list, isi_str, addD, subD, mul_int, fdiv_int, mod_int, ltD, leD, gtD, geD, lenD, isNone, negD, tg_one, tg_many, tgs_nil, tgs_cons, flatRoot, okSize, List.getElem?_cons_zero, List.getElem?_cons_succ, List.set_cons_zero, List.set_cons_succ, List.length_cons, List.length_nil, Option.map_some, Option.map_none, Nat.zero_add, if_true, if_false, Bool.not_true, Bool.not_false, reduceCtorEq, or_true, true_or, or_false, false_or, Nat.reduceAdd, Nat.reduceLeDiff, decide_true, decide_false, Bool.false_eq_true, isInt, isBool, Bool.and_true, Bool.and_false]
def WholeOk (G : Gb) (c : Nat) : Prop := ∀ v, G.phi c [v] = some (.ok (.bool (isInt v && !isBool v)))
theorem in_sem (G : Gb) (c : Nat) (hc : WholeOk G c) (v : D) (lo hi : Int) : runF G 0 false (b_law_in c) 3 [v, .int lo, .int hi] = some (.ok (.bool (inR v lo hi))) := by
  refine run_ret [some (.bor, v), some (.bor, .int lo), some (.bor, .int hi)] rfl ?_
  have h := hc v
  cases v with
  | int i =>
    by_cases h1 : lo ≤ i <;> by_cases h2 : i ≤ hi <;> simp -implicitDefEqProofs only [b_law_in, execSs, execS, seqS, thenS, retS, retNS, retV, mutL, mutD, keepX, ixD2, inD2, itemsOf, seqOf, zipI, enumI, cntV, popK, takeOff, extK, dputS, dct1, dkey, dinD, parK, bindX, ioV, nxK, retIO, callT, newA, evalT, evalX, evalZ, keepB, isDict, Bool.true_or, Bool.or_true, Bool.false_or, Bool.or_false, Bool.true_and, Bool.and_true, Bool.false_and, Bool.and_false, datK, ownK, tgK, appK, evalE, evalK, evalA, evalAnd, evalOr, evalO, evalF, evalI, evalC, keep, keepV, slotVal, lift1, lift2, liftA, consA, callF, notV, andT, orT, ifV, tstB, DD.ifS, DD.forS, compV, seqI, rngI, E.src, sem2, semC, semB, Ty.nm, Cst.d, boolRes, truth_bool, truth_none, truth_int, truth_list, truth_tuple, isi_int, isi_bool, isi_tuple, isi_list, isi_str, addD, subD, mul_int, fdiv_int, mod_int, ltD, leD, gtD, geD, lenD, isNone, negD, tg_one, tg_many, tgs_nil, tgs_cons, flatRoot, okSize, List.getElem?_cons_zero, List.getElem?_cons_succ, List.set_cons_zero, List.set_cons_succ, List.length_cons, List.length_nil, Option.map_some, Option.map_none, Nat.zero_add, if_true, if_false, Bool.not_true, Bool.not_false, reduceCtorEq, or_true, true_or, or_false, false_or, Nat.reduceAdd, Nat.reduceLeDiff, decide_true, decide_false, Bool.false_eq_true, h, isInt, isBool, h1, h2, inR, Bool.and_true, Bool.and_false, Bool.true_and, Bool.false_and]
  | _ => simp -implicitDefEqProofs only [b_law_in, execSs, execS, seqS, thenS, retS, retNS, retV, mutL, mutD, keepX, ixD2, inD2, itemsOf, seqOf, zipI, enumI, cntV, popK, takeOff, extK, dputS, dct1, dkey, dinD, parK, bindX, ioV, nxK, retIO, callT, newA, evalT, evalX, evalZ, keepB, isDict, Bool.true_or, Bool.or_true, Bool.false_or, Bool.or_false, Bool.true_and, Bool.and_true, Bool.false_and, Bool.and_false, datK, ownK, tgK, appK, evalE, evalK, evalA, evalAnd, evalOr, evalO, evalF, evalI, evalC, keep, keepV, slotVal, lift1, lift2, liftA, consA, callF, notV, andT, orT, ifV, tstB, DD.ifS, DD.forS, compV, seqI, rngI, E.src, sem2, semC, semB, Ty.nm, Cst.d, boolRes, truth_bool, truth_none, truth_int, truth_list, truth_tuple, isi_int, isi_bool, isi_tuple, isi_list, isi_str, addD, subD, mul_int, fdiv_int, mod_int, ltD, leD, gtD, geD, lenD, isNone, negD, tg_one, tg_many, tgs_nil, tgs_cons, flatRoot, okSize, List.getElem?_cons_zero, List.getElem?_cons_succ, List.set_cons_zero, List.set_cons_succ, List.length_cons, List.length_nil, Option.map_some, Option.map_none, Nat.zero_add, if_true, if_false, Bool.not_true, Bool.not_false, reduceCtorEq, or_true, true_or, or_false, false_or, Nat.reduceAdd, Nat.reduceLeDiff, decide_true, decide_false, Bool.false_eq_true, h, isInt, isBool, inR, Bool.and_true, Bool.and_false]
def InOk (G : Gb) (c : Nat) : Prop := ∀ (v : D) (lo hi : Int), G.phi c [v, .int lo, .int hi] = some (.ok (.bool (inR v lo hi)))
def SideOk (G : Gb) (c : Nat) : Prop := ∀ (b : Bld) (k : Nat) (x : Door) (r : Int), b.ds[k]? = some x → G.phi c [b.d, .int k, .int r] = some (.ok (oI (x.side r)))
structure Kinds (G : Gb) (g1 g2 : Nat) : Prop where
  one : ∃ z, G.csts[g1]? = some (z, .str "one-way")
  two : ∃ z, G.csts[g2]? = some (z, .str "two-way")
theorem isdoor_sem (G : Gb) (g2 g1 c : Nat) (hk : Kinds G g1 g2) (hc : InOk G c) (R : Int) (x : Door) (hx : x.ok R) : runF G 0 false (b_is_door g2 g1 c) 2 [.int R, x.d] = some (.ok (.bool true)) := by
  refine run_ret [some (.bor, .int R), some (.bor, x.d)] rfl ?_
  obtain ⟨⟨z1, k1⟩, ⟨z2, k2⟩⟩ := hk
  obtain ⟨a1, a2, a3, a4, a5⟩ := hx
  have e1 : (PyData.str "one-way") = .str (kindS false) := rfl
  have e2 : (PyData.str "two-way") = .str (kindS true) := rfl
  have i1 : inD (.str (kindS x.two)) (.tuple [.str (kindS false), .str (kindS true)]) = some true := by
    cases x.two <;> kernel_rfl
  have r1 : inR (.int x.a) 0 (R - 1) = true := by unfold inR; simp; omega
  have r2 : inR (.int x.b) 0 (R - 1) = true := by unfold inR; simp; omega
  have n3 : neD (.int 3) (.int 3) = some (.bool false) := rfl
  have cc1 := hc (.int x.a) 0 (R - 1)
  have cc2 := hc (.int x.b) 0 (R - 1)
  rw [r1] at cc1
  rw [r2] at cc2
  have l3 : ((0 + 1 + 1 + 1 : Nat) : Int) = 3 := rfl
  cases h3 : x.two with
  | true =>
    rw [h3] at a5 i1
    have a5' : x.a < x.b := by simpa using a5
    simp -implicitDefEqProofs only [b_is_door, execSs, execS, seqS, thenS, retS, retNS, retV, mutL, mutD, keepX, ixD2, inD2, itemsOf, seqOf, zipI, enumI, cntV, popK, takeOff, extK, dputS, dct1, dkey, dinD, parK, bindX, ioV, nxK, retIO, callT, newA, evalT, evalX, evalZ, keepB, isDict, Bool.true_or, Bool.or_true, Bool.false_or, Bool.or_false, Bool.true_and, Bool.and_true, Bool.false_and, Bool.and_false, datK, ownK, tgK, appK, evalE, evalK, evalA, evalAnd, evalOr, evalO, evalF, evalI, evalC, keep, keepV, slotVal, lift1, lift2, liftA, consA, callF, notV, andT, orT, ifV, tstB, DD.ifS, DD.forS, compV, seqI, rngI, E.src, sem2, semC, semB, Ty.nm, Cst.d, boolRes, truth_bool, truth_none, truth_int, truth_list, truth_tuple, isi_int, isi_bool, isi_tuple, isi_list, isi_str, addD, subD, mul_int, fdiv_int, mod_int, ltD, leD, gtD, geD, lenD, isNone, negD, tg_one, tg_many, tgs_nil, tgs_cons, flatRoot, okSize, List.getElem?_cons_zero, List.getElem?_cons_succ, List.set_cons_zero, List.set_cons_succ, List.length_cons, List.length_nil, Option.map_some, Option.map_none, Nat.zero_add, if_true, if_false, Bool.not_true, Bool.not_false, reduceCtorEq, or_true, true_or, or_false, false_or, Nat.reduceAdd, Nat.reduceLeDiff, decide_true, decide_false, Bool.false_eq_true, Door.d, isTup, ixD, at_c0, at_c1, at_c2, k1, k2, e1, e2, h3, i1, cc1, cc2, eq_kind, ne_int, a5', l3, Bool.not_true, Bool.not_false, beq_self_eq_true, Bool.true_beq, decide_true]
  | false =>
    rw [h3] at a5 i1
    have a5' : (x.a = x.b) = False := eq_false (by simpa using a5)
    simp -implicitDefEqProofs only [b_is_door, execSs, execS, seqS, thenS, retS, retNS, retV, mutL, mutD, keepX, ixD2, inD2, itemsOf, seqOf, zipI, enumI, cntV, popK, takeOff, extK, dputS, dct1, dkey, dinD, parK, bindX, ioV, nxK, retIO, callT, newA, evalT, evalX, evalZ, keepB, isDict, Bool.true_or, Bool.or_true, Bool.false_or, Bool.or_false, Bool.true_and, Bool.and_true, Bool.false_and, Bool.and_false, datK, ownK, tgK, appK, evalE, evalK, evalA, evalAnd, evalOr, evalO, evalF, evalI, evalC, keep, keepV, slotVal, lift1, lift2, liftA, consA, callF, notV, andT, orT, ifV, tstB, DD.ifS, DD.forS, compV, seqI, rngI, E.src, sem2, semC, semB, Ty.nm, Cst.d, boolRes, truth_bool, truth_none, truth_int, truth_list, truth_tuple, isi_int, isi_bool, isi_tuple, isi_list, isi_str, addD, subD, mul_int, fdiv_int, mod_int, ltD, leD, gtD, geD, lenD, isNone, negD, tg_one, tg_many, tgs_nil, tgs_cons, flatRoot, okSize, List.getElem?_cons_zero, List.getElem?_cons_succ, List.set_cons_zero, List.set_cons_succ, List.length_cons, List.length_nil, Option.map_some, Option.map_none, Nat.zero_add, if_true, if_false, Bool.not_true, Bool.not_false, reduceCtorEq, or_true, true_or, or_false, false_or, Nat.reduceAdd, Nat.reduceLeDiff, decide_true, decide_false, Bool.false_eq_true, Door.d, isTup, ixD, at_c0, at_c1, at_c2, k1, k2, e1, e2, h3, i1, cc1, cc2, eq_kind, ne_int, a5', l3, Bool.not_true, Bool.not_false, beq_self_eq_true]
end
end DD

namespace DD
noncomputable section
open PySem PySem.Spec PyProof.Rows L2
def IsDoorOk (G : Gb) (c : Nat) : Prop := ∀ (R : Int) (x : Door), x.ok R → G.phi c [.int R, x.d] = some (.ok (.bool true))
def CInt (G : Gb) (g : Nat) (i : Int) : Prop := ∃ z, G.csts[g]? = some (z, .int i)
theorem isbld_sem (G : Gb) (ci g1 g2 cd : Nat) (hi : InOk G ci) (h1 : CInt G g1 6) (h2 : CInt G g2 8) (hd : IsDoorOk G cd) (b : Bld) (hb : b.ok) : runF G 0 true (b_is_building ci g1 g2 cd) 2 [b.d] = some (.ok (.bool true)) := by
  refine run_ret [some (.bor, b.d), none] rfl ?_
  obtain ⟨z1, k1⟩ := h1
  obtain ⟨z2, k2⟩ := h2
  have r1 : inR (.int b.R) 1 6 = true := by
    have := hb.r1
    have := hb.r6
    unfold inR; simp; omega
  have cc := hi (.int b.R) 1 6
  rw [r1] at cc
  have l2 : ((0 + 1 + 1 : Nat) : Int) = 2 := rfl
  have n8 := eq_false (show ¬ ((b.ds.length : Int) > 8) by have := hb.n8; omega)
  simp -implicitDefEqProofs only [b_is_building, execSs, execS, seqS, thenS, retS, retNS, retV, mutL, mutD, keepX, ixD2, inD2, itemsOf, seqOf, zipI, enumI, cntV, popK, takeOff, extK, dputS, dct1, dkey, dinD, parK, bindX, ioV, nxK, retIO, callT, newA, evalT, evalX, evalZ, keepB, isDict, Bool.true_or, Bool.or_true, Bool.false_or, Bool.or_false, Bool.true_and, Bool.and_true, Bool.false_and, Bool.and_false, datK, ownK, tgK, appK, evalE, evalK, evalA, evalAnd, evalOr, evalO, evalF, evalI, evalC, keep, keepV, slotVal, lift1, lift2, liftA, consA, callF, notV, andT, orT, ifV, tstB, DD.ifS, DD.forS, compV, seqI, rngI, E.src, sem2, semC, semB, Ty.nm, Cst.d, boolRes, truth_bool, truth_none, truth_int, truth_list, truth_tuple, isi_int, isi_bool, isi_tuple, isi_list, isi_str, addD, subD, mul_int, fdiv_int, mod_int, ltD, leD, gtD, geD, lenD, isNone, negD, tg_one, tg_many, tgs_nil, tgs_cons, flatRoot, okSize, List.getElem?_cons_zero, List.getElem?_cons_succ, List.set_cons_zero, List.set_cons_succ, List.length_cons, List.length_nil, Option.map_some, Option.map_none, Nat.zero_add, if_true, if_false, Bool.not_true, Bool.not_false, reduceCtorEq, or_true, true_or, or_false, false_or, Nat.reduceAdd, Nat.reduceLeDiff, decide_true, decide_false, Bool.false_eq_true, Bld.d, isTup, ixD, at_c0, at_c1, k1, k2, cc, ne_int, l2, List.length_map, n8, Bool.not_true, Bool.not_false, wipeR, List.map_cons, List.map_nil]
  rw [compL_eq (fun _ => false) id]
  · simp [truth_list]
  · intro d hm
    obtain ⟨x, hx, rfl⟩ := List.mem_map.mp hm
    refine ⟨_, rfl, ?_, fun z => nomatch z⟩
    have cd := hd b.R x (hb.all x hx)
    simp -implicitDefEqProofs only [execSs, execS, seqS, thenS, retS, retNS, retV, mutL, mutD, keepX, ixD2, inD2, itemsOf, seqOf, zipI, enumI, cntV, popK, takeOff, extK, dputS, dct1, dkey, dinD, parK, bindX, ioV, nxK, retIO, callT, newA, evalT, evalX, evalZ, keepB, isDict, Bool.true_or, Bool.or_true, Bool.false_or, Bool.or_false, Bool.true_and, Bool.and_true, Bool.false_and, Bool.and_false, datK, ownK, tgK, appK, evalE, evalK, evalA, evalAnd, evalOr, evalO, evalF, evalI, evalC, keep, keepV, slotVal, lift1, lift2, liftA, consA, callF, notV, andT, orT, ifV, tstB, DD.ifS, DD.forS, compV, seqI, rngI, E.src, sem2, semC, semB, Ty.nm, Cst.d, boolRes, truth_bool, truth_none, truth_int, truth_list, truth_tuple, isi_int, isi_bool, isi_tuple, isi_list, isi_str, addD, subD, mul_int, fdiv_int, mod_int, ltD, leD, gtD, geD, lenD, isNone, negD, tg_one, tg_many, tgs_nil, tgs_cons, flatRoot, okSize, List.getElem?_cons_zero, List.getElem?_cons_succ, List.set_cons_zero, List.set_cons_succ, List.length_cons, List.length_nil, Option.map_some, Option.map_none, Nat.zero_add, if_true, if_false, Bool.not_true, Bool.not_false, reduceCtorEq, or_true, true_or, or_false, false_or, Nat.reduceAdd, Nat.reduceLeDiff, decide_true, decide_false, Bool.false_eq_true, ixD, at_c0, cd, Bool.not_true]
def IsBldOk (G : Gb) (c : Nat) : Prop := ∀ b : Bld, b.ok → G.phi c [b.d] = some (.ok (.bool true))
theorem chkbld_sem (G : Gb) (c x : Nat) (hc : IsBldOk G c) (b : Bld) (hb : b.ok) : runF G 0 true (b_check_building c x) 1 [b.d] = some (.ok .none) := by
  refine run_next (ρ' := [some (.bor, b.d)]) [some (.bor, b.d)] rfl ?_
  have cc := hc b hb
  simp -implicitDefEqProofs only [b_check_building, execSs, execS, seqS, thenS, retS, retNS, retV, mutL, mutD, keepX, ixD2, inD2, itemsOf, seqOf, zipI, enumI, cntV, popK, takeOff, extK, dputS, dct1, dkey, dinD, parK, bindX, ioV, nxK, retIO, callT, newA, evalT, evalX, evalZ, keepB, isDict, Bool.true_or, Bool.or_true, Bool.false_or, Bool.or_false, Bool.true_and, Bool.and_true, Bool.false_and, Bool.and_false, datK, ownK, tgK, appK, evalE, evalK, evalA, evalAnd, evalOr, evalO, evalF, evalI, evalC, keep, keepV, slotVal, lift1, lift2, liftA, consA, callF, notV, andT, orT, ifV, tstB, DD.ifS, DD.forS, compV, seqI, rngI, E.src, sem2, semC, semB, Ty.nm, Cst.d, boolRes, truth_bool, truth_none, truth_int, truth_list, truth_tuple, isi_int, isi_bool, isi_tuple, isi_list, isi_str, addD, subD, mul_int, fdiv_int, mod_int, ltD, leD, gtD, geD, lenD, isNone, negD, tg_one, tg_many, tgs_nil, tgs_cons, flatRoot, okSize, List.getElem?_cons_zero, List.getElem?_cons_succ, List.set_cons_zero, List.set_cons_succ, List.length_cons, List.length_nil, Option.map_some, Option.map_none, Nat.zero_add, if_true, if_false, Bool.not_true, Bool.not_false, reduceCtorEq, or_true, true_or, or_false, false_or, Nat.reduceAdd, Nat.reduceLeDiff, decide_true, decide_false, Bool.false_eq_true, cc, Bool.not_true]
def ChkOk (G : Gb) (c : Nat) : Prop := ∀ b : Bld, b.ok → G.phi c [b.d] = some (.ok .none)
/-! ### walks -/
def Bld.step (b : Bld) (r n : Int) : Option Int := if 0 ≤ n then (b.ds[n.toNat]?).bind (·.side r) else none
def lastI (fs : List Int) : Int := fs.getLastD 0
abbrev TSt := List Int × Option (Fl × D) × Option (Fl × D)
def stepT (b : Bld) (s : TSt) : D → Sum TSt Out
  | .int i => (match b.step (lastI s.1) i with
    | some r => .inl (s.1 ++ [r], some (.dat, .int i), some (.dat, .int r))
    | none => .inr (.ret .none))
  | _ => .inr (.ret .none)
def ansT : Sum TSt Out → D
  | .inl s => .list (s.1.map .int)
  | .inr _ => .none
def traceD (b : Bld) : D → D
  | .tuple [s, .tuple ns] => if inR s 0 (b.R - 1) = true ∧ ns.length ≤ 72 then (match s with
    | .int i => ansT (runL (stepT b) ns ([i], none, none))
    | _ => .none) else .none
  | _ => .none
theorem at_last {fs : List Int} (h : fs ≠ []) : atI (fs.map PyData.int) (-1) = some (.int (lastI fs)) := by
  obtain ⟨r, x, rfl⟩ : ∃ r x, fs = r ++ [x] := ⟨fs.dropLast, fs.getLast h, (List.dropLast_concat_getLast h).symm⟩
  unfold atI ixN lastI
  rw [if_neg (by omega), if_pos (by simp; omega)]
  have e : (-1 + ((r ++ [x]).map PyData.int).length : Int).toNat = r.length := by simp; omega
  show ((r ++ [x]).map PyData.int)[(-1 + ((r ++ [x]).map PyData.int).length : Int).toNat]? = _
  rw [e]
  simp
theorem inR_true {d : D} {lo hi : Int} (h : inR d lo hi = true) : ∃ i, d = .int i ∧ lo ≤ i ∧ i ≤ hi := by
  unfold inR at h
  split at h
  · simp -implicitDefEqProofs only [Bool.and_eq_true, decide_eq_true_eq] at h
    exact ⟨_, rfl, h.1, h.2⟩
  · cases h
theorem runL_out {b : Bld} : ∀ (ns : List D) (s : TSt) (o : Out), runL (stepT b) ns s = .inr o → o = .ret .none
  | [], s, o, h => by cases h
  | d :: ns, s, o, h => by
    unfold runL at h
    split at h
    · exact runL_out ns _ o h
    · rename_i o' e
      cases h
      unfold stepT at e
      split at e
      · split at e
        · cases e
        · cases e; rfl
      · cases e; rfl
def TraceOk (G : Gb) (c : Nat) : Prop := ∀ (b : Bld) (v : D), b.ok → G.phi c [b.d, v] = some (.ok (traceD b v))
theorem trace_sem (G : Gb) (ci g co : Nat) (hi : InOk G ci) (hg : CInt G g 72) (ho : SideOk G co) (b : Bld) (hb : b.ok) (v : D) : runF G 0 true (b_trace ci g co) 5 [b.d, v] = some (.ok (traceD b v)) := by
  obtain ⟨z, hg⟩ := hg
  refine run_ret [some (.bor, b.d), some (.bor, v), none, none, none] rfl ?_
  cases v with
  | tuple l =>
    by_cases h2 : (l.length : Int) = 2
    · obtain ⟨s, w, rfl⟩ : ∃ s w, l = [s, w] := by
        match l, h2 with
        | [s, w], _ => exact ⟨s, w, rfl⟩
        | [], h2 => simp at h2
        | [_], h2 => simp at h2
        | _ :: _ :: _ :: r, h2 => simp at h2; omega
      have l2 : ((0 + 1 + 1 : Nat) : Int) = 2 := rfl
      have cc := hi s 0 (b.R - 1)
      cases hr : inR s 0 (b.R - 1) with
      | false =>
        rw [hr] at cc
        have e : traceD b (.tuple [s, w]) = .none := by
          unfold traceD
          split
          · rename_i e
            cases e
            rw [if_neg (by rw [hr]; simp)]
          · rfl
        rw [e]
        simp -implicitDefEqProofs only [b_trace, execSs, execS, seqS, thenS, retS, retNS, retV, mutL, mutD, keepX, ixD2, inD2, itemsOf, seqOf, zipI, enumI, cntV, popK, takeOff, extK, dputS, dct1, dkey, dinD, parK, bindX, ioV, nxK, retIO, callT, newA, evalT, evalX, evalZ, keepB, isDict, Bool.true_or, Bool.or_true, Bool.false_or, Bool.or_false, Bool.true_and, Bool.and_true, Bool.false_and, Bool.and_false, datK, ownK, tgK, appK, evalE, evalK, evalA, evalAnd, evalOr, evalO, evalF, evalI, evalC, keep, keepV, slotVal, lift1, lift2, liftA, consA, callF, notV, andT, orT, ifV, tstB, DD.ifS, DD.forS, compV, seqI, rngI, E.src, sem2, semC, semB, Ty.nm, Cst.d, boolRes, truth_bool, truth_none, truth_int, truth_list, truth_tuple, isi_int, isi_bool, isi_tuple, isi_list, isi_str, addD, subD, mul_int, fdiv_int, mod_int, ltD, leD, gtD, geD, lenD, isNone, negD, tg_one, tg_many, tgs_nil, tgs_cons, flatRoot, okSize, List.getElem?_cons_zero, List.getElem?_cons_succ, List.set_cons_zero, List.set_cons_succ, List.length_cons, List.length_nil, Option.map_some, Option.map_none, Nat.zero_add, if_true, if_false, Bool.not_true, Bool.not_false, reduceCtorEq, or_true, true_or, or_false, false_or, Nat.reduceAdd, Nat.reduceLeDiff, decide_true, decide_false, Bool.false_eq_true, Bld.d, isTup, ixD, at_c0, at_c1, ne_int, l2, cc, Bool.not_true, Bool.not_false]
      | true =>
        rw [hr] at cc
        obtain ⟨i, rfl, hr1, hr2⟩ := inR_true hr
        cases w with
        | tuple ns =>
          by_cases hl : ns.length ≤ 72
          · have g72 := eq_false (show ¬ ((ns.length : Int) > 72) by omega)
            simp -implicitDefEqProofs only [b_trace, execSs, execS, seqS, thenS, retS, retNS, retV, mutL, mutD, keepX, ixD2, inD2, itemsOf, seqOf, zipI, enumI, cntV, popK, takeOff, extK, dputS, dct1, dkey, dinD, parK, bindX, ioV, nxK, retIO, callT, newA, evalT, evalX, evalZ, keepB, isDict, Bool.true_or, Bool.or_true, Bool.false_or, Bool.or_false, Bool.true_and, Bool.and_true, Bool.false_and, Bool.and_false, datK, ownK, tgK, appK, evalE, evalK, evalA, evalAnd, evalOr, evalO, evalF, evalI, evalC, keep, keepV, slotVal, lift1, lift2, liftA, consA, callF, notV, andT, orT, ifV, tstB, DD.ifS, DD.forS, compV, seqI, rngI, E.src, sem2, semC, semB, Ty.nm, Cst.d, boolRes, truth_bool, truth_none, truth_int, truth_list, truth_tuple, isi_int, isi_bool, isi_tuple, isi_list, isi_str, addD, subD, mul_int, fdiv_int, mod_int, ltD, leD, gtD, geD, lenD, isNone, negD, tg_one, tg_many, tgs_nil, tgs_cons, flatRoot, okSize, List.getElem?_cons_zero, List.getElem?_cons_succ, List.set_cons_zero, List.set_cons_succ, List.length_cons, List.length_nil, Option.map_some, Option.map_none, Nat.zero_add, if_true, if_false, Bool.not_true, Bool.not_false, reduceCtorEq, or_true, true_or, or_false, false_or, Nat.reduceAdd, Nat.reduceLeDiff, decide_true, decide_false, Bool.false_eq_true, Bld.d, isTup, ixD, at_c0, at_c1, ne_int, l2, cc, hg, g72, Bool.not_true, Bool.not_false]
            rw [forL_genR (fun s : TSt => [some (Fl.bor, b.d), some (Fl.bor, PyData.tuple [.int i, .tuple ns]), some (Fl.own, PyData.list (s.1.map PyData.int)), s.2.1, s.2.2]) (stepT b) (fun k s => s.1.length = k + 1) ([i], none, none)]
            · have e : traceD b (.tuple [.int i, .tuple ns]) = ansT (runL (stepT b) ns ([i], none, none)) := by
                unfold traceD
                dsimp only
                rw [if_pos ⟨hr, hl⟩]
              rw [e]
              cases er : runL (stepT b) ns ([i], none, none) with
              | inl s => simp -implicitDefEqProofs only [outL, execSs, execS, seqS, thenS, retS, retNS, retV, mutL, mutD, keepX, ixD2, inD2, itemsOf, seqOf, zipI, enumI, cntV, popK, takeOff, extK, dputS, dct1, dkey, dinD, parK, bindX, ioV, nxK, retIO, callT, newA, evalT, evalX, evalZ, keepB, isDict, Bool.true_or, Bool.or_true, Bool.false_or, Bool.or_false, Bool.true_and, Bool.and_true, Bool.false_and, Bool.and_false, datK, ownK, tgK, appK, evalE, evalK, evalA, evalAnd, evalOr, evalO, evalF, evalI, evalC, keep, keepV, slotVal, lift1, lift2, liftA, consA, callF, notV, andT, orT, ifV, tstB, DD.ifS, DD.forS, compV, seqI, rngI, E.src, sem2, semC, semB, Ty.nm, Cst.d, boolRes, truth_bool, truth_none, truth_int, truth_list, truth_tuple, isi_int, isi_bool, isi_tuple, isi_list, isi_str, addD, subD, mul_int, fdiv_int, mod_int, ltD, leD, gtD, geD, lenD, isNone, negD, tg_one, tg_many, tgs_nil, tgs_cons, flatRoot, okSize, List.getElem?_cons_zero, List.getElem?_cons_succ, List.set_cons_zero, List.set_cons_succ, List.length_cons, List.length_nil, Option.map_some, Option.map_none, Nat.zero_add, if_true, if_false, Bool.not_true, Bool.not_false, reduceCtorEq, or_true, true_or, or_false, false_or, Nat.reduceAdd, Nat.reduceLeDiff, decide_true, decide_false, Bool.false_eq_true, ansT]
              | inr o =>
                rw [runL_out _ _ _ er]
                simp -implicitDefEqProofs only [outL, execSs, execS, seqS, thenS, retS, retNS, retV, mutL, mutD, keepX, ixD2, inD2, itemsOf, seqOf, zipI, enumI, cntV, popK, takeOff, extK, dputS, dct1, dkey, dinD, parK, bindX, ioV, nxK, retIO, callT, newA, evalT, evalX, evalZ, keepB, isDict, Bool.true_or, Bool.or_true, Bool.false_or, Bool.or_false, Bool.true_and, Bool.and_true, Bool.false_and, Bool.and_false, datK, ownK, tgK, appK, evalE, evalK, evalA, evalAnd, evalOr, evalO, evalF, evalI, evalC, keep, keepV, slotVal, lift1, lift2, liftA, consA, callF, notV, andT, orT, ifV, tstB, DD.ifS, DD.forS, compV, seqI, rngI, E.src, sem2, semC, semB, Ty.nm, Cst.d, boolRes, truth_bool, truth_none, truth_int, truth_list, truth_tuple, isi_int, isi_bool, isi_tuple, isi_list, isi_str, addD, subD, mul_int, fdiv_int, mod_int, ltD, leD, gtD, geD, lenD, isNone, negD, tg_one, tg_many, tgs_nil, tgs_cons, flatRoot, okSize, List.getElem?_cons_zero, List.getElem?_cons_succ, List.set_cons_zero, List.set_cons_succ, List.length_cons, List.length_nil, Option.map_some, Option.map_none, Nat.zero_add, if_true, if_false, Bool.not_true, Bool.not_false, reduceCtorEq, or_true, true_or, or_false, false_or, Nat.reduceAdd, Nat.reduceLeDiff, decide_true, decide_false, Bool.false_eq_true, ansT]
            · rfl
            · rfl
            · intro k d s hk hs
              refine ⟨_, rfl, ?_⟩
              have hkl : k < ns.length := by
                by_cases hkl : k < ns.length
                · exact hkl
                · rw [List.getElem?_eq_none (by omega)] at hk
                  cases hk
              have cd := hi d 0 ((b.ds.length : Int) - 1)
              have al := at_last (fs := s.1) (by intro e; rw [e] at hs; simp at hs)
              have hsl : s.1.length < 16777216 := by omega
              cases hd : inR d 0 ((b.ds.length : Int) - 1) with
              | false =>
                rw [hd] at cd
                have e : stepT b s d = .inr (.ret .none) := by
                  unfold stepT
                  split
                  · rename_i i'
                    have : b.step (lastI s.1) i' = none := by
                      unfold Bld.step
                      split
                      · rw [List.getElem?_eq_none]
                        · rfl
                        · unfold inR at hd
                          simp at hd
                          omega
                      · rfl
                    rw [this]
                  · rfl
                rw [e]
                dsimp only
                refine ⟨?_, fun ρ z => nomatch z⟩
                simp -implicitDefEqProofs only [execSs, execS, seqS, thenS, retS, retNS, retV, mutL, mutD, keepX, ixD2, inD2, itemsOf, seqOf, zipI, enumI, cntV, popK, takeOff, extK, dputS, dct1, dkey, dinD, parK, bindX, ioV, nxK, retIO, callT, newA, evalT, evalX, evalZ, keepB, isDict, Bool.true_or, Bool.or_true, Bool.false_or, Bool.or_false, Bool.true_and, Bool.and_true, Bool.false_and, Bool.and_false, datK, ownK, tgK, appK, evalE, evalK, evalA, evalAnd, evalOr, evalO, evalF, evalI, evalC, keep, keepV, slotVal, lift1, lift2, liftA, consA, callF, notV, andT, orT, ifV, tstB, DD.ifS, DD.forS, compV, seqI, rngI, E.src, sem2, semC, semB, Ty.nm, Cst.d, boolRes, truth_bool, truth_none, truth_int, truth_list, truth_tuple, isi_int, isi_bool, isi_tuple, isi_list, isi_str, addD, subD, mul_int, fdiv_int, mod_int, ltD, leD, gtD, geD, lenD, isNone, negD, tg_one, tg_many, tgs_nil, tgs_cons, flatRoot, okSize, List.getElem?_cons_zero, List.getElem?_cons_succ, List.set_cons_zero, List.set_cons_succ, List.length_cons, List.length_nil, Option.map_some, Option.map_none, Nat.zero_add, if_true, if_false, Bool.not_true, Bool.not_false, reduceCtorEq, or_true, true_or, or_false, false_or, Nat.reduceAdd, Nat.reduceLeDiff, decide_true, decide_false, Bool.false_eq_true, Bld.d, isTup, ixD, at_c0, at_c1, List.length_map, cd, Bool.not_true, Bool.not_false]
              | true =>
                rw [hd] at cd
                obtain ⟨i', rfl, q1, q2⟩ := inR_true hd
                obtain ⟨j, rfl⟩ : ∃ j : Nat, i' = (j : Int) := ⟨i'.toNat, by omega⟩
                have hj : j < b.ds.length := by omega
                have hx := List.getElem?_eq_getElem hj
                have co' := ho b j _ (lastI s.1) hx
                have es : b.step (lastI s.1) (j : Int) = (b.ds[j]).side (lastI s.1) := by
                  unfold Bld.step
                  rw [if_pos (by omega), Int.toNat_natCast, hx]
                  rfl
                have est : stepT b s (.int (j : Int)) = (match (b.ds[j]).side (lastI s.1) with
                  | some r => .inl (s.1 ++ [r], some (.dat, .int (j : Int)), some (.dat, .int r))
                  | none => .inr (.ret .none)) := by
                  unfold stepT
                  dsimp only
                  rw [es]
                rw [est]
                unfold Bld.d at co'
                cases eo : (b.ds[j]).side (lastI s.1) with
                | none =>
                  rw [eo] at co'
                  dsimp only
                  refine ⟨?_, fun ρ z => nomatch z⟩
                  simp -implicitDefEqProofs only [execSs, execS, seqS, thenS, retS, retNS, retV, mutL, mutD, keepX, ixD2, inD2, itemsOf, seqOf, zipI, enumI, cntV, popK, takeOff, extK, dputS, dct1, dkey, dinD, parK, bindX, ioV, nxK, retIO, callT, newA, evalT, evalX, evalZ, keepB, isDict, Bool.true_or, Bool.or_true, Bool.false_or, Bool.or_false, Bool.true_and, Bool.and_true, Bool.false_and, Bool.and_false, datK, ownK, tgK, appK, evalE, evalK, evalA, evalAnd, evalOr, evalO, evalF, evalI, evalC, keep, keepV, slotVal, lift1, lift2, liftA, consA, callF, notV, andT, orT, ifV, tstB, DD.ifS, DD.forS, compV, seqI, rngI, E.src, sem2, semC, semB, Ty.nm, Cst.d, boolRes, truth_bool, truth_none, truth_int, truth_list, truth_tuple, isi_int, isi_bool, isi_tuple, isi_list, isi_str, addD, subD, mul_int, fdiv_int, mod_int, ltD, leD, gtD, geD, lenD, isNone, negD, tg_one, tg_many, tgs_nil, tgs_cons, flatRoot, okSize, List.getElem?_cons_zero, List.getElem?_cons_succ, List.set_cons_zero, List.set_cons_succ, List.length_cons, List.length_nil, Option.map_some, Option.map_none, Nat.zero_add, if_true, if_false, Bool.not_true, Bool.not_false, reduceCtorEq, or_true, true_or, or_false, false_or, Nat.reduceAdd, Nat.reduceLeDiff, decide_true, decide_false, Bool.false_eq_true, Bld.d, isTup, ixD, at_c0, at_c1, List.length_map, cd, al, co', oI, Bool.not_true, Bool.not_false]
                | some r =>
                  rw [eo] at co'
                  dsimp only
                  refine ⟨?_, by simp [hs]⟩
                  simp -implicitDefEqProofs only [execSs, execS, seqS, thenS, retS, retNS, retV, mutL, mutD, keepX, ixD2, inD2, itemsOf, seqOf, zipI, enumI, cntV, popK, takeOff, extK, dputS, dct1, dkey, dinD, parK, bindX, ioV, nxK, retIO, callT, newA, evalT, evalX, evalZ, keepB, isDict, Bool.true_or, Bool.or_true, Bool.false_or, Bool.or_false, Bool.true_and, Bool.and_true, Bool.false_and, Bool.and_false, datK, ownK, tgK, appK, evalE, evalK, evalA, evalAnd, evalOr, evalO, evalF, evalI, evalC, keep, keepV, slotVal, lift1, lift2, liftA, consA, callF, notV, andT, orT, ifV, tstB, DD.ifS, DD.forS, compV, seqI, rngI, E.src, sem2, semC, semB, Ty.nm, Cst.d, boolRes, truth_bool, truth_none, truth_int, truth_list, truth_tuple, isi_int, isi_bool, isi_tuple, isi_list, isi_str, addD, subD, mul_int, fdiv_int, mod_int, ltD, leD, gtD, geD, lenD, isNone, negD, tg_one, tg_many, tgs_nil, tgs_cons, flatRoot, okSize, List.getElem?_cons_zero, List.getElem?_cons_succ, List.set_cons_zero, List.set_cons_succ, List.length_cons, List.length_nil, Option.map_some, Option.map_none, Nat.zero_add, if_true, if_false, Bool.not_true, Bool.not_false, reduceCtorEq, or_true, true_or, or_false, false_or, Nat.reduceAdd, Nat.reduceLeDiff, decide_true, decide_false, Bool.false_eq_true, Bld.d, isTup, ixD, at_c0, at_c1, List.length_map, cd, al, co', oI, Bool.not_true, Bool.not_false, hsl, List.map_append, List.map_cons, List.map_nil]
          · have g72 := eq_true (show ((ns.length : Int) > 72) by omega)
            have e : traceD b (.tuple [.int i, .tuple ns]) = .none := by
              unfold traceD
              dsimp only
              rw [if_neg (by omega)]
            rw [e]
            simp -implicitDefEqProofs only [b_trace, execSs, execS, seqS, thenS, retS, retNS, retV, mutL, mutD, keepX, ixD2, inD2, itemsOf, seqOf, zipI, enumI, cntV, popK, takeOff, extK, dputS, dct1, dkey, dinD, parK, bindX, ioV, nxK, retIO, callT, newA, evalT, evalX, evalZ, keepB, isDict, Bool.true_or, Bool.or_true, Bool.false_or, Bool.or_false, Bool.true_and, Bool.and_true, Bool.false_and, Bool.and_false, datK, ownK, tgK, appK, evalE, evalK, evalA, evalAnd, evalOr, evalO, evalF, evalI, evalC, keep, keepV, slotVal, lift1, lift2, liftA, consA, callF, notV, andT, orT, ifV, tstB, DD.ifS, DD.forS, compV, seqI, rngI, E.src, sem2, semC, semB, Ty.nm, Cst.d, boolRes, truth_bool, truth_none, truth_int, truth_list, truth_tuple, isi_int, isi_bool, isi_tuple, isi_list, isi_str, addD, subD, mul_int, fdiv_int, mod_int, ltD, leD, gtD, geD, lenD, isNone, negD, tg_one, tg_many, tgs_nil, tgs_cons, flatRoot, okSize, List.getElem?_cons_zero, List.getElem?_cons_succ, List.set_cons_zero, List.set_cons_succ, List.length_cons, List.length_nil, Option.map_some, Option.map_none, Nat.zero_add, if_true, if_false, Bool.not_true, Bool.not_false, reduceCtorEq, or_true, true_or, or_false, false_or, Nat.reduceAdd, Nat.reduceLeDiff, decide_true, decide_false, Bool.false_eq_true, Bld.d, isTup, ixD, at_c0, at_c1, ne_int, l2, cc, hg, g72, Bool.not_true, Bool.not_false]
        | _ => simp -implicitDefEqProofs only [b_trace, execSs, execS, seqS, thenS, retS, retNS, retV, mutL, mutD, keepX, ixD2, inD2, itemsOf, seqOf, zipI, enumI, cntV, popK, takeOff, extK, dputS, dct1, dkey, dinD, parK, bindX, ioV, nxK, retIO, callT, newA, evalT, evalX, evalZ, keepB, isDict, Bool.true_or, Bool.or_true, Bool.false_or, Bool.or_false, Bool.true_and, Bool.and_true, Bool.false_and, Bool.and_false, datK, ownK, tgK, appK, evalE, evalK, evalA, evalAnd, evalOr, evalO, evalF, evalI, evalC, keep, keepV, slotVal, lift1, lift2, liftA, consA, callF, notV, andT, orT, ifV, tstB, DD.ifS, DD.forS, compV, seqI, rngI, E.src, sem2, semC, semB, Ty.nm, Cst.d, boolRes, truth_bool, truth_none, truth_int, truth_list, truth_tuple, isi_int, isi_bool, isi_tuple, isi_list, isi_str, addD, subD, mul_int, fdiv_int, mod_int, ltD, leD, gtD, geD, lenD, isNone, negD, tg_one, tg_many, tgs_nil, tgs_cons, flatRoot, okSize, List.getElem?_cons_zero, List.getElem?_cons_succ, List.set_cons_zero, List.set_cons_succ, List.length_cons, List.length_nil, Option.map_some, Option.map_none, Nat.zero_add, if_true, if_false, Bool.not_true, Bool.not_false, reduceCtorEq, or_true, true_or, or_false, false_or, Nat.reduceAdd, Nat.reduceLeDiff, decide_true, decide_false, Bool.false_eq_true, Bld.d, isTup, ixD, at_c0, at_c1, ne_int, l2, cc, Bool.not_true, Bool.not_false, traceD]
    · have e : traceD b (.tuple l) = .none := by
        unfold traceD
        split
        · rename_i e
          cases e
          simp at h2
        · rfl
      rw [e]
      simp -implicitDefEqProofs only [b_trace, execSs, execS, seqS, thenS, retS, retNS, retV, mutL, mutD, keepX, ixD2, inD2, itemsOf, seqOf, zipI, enumI, cntV, popK, takeOff, extK, dputS, dct1, dkey, dinD, parK, bindX, ioV, nxK, retIO, callT, newA, evalT, evalX, evalZ, keepB, isDict, Bool.true_or, Bool.or_true, Bool.false_or, Bool.or_false, Bool.true_and, Bool.and_true, Bool.false_and, Bool.and_false, datK, ownK, tgK, appK, evalE, evalK, evalA, evalAnd, evalOr, evalO, evalF, evalI, evalC, keep, keepV, slotVal, lift1, lift2, liftA, consA, callF, notV, andT, orT, ifV, tstB, DD.ifS, DD.forS, compV, seqI, rngI, E.src, sem2, semC, semB, Ty.nm, Cst.d, boolRes, truth_bool, truth_none, truth_int, truth_list, truth_tuple, isi_int, isi_bool, isi_tuple, isi_list, isi_str, addD, subD, mul_int, fdiv_int, mod_int, ltD, leD, gtD, geD, lenD, isNone, negD, tg_one, tg_many, tgs_nil, tgs_cons, flatRoot, okSize, List.getElem?_cons_zero, List.getElem?_cons_succ, List.set_cons_zero, List.set_cons_succ, List.length_cons, List.length_nil, Option.map_some, Option.map_none, Nat.zero_add, if_true, if_false, Bool.not_true, Bool.not_false, reduceCtorEq, or_true, true_or, or_false, false_or, Nat.reduceAdd, Nat.reduceLeDiff, decide_true, decide_false, Bool.false_eq_true, Bld.d, isTup, ixD, ne_int, h2, Bool.not_true, Bool.not_false]
  | _ => simp -implicitDefEqProofs only [b_trace, execSs, execS, seqS, thenS, retS, retNS, retV, mutL, mutD, keepX, ixD2, inD2, itemsOf, seqOf, zipI, enumI, cntV, popK, takeOff, extK, dputS, dct1, dkey, dinD, parK, bindX, ioV, nxK, retIO, callT, newA, evalT, evalX, evalZ, keepB, isDict, Bool.true_or, Bool.or_true, Bool.false_or, Bool.or_false, Bool.true_and, Bool.and_true, Bool.false_and, Bool.and_false, datK, ownK, tgK, appK, evalE, evalK, evalA, evalAnd, evalOr, evalO, evalF, evalI, evalC, keep, keepV, slotVal, lift1, lift2, liftA, consA, callF, notV, andT, orT, ifV, tstB, DD.ifS, DD.forS, compV, seqI, rngI, E.src, sem2, semC, semB, Ty.nm, Cst.d, boolRes, truth_bool, truth_none, truth_int, truth_list, truth_tuple, isi_int, isi_bool, isi_tuple, isi_list, isi_str, addD, subD, mul_int, fdiv_int, mod_int, ltD, leD, gtD, geD, lenD, isNone, negD, tg_one, tg_many, tgs_nil, tgs_cons, flatRoot, okSize, List.getElem?_cons_zero, List.getElem?_cons_succ, List.set_cons_zero, List.set_cons_succ, List.length_cons, List.length_nil, Option.map_some, Option.map_none, Nat.zero_add, if_true, if_false, Bool.not_true, Bool.not_false, reduceCtorEq, or_true, true_or, or_false, false_or, Nat.reduceAdd, Nat.reduceLeDiff, decide_true, decide_false, Bool.false_eq_true, isTup, Bool.not_false, traceD]
end
end DD

namespace DD
noncomputable section
open PySem PySem.Spec PyProof.Rows L2
theorem rooms_sem (G : Gb) (ci co : Nat) (hi : InOk G ci) (ho : SideOk G co) (b : Bld) (hb : b.ok) (v : D) : runF G 0 true (b_law_rooms ci co) 5 [b.d, v] = some (.ok (traceD b v)) := by
  refine run_ret [some (.bor, b.d), some (.bor, v), none, none, none] rfl ?_
  cases v with
  | tuple l =>
    by_cases h2 : (l.length : Int) = 2
    · obtain ⟨s, w, rfl⟩ : ∃ s w, l = [s, w] := by
        match l, h2 with
        | [s, w], _ => exact ⟨s, w, rfl⟩
        | [], h2 => simp at h2
        | [_], h2 => simp at h2
        | _ :: _ :: _ :: r, h2 => simp at h2; omega
      have l2 : ((0 + 1 + 1 : Nat) : Int) = 2 := rfl
      have cc := hi s 0 (b.R - 1)
      cases hr : inR s 0 (b.R - 1) with
      | false =>
        rw [hr] at cc
        have e : traceD b (.tuple [s, w]) = .none := by
          unfold traceD
          split
          · rename_i e
            cases e
            rw [if_neg (by rw [hr]; simp)]
          · rfl
        rw [e]
        simp -implicitDefEqProofs only [b_law_rooms, execSs, execS, seqS, thenS, retS, retNS, retV, mutL, mutD, keepX, ixD2, inD2, itemsOf, seqOf, zipI, enumI, cntV, popK, takeOff, extK, dputS, dct1, dkey, dinD, parK, bindX, ioV, nxK, retIO, callT, newA, evalT, evalX, evalZ, keepB, isDict, Bool.true_or, Bool.or_true, Bool.false_or, Bool.or_false, Bool.true_and, Bool.and_true, Bool.false_and, Bool.and_false, datK, ownK, tgK, appK, evalE, evalK, evalA, evalAnd, evalOr, evalO, evalF, evalI, evalC, keep, keepV, slotVal, lift1, lift2, liftA, consA, callF, notV, andT, orT, ifV, tstB, DD.ifS, DD.forS, compV, seqI, rngI, E.src, sem2, semC, semB, Ty.nm, Cst.d, boolRes, truth_bool, truth_none, truth_int, truth_list, truth_tuple, isi_int, isi_bool, isi_tuple, isi_list, isi_str, addD, subD, mul_int, fdiv_int, mod_int, ltD, leD, gtD, geD, lenD, isNone, negD, tg_one, tg_many, tgs_nil, tgs_cons, flatRoot, okSize, List.getElem?_cons_zero, List.getElem?_cons_succ, List.set_cons_zero, List.set_cons_succ, List.length_cons, List.length_nil, Option.map_some, Option.map_none, Nat.zero_add, if_true, if_false, Bool.not_true, Bool.not_false, reduceCtorEq, or_true, true_or, or_false, false_or, Nat.reduceAdd, Nat.reduceLeDiff, decide_true, decide_false, Bool.false_eq_true, Bld.d, isTup, ixD, at_c0, at_c1, ne_int, l2, cc, Bool.not_true, Bool.not_false]
      | true =>
        rw [hr] at cc
        obtain ⟨i, rfl, hr1, hr2⟩ := inR_true hr
        cases w with
        | tuple ns =>
          by_cases hl : ns.length ≤ 72
          · have g72 := eq_false (show ¬ ((ns.length : Int) > 72) by omega)
            simp -implicitDefEqProofs only [b_law_rooms, execSs, execS, seqS, thenS, retS, retNS, retV, mutL, mutD, keepX, ixD2, inD2, itemsOf, seqOf, zipI, enumI, cntV, popK, takeOff, extK, dputS, dct1, dkey, dinD, parK, bindX, ioV, nxK, retIO, callT, newA, evalT, evalX, evalZ, keepB, isDict, Bool.true_or, Bool.or_true, Bool.false_or, Bool.or_false, Bool.true_and, Bool.and_true, Bool.false_and, Bool.and_false, datK, ownK, tgK, appK, evalE, evalK, evalA, evalAnd, evalOr, evalO, evalF, evalI, evalC, keep, keepV, slotVal, lift1, lift2, liftA, consA, callF, notV, andT, orT, ifV, tstB, DD.ifS, DD.forS, compV, seqI, rngI, E.src, sem2, semC, semB, Ty.nm, Cst.d, boolRes, truth_bool, truth_none, truth_int, truth_list, truth_tuple, isi_int, isi_bool, isi_tuple, isi_list, isi_str, addD, subD, mul_int, fdiv_int, mod_int, ltD, leD, gtD, geD, lenD, isNone, negD, tg_one, tg_many, tgs_nil, tgs_cons, flatRoot, okSize, List.getElem?_cons_zero, List.getElem?_cons_succ, List.set_cons_zero, List.set_cons_succ, List.length_cons, List.length_nil, Option.map_some, Option.map_none, Nat.zero_add, if_true, if_false, Bool.not_true, Bool.not_false, reduceCtorEq, or_true, true_or, or_false, false_or, Nat.reduceAdd, Nat.reduceLeDiff, decide_true, decide_false, Bool.false_eq_true, Bld.d, isTup, ixD, at_c0, at_c1, ne_int, l2, cc, g72, Bool.not_true, Bool.not_false]
            rw [forL_genR (fun s : TSt => [some (Fl.bor, b.d), some (Fl.bor, PyData.tuple [.int i, .tuple ns]), some (Fl.own, PyData.list (s.1.map PyData.int)), s.2.1, s.2.2]) (stepT b) (fun k s => s.1.length = k + 1) ([i], none, none)]
            · have e : traceD b (.tuple [.int i, .tuple ns]) = ansT (runL (stepT b) ns ([i], none, none)) := by
                unfold traceD
                dsimp only
                rw [if_pos ⟨hr, hl⟩]
              rw [e]
              cases er : runL (stepT b) ns ([i], none, none) with
              | inl s => simp -implicitDefEqProofs only [outL, execSs, execS, seqS, thenS, retS, retNS, retV, mutL, mutD, keepX, ixD2, inD2, itemsOf, seqOf, zipI, enumI, cntV, popK, takeOff, extK, dputS, dct1, dkey, dinD, parK, bindX, ioV, nxK, retIO, callT, newA, evalT, evalX, evalZ, keepB, isDict, Bool.true_or, Bool.or_true, Bool.false_or, Bool.or_false, Bool.true_and, Bool.and_true, Bool.false_and, Bool.and_false, datK, ownK, tgK, appK, evalE, evalK, evalA, evalAnd, evalOr, evalO, evalF, evalI, evalC, keep, keepV, slotVal, lift1, lift2, liftA, consA, callF, notV, andT, orT, ifV, tstB, DD.ifS, DD.forS, compV, seqI, rngI, E.src, sem2, semC, semB, Ty.nm, Cst.d, boolRes, truth_bool, truth_none, truth_int, truth_list, truth_tuple, isi_int, isi_bool, isi_tuple, isi_list, isi_str, addD, subD, mul_int, fdiv_int, mod_int, ltD, leD, gtD, geD, lenD, isNone, negD, tg_one, tg_many, tgs_nil, tgs_cons, flatRoot, okSize, List.getElem?_cons_zero, List.getElem?_cons_succ, List.set_cons_zero, List.set_cons_succ, List.length_cons, List.length_nil, Option.map_some, Option.map_none, Nat.zero_add, if_true, if_false, Bool.not_true, Bool.not_false, reduceCtorEq, or_true, true_or, or_false, false_or, Nat.reduceAdd, Nat.reduceLeDiff, decide_true, decide_false, Bool.false_eq_true, ansT]
              | inr o =>
                rw [runL_out _ _ _ er]
                simp -implicitDefEqProofs only [outL, execSs, execS, seqS, thenS, retS, retNS, retV, mutL, mutD, keepX, ixD2, inD2, itemsOf, seqOf, zipI, enumI, cntV, popK, takeOff, extK, dputS, dct1, dkey, dinD, parK, bindX, ioV, nxK, retIO, callT, newA, evalT, evalX, evalZ, keepB, isDict, Bool.true_or, Bool.or_true, Bool.false_or, Bool.or_false, Bool.true_and, Bool.and_true, Bool.false_and, Bool.and_false, datK, ownK, tgK, appK, evalE, evalK, evalA, evalAnd, evalOr, evalO, evalF, evalI, evalC, keep, keepV, slotVal, lift1, lift2, liftA, consA, callF, notV, andT, orT, ifV, tstB, DD.ifS, DD.forS, compV, seqI, rngI, E.src, sem2, semC, semB, Ty.nm, Cst.d, boolRes, truth_bool, truth_none, truth_int, truth_list, truth_tuple, isi_int, isi_bool, isi_tuple, isi_list, isi_str, addD, subD, mul_int, fdiv_int, mod_int, ltD, leD, gtD, geD, lenD, isNone, negD, tg_one, tg_many, tgs_nil, tgs_cons, flatRoot, okSize, List.getElem?_cons_zero, List.getElem?_cons_succ, List.set_cons_zero, List.set_cons_succ, List.length_cons, List.length_nil, Option.map_some, Option.map_none, Nat.zero_add, if_true, if_false, Bool.not_true, Bool.not_false, reduceCtorEq, or_true, true_or, or_false, false_or, Nat.reduceAdd, Nat.reduceLeDiff, decide_true, decide_false, Bool.false_eq_true, ansT]
            · rfl
            · rfl
            · intro k d s hk hs
              refine ⟨_, rfl, ?_⟩
              have hkl : k < ns.length := by
                by_cases hkl : k < ns.length
                · exact hkl
                · rw [List.getElem?_eq_none (by omega)] at hk
                  cases hk
              have cd := hi d 0 ((b.ds.length : Int) - 1)
              have al := at_last (fs := s.1) (by intro e; rw [e] at hs; simp at hs)
              have hsl : s.1.length < 16777216 := by omega
              cases hd : inR d 0 ((b.ds.length : Int) - 1) with
              | false =>
                rw [hd] at cd
                have e : stepT b s d = .inr (.ret .none) := by
                  unfold stepT
                  split
                  · rename_i i'
                    have : b.step (lastI s.1) i' = none := by
                      unfold Bld.step
                      split
                      · rw [List.getElem?_eq_none]
                        · rfl
                        · unfold inR at hd
                          simp at hd
                          omega
                      · rfl
                    rw [this]
                  · rfl
                rw [e]
                dsimp only
                refine ⟨?_, fun ρ z => nomatch z⟩
                simp -implicitDefEqProofs only [execSs, execS, seqS, thenS, retS, retNS, retV, mutL, mutD, keepX, ixD2, inD2, itemsOf, seqOf, zipI, enumI, cntV, popK, takeOff, extK, dputS, dct1, dkey, dinD, parK, bindX, ioV, nxK, retIO, callT, newA, evalT, evalX, evalZ, keepB, isDict, Bool.true_or, Bool.or_true, Bool.false_or, Bool.or_false, Bool.true_and, Bool.and_true, Bool.false_and, Bool.and_false, datK, ownK, tgK, appK, evalE, evalK, evalA, evalAnd, evalOr, evalO, evalF, evalI, evalC, keep, keepV, slotVal, lift1, lift2, liftA, consA, callF, notV, andT, orT, ifV, tstB, DD.ifS, DD.forS, compV, seqI, rngI, E.src, sem2, semC, semB, Ty.nm, Cst.d, boolRes, truth_bool, truth_none, truth_int, truth_list, truth_tuple, isi_int, isi_bool, isi_tuple, isi_list, isi_str, addD, subD, mul_int, fdiv_int, mod_int, ltD, leD, gtD, geD, lenD, isNone, negD, tg_one, tg_many, tgs_nil, tgs_cons, flatRoot, okSize, List.getElem?_cons_zero, List.getElem?_cons_succ, List.set_cons_zero, List.set_cons_succ, List.length_cons, List.length_nil, Option.map_some, Option.map_none, Nat.zero_add, if_true, if_false, Bool.not_true, Bool.not_false, reduceCtorEq, or_true, true_or, or_false, false_or, Nat.reduceAdd, Nat.reduceLeDiff, decide_true, decide_false, Bool.false_eq_true, Bld.d, isTup, ixD, at_c0, at_c1, List.length_map, cd, Bool.not_true, Bool.not_false]
              | true =>
                rw [hd] at cd
                obtain ⟨i', rfl, q1, q2⟩ := inR_true hd
                obtain ⟨j, rfl⟩ : ∃ j : Nat, i' = (j : Int) := ⟨i'.toNat, by omega⟩
                have hj : j < b.ds.length := by omega
                have hx := List.getElem?_eq_getElem hj
                have co' := ho b j _ (lastI s.1) hx
                have es : b.step (lastI s.1) (j : Int) = (b.ds[j]).side (lastI s.1) := by
                  unfold Bld.step
                  rw [if_pos (by omega), Int.toNat_natCast, hx]
                  rfl
                have est : stepT b s (.int (j : Int)) = (match (b.ds[j]).side (lastI s.1) with
                  | some r => .inl (s.1 ++ [r], some (.dat, .int (j : Int)), some (.dat, .int r))
                  | none => .inr (.ret .none)) := by
                  unfold stepT
                  dsimp only
                  rw [es]
                  try rfl
                rw [est]
                unfold Bld.d at co'
                cases eo : (b.ds[j]).side (lastI s.1) with
                | none =>
                  rw [eo] at co'
                  dsimp only
                  refine ⟨?_, fun ρ z => nomatch z⟩
                  simp -implicitDefEqProofs only [execSs, execS, seqS, thenS, retS, retNS, retV, mutL, mutD, keepX, ixD2, inD2, itemsOf, seqOf, zipI, enumI, cntV, popK, takeOff, extK, dputS, dct1, dkey, dinD, parK, bindX, ioV, nxK, retIO, callT, newA, evalT, evalX, evalZ, keepB, isDict, Bool.true_or, Bool.or_true, Bool.false_or, Bool.or_false, Bool.true_and, Bool.and_true, Bool.false_and, Bool.and_false, datK, ownK, tgK, appK, evalE, evalK, evalA, evalAnd, evalOr, evalO, evalF, evalI, evalC, keep, keepV, slotVal, lift1, lift2, liftA, consA, callF, notV, andT, orT, ifV, tstB, DD.ifS, DD.forS, compV, seqI, rngI, E.src, sem2, semC, semB, Ty.nm, Cst.d, boolRes, truth_bool, truth_none, truth_int, truth_list, truth_tuple, isi_int, isi_bool, isi_tuple, isi_list, isi_str, addD, subD, mul_int, fdiv_int, mod_int, ltD, leD, gtD, geD, lenD, isNone, negD, tg_one, tg_many, tgs_nil, tgs_cons, flatRoot, okSize, List.getElem?_cons_zero, List.getElem?_cons_succ, List.set_cons_zero, List.set_cons_succ, List.length_cons, List.length_nil, Option.map_some, Option.map_none, Nat.zero_add, if_true, if_false, Bool.not_true, Bool.not_false, reduceCtorEq, or_true, true_or, or_false, false_or, Nat.reduceAdd, Nat.reduceLeDiff, decide_true, decide_false, Bool.false_eq_true, Bld.d, isTup, ixD, at_c0, at_c1, List.length_map, cd, al, co', oI, Bool.not_true, Bool.not_false]
                | some r =>
                  rw [eo] at co'
                  dsimp only
                  refine ⟨?_, by simp [hs]⟩
                  simp -implicitDefEqProofs only [execSs, execS, seqS, thenS, retS, retNS, retV, mutL, mutD, keepX, ixD2, inD2, itemsOf, seqOf, zipI, enumI, cntV, popK, takeOff, extK, dputS, dct1, dkey, dinD, parK, bindX, ioV, nxK, retIO, callT, newA, evalT, evalX, evalZ, keepB, isDict, Bool.true_or, Bool.or_true, Bool.false_or, Bool.or_false, Bool.true_and, Bool.and_true, Bool.false_and, Bool.and_false, datK, ownK, tgK, appK, evalE, evalK, evalA, evalAnd, evalOr, evalO, evalF, evalI, evalC, keep, keepV, slotVal, lift1, lift2, liftA, consA, callF, notV, andT, orT, ifV, tstB, DD.ifS, DD.forS, compV, seqI, rngI, E.src, sem2, semC, semB, Ty.nm, Cst.d, boolRes, truth_bool, truth_none, truth_int, truth_list, truth_tuple, isi_int, isi_bool, isi_tuple, isi_list, isi_str, addD, subD, mul_int, fdiv_int, mod_int, ltD, leD, gtD, geD, lenD, isNone, negD, tg_one, tg_many, tgs_nil, tgs_cons, flatRoot, okSize, List.getElem?_cons_zero, List.getElem?_cons_succ, List.set_cons_zero, List.set_cons_succ, List.length_cons, List.length_nil, Option.map_some, Option.map_none, Nat.zero_add, if_true, if_false, Bool.not_true, Bool.not_false, reduceCtorEq, or_true, true_or, or_false, false_or, Nat.reduceAdd, Nat.reduceLeDiff, decide_true, decide_false, Bool.false_eq_true, Bld.d, isTup, ixD, at_c0, at_c1, List.length_map, cd, al, co', oI, Bool.not_true, Bool.not_false, hsl, List.map_append, List.map_cons, List.map_nil]
          · have g72 := eq_true (show ((ns.length : Int) > 72) by omega)
            have e : traceD b (.tuple [.int i, .tuple ns]) = .none := by
              unfold traceD
              dsimp only
              rw [if_neg (by omega)]
            rw [e]
            simp -implicitDefEqProofs only [b_law_rooms, execSs, execS, seqS, thenS, retS, retNS, retV, mutL, mutD, keepX, ixD2, inD2, itemsOf, seqOf, zipI, enumI, cntV, popK, takeOff, extK, dputS, dct1, dkey, dinD, parK, bindX, ioV, nxK, retIO, callT, newA, evalT, evalX, evalZ, keepB, isDict, Bool.true_or, Bool.or_true, Bool.false_or, Bool.or_false, Bool.true_and, Bool.and_true, Bool.false_and, Bool.and_false, datK, ownK, tgK, appK, evalE, evalK, evalA, evalAnd, evalOr, evalO, evalF, evalI, evalC, keep, keepV, slotVal, lift1, lift2, liftA, consA, callF, notV, andT, orT, ifV, tstB, DD.ifS, DD.forS, compV, seqI, rngI, E.src, sem2, semC, semB, Ty.nm, Cst.d, boolRes, truth_bool, truth_none, truth_int, truth_list, truth_tuple, isi_int, isi_bool, isi_tuple, isi_list, isi_str, addD, subD, mul_int, fdiv_int, mod_int, ltD, leD, gtD, geD, lenD, isNone, negD, tg_one, tg_many, tgs_nil, tgs_cons, flatRoot, okSize, List.getElem?_cons_zero, List.getElem?_cons_succ, List.set_cons_zero, List.set_cons_succ, List.length_cons, List.length_nil, Option.map_some, Option.map_none, Nat.zero_add, if_true, if_false, Bool.not_true, Bool.not_false, reduceCtorEq, or_true, true_or, or_false, false_or, Nat.reduceAdd, Nat.reduceLeDiff, decide_true, decide_false, Bool.false_eq_true, Bld.d, isTup, ixD, at_c0, at_c1, ne_int, l2, cc, g72, Bool.not_true, Bool.not_false]
        | _ => simp -implicitDefEqProofs only [b_law_rooms, execSs, execS, seqS, thenS, retS, retNS, retV, mutL, mutD, keepX, ixD2, inD2, itemsOf, seqOf, zipI, enumI, cntV, popK, takeOff, extK, dputS, dct1, dkey, dinD, parK, bindX, ioV, nxK, retIO, callT, newA, evalT, evalX, evalZ, keepB, isDict, Bool.true_or, Bool.or_true, Bool.false_or, Bool.or_false, Bool.true_and, Bool.and_true, Bool.false_and, Bool.and_false, datK, ownK, tgK, appK, evalE, evalK, evalA, evalAnd, evalOr, evalO, evalF, evalI, evalC, keep, keepV, slotVal, lift1, lift2, liftA, consA, callF, notV, andT, orT, ifV, tstB, DD.ifS, DD.forS, compV, seqI, rngI, E.src, sem2, semC, semB, Ty.nm, Cst.d, boolRes, truth_bool, truth_none, truth_int, truth_list, truth_tuple, isi_int, isi_bool, isi_tuple, isi_list, isi_str, addD, subD, mul_int, fdiv_int, mod_int, ltD, leD, gtD, geD, lenD, isNone, negD, tg_one, tg_many, tgs_nil, tgs_cons, flatRoot, okSize, List.getElem?_cons_zero, List.getElem?_cons_succ, List.set_cons_zero, List.set_cons_succ, List.length_cons, List.length_nil, Option.map_some, Option.map_none, Nat.zero_add, if_true, if_false, Bool.not_true, Bool.not_false, reduceCtorEq, or_true, true_or, or_false, false_or, Nat.reduceAdd, Nat.reduceLeDiff, decide_true, decide_false, Bool.false_eq_true, Bld.d, isTup, ixD, at_c0, at_c1, ne_int, l2, cc, Bool.not_true, Bool.not_false, traceD]
    · have e : traceD b (.tuple l) = .none := by
        unfold traceD
        split
        · rename_i e
          cases e
          simp at h2
        · rfl
      rw [e]
      simp -implicitDefEqProofs only [b_law_rooms, execSs, execS, seqS, thenS, retS, retNS, retV, mutL, mutD, keepX, ixD2, inD2, itemsOf, seqOf, zipI, enumI, cntV, popK, takeOff, extK, dputS, dct1, dkey, dinD, parK, bindX, ioV, nxK, retIO, callT, newA, evalT, evalX, evalZ, keepB, isDict, Bool.true_or, Bool.or_true, Bool.false_or, Bool.or_false, Bool.true_and, Bool.and_true, Bool.false_and, Bool.and_false, datK, ownK, tgK, appK, evalE, evalK, evalA, evalAnd, evalOr, evalO, evalF, evalI, evalC, keep, keepV, slotVal, lift1, lift2, liftA, consA, callF, notV, andT, orT, ifV, tstB, DD.ifS, DD.forS, compV, seqI, rngI, E.src, sem2, semC, semB, Ty.nm, Cst.d, boolRes, truth_bool, truth_none, truth_int, truth_list, truth_tuple, isi_int, isi_bool, isi_tuple, isi_list, isi_str, addD, subD, mul_int, fdiv_int, mod_int, ltD, leD, gtD, geD, lenD, isNone, negD, tg_one, tg_many, tgs_nil, tgs_cons, flatRoot, okSize, List.getElem?_cons_zero, List.getElem?_cons_succ, List.set_cons_zero, List.set_cons_succ, List.length_cons, List.length_nil, Option.map_some, Option.map_none, Nat.zero_add, if_true, if_false, Bool.not_true, Bool.not_false, reduceCtorEq, or_true, true_or, or_false, false_or, Nat.reduceAdd, Nat.reduceLeDiff, decide_true, decide_false, Bool.false_eq_true, Bld.d, isTup, ixD, ne_int, h2, Bool.not_true, Bool.not_false]
  | _ => simp -implicitDefEqProofs only [b_law_rooms, execSs, execS, seqS, thenS, retS, retNS, retV, mutL, mutD, keepX, ixD2, inD2, itemsOf, seqOf, zipI, enumI, cntV, popK, takeOff, extK, dputS, dct1, dkey, dinD, parK, bindX, ioV, nxK, retIO, callT, newA, evalT, evalX, evalZ, keepB, isDict, Bool.true_or, Bool.or_true, Bool.false_or, Bool.or_false, Bool.true_and, Bool.and_true, Bool.false_and, Bool.and_false, datK, ownK, tgK, appK, evalE, evalK, evalA, evalAnd, evalOr, evalO, evalF, evalI, evalC, keep, keepV, slotVal, lift1, lift2, liftA, consA, callF, notV, andT, orT, ifV, tstB, DD.ifS, DD.forS, compV, seqI, rngI, E.src, sem2, semC, semB, Ty.nm, Cst.d, boolRes, truth_bool, truth_none, truth_int, truth_list, truth_tuple, isi_int, isi_bool, isi_tuple, isi_list, isi_str, addD, subD, mul_int, fdiv_int, mod_int, ltD, leD, gtD, geD, lenD, isNone, negD, tg_one, tg_many, tgs_nil, tgs_cons, flatRoot, okSize, List.getElem?_cons_zero, List.getElem?_cons_succ, List.set_cons_zero, List.set_cons_succ, List.length_cons, List.length_nil, Option.map_some, Option.map_none, Nat.zero_add, if_true, if_false, Bool.not_true, Bool.not_false, reduceCtorEq, or_true, true_or, or_false, false_or, Nat.reduceAdd, Nat.reduceLeDiff, decide_true, decide_false, Bool.false_eq_true, isTup, Bool.not_false, traceD]

def roomsR (x : Nat) (d : D) : Option Res := match d with
  | .none => some (.exc x none)
  | d => some (.ok d)
theorem traceD_cases (b : Bld) (v : D) : traceD b v = .none ∨ ∃ ns : List Int, traceD b v = .list (ns.map .int) := by
  unfold traceD
  split
  · split
    · split
      · unfold ansT
        split
        · exact .inr ⟨_, rfl⟩
        · exact .inl rfl
      · exact .inl rfl
    · exact .inl rfl
  · exact .inl rfl
theorem checked_sem (G : Gb) (c x : Nat) (h : TraceOk G c) (b : Bld) (hb : b.ok) (v : D) : runF G 0 false (b_checked_rooms c x) 3 [b.d, v] = roomsR x (traceD b v) := by
  have e := h b v hb
  rcases traceD_cases b v with q | ⟨ns, q⟩
  · rw [q] at e ⊢
    refine run_exc [some (.bor, b.d), some (.bor, v), none] rfl ?_
    simp -implicitDefEqProofs only [b_checked_rooms, execSs, execS, seqS, thenS, retS, retNS, retV, mutL, mutD, keepX, ixD2, inD2, itemsOf, seqOf, zipI, enumI, cntV, popK, takeOff, extK, dputS, dct1, dkey, dinD, parK, bindX, ioV, nxK, retIO, callT, newA, evalT, evalX, evalZ, keepB, isDict, Bool.true_or, Bool.or_true, Bool.false_or, Bool.or_false, Bool.true_and, Bool.and_true, Bool.false_and, Bool.and_false, datK, ownK, tgK, appK, evalE, evalK, evalA, evalAnd, evalOr, evalO, evalF, evalI, evalC, keep, keepV, slotVal, lift1, lift2, liftA, consA, callF, notV, andT, orT, ifV, tstB, DD.ifS, DD.forS, compV, seqI, rngI, E.src, sem2, semC, semB, Ty.nm, Cst.d, boolRes, truth_bool, truth_none, truth_int, truth_list, truth_tuple, isi_int, isi_bool, isi_tuple, isi_list, isi_str, addD, subD, mul_int, fdiv_int, mod_int, ltD, leD, gtD, geD, lenD, isNone, negD, tg_one, tg_many, tgs_nil, tgs_cons, flatRoot, okSize, List.getElem?_cons_zero, List.getElem?_cons_succ, List.set_cons_zero, List.set_cons_succ, List.length_cons, List.length_nil, Option.map_some, Option.map_none, Nat.zero_add, if_true, if_false, Bool.not_true, Bool.not_false, reduceCtorEq, or_true, true_or, or_false, false_or, Nat.reduceAdd, Nat.reduceLeDiff, decide_true, decide_false, Bool.false_eq_true, e]
  · rw [q] at e ⊢
    refine run_ret [some (.bor, b.d), some (.bor, v), none] rfl ?_
    simp -implicitDefEqProofs only [b_checked_rooms, execSs, execS, seqS, thenS, retS, retNS, retV, mutL, mutD, keepX, ixD2, inD2, itemsOf, seqOf, zipI, enumI, cntV, popK, takeOff, extK, dputS, dct1, dkey, dinD, parK, bindX, ioV, nxK, retIO, callT, newA, evalT, evalX, evalZ, keepB, isDict, Bool.true_or, Bool.or_true, Bool.false_or, Bool.or_false, Bool.true_and, Bool.and_true, Bool.false_and, Bool.and_false, datK, ownK, tgK, appK, evalE, evalK, evalA, evalAnd, evalOr, evalO, evalF, evalI, evalC, keep, keepV, slotVal, lift1, lift2, liftA, consA, callF, notV, andT, orT, ifV, tstB, DD.ifS, DD.forS, compV, seqI, rngI, E.src, sem2, semC, semB, Ty.nm, Cst.d, boolRes, truth_bool, truth_none, truth_int, truth_list, truth_tuple, isi_int, isi_bool, isi_tuple, isi_list, isi_str, addD, subD, mul_int, fdiv_int, mod_int, ltD, leD, gtD, geD, lenD, isNone, negD, tg_one, tg_many, tgs_nil, tgs_cons, flatRoot, okSize, List.getElem?_cons_zero, List.getElem?_cons_succ, List.set_cons_zero, List.set_cons_succ, List.length_cons, List.length_nil, Option.map_some, Option.map_none, Nat.zero_add, if_true, if_false, Bool.not_true, Bool.not_false, reduceCtorEq, or_true, true_or, or_false, false_or, Nat.reduceAdd, Nat.reduceLeDiff, decide_true, decide_false, Bool.false_eq_true, e]
def CheckedOk (G : Gb) (c x : Nat) : Prop := ∀ (b : Bld) (v : D), b.ok → G.phi c [b.d, v] = roomsR x (traceD b v)
/-! ### tally -/
abbrev Wlk := Int × List Int
def wD (w : Wlk) : D := .tuple [.int w.1, .tuple (w.2.map .int)]
def bump (cs : List Int) : D → List Int
  | .int k => cs.set k.toNat (cs.getD k.toNat 0 + 1)
  | _ => cs
def tallyW (cs : List Int) (w : Wlk) : List Int := (w.2.map PyData.int).foldl bump cs
def tallyN (n : Nat) (ws : List Wlk) : List Int := ws.foldl tallyW (List.replicate n 0)
theorem at_ints {cs : List Int} {k : Int} (h0 : 0 ≤ k) (h1 : k < cs.length) : atI (cs.map PyData.int) k = some (.int (cs.getD k.toNat 0)) := atI_nat h0 (by
  rw [List.getElem?_map, List.getD_eq_getElem?_getD, List.getElem?_eq_getElem (by omega)]
  rfl)
def Wlk.inB (n : Nat) (w : Wlk) : Prop := ∀ k ∈ w.2, 0 ≤ k ∧ k < n
end
end DD

namespace DD
noncomputable section
open PySem PySem.Spec PyProof.Rows L2
def TallyOk (G : Gb) (c : Nat) : Prop := ∀ (b : Bld) (ws : List Wlk), b.ok → (∀ w ∈ ws, Wlk.inB b.ds.length w) → G.phi c [b.d, .list (ws.map wD)] = some (.ok (.tuple ((tallyN b.ds.length ws).map .int)))
def p9 : D → Bool
  | .int i => decide (i > 9)
  | _ => false
section
variable (G : Gb) (c1 x c2 c3 g xc : Nat) (h1 : ChkOk G c1) (h2 : CheckedOk G c2 x) (h3 : TallyOk G c3) (hg : CInt G g 9) (b : Bld) (hb : b.ok)
include h1 hb in
end
/-! ### a drawn building -/
abbrev BSt := List Door × Option (Fl × D) × Option (Fl × D) × Option (Fl × D)
def drawn (dr : List Int) (k : Int) : Int := dr.getD k.toNat 0
def bOne (dr : List Int) (R t : Int) : Int := drawn dr (2 + 3 * t) % R
def bOth (dr : List Int) (R t : Int) : Int := (bOne dr R t + 1 + drawn dr (3 + 3 * t) % (R - 1)) % R
def bTwo (dr : List Int) (t : Int) : Bool := if drawn dr 40 % 3 = 0 then true else if drawn dr 40 % 3 = 1 then false else decide (drawn dr (4 + 3 * t) % 2 = 0)
def bDoor (dr : List Int) (R t : Int) : Door := if bTwo dr t = true then ⟨(if bOth dr R t < bOne dr R t then bOth dr R t else bOne dr R t), (if bOth dr R t > bOne dr R t then bOth dr R t else bOne dr R t), true⟩ else ⟨bOne dr R t, bOth dr R t, false⟩
def bStep (dr : List Int) (R : Int) (s : BSt) : D → BSt
  | .int t => (s.1 ++ [bDoor dr R t], some (.dat, .int t), some (.dat, .int (bOne dr R t)), some (.dat, .int (bOth dr R t)))
  | _ => s
def bldN (ns : List Int) (a mr md : Int) : Bld :=
  let dr := rowN ns a
  let R := 1 + drawn dr 0 % mr
  ⟨R, if R > 1 then ((rngL 0 (drawn dr 1 % (md + 1))).foldl (bStep dr R) ([], none, none, none)).1 else []⟩
theorem at_draw {dr : List Int} {k : Int} (hl : dr.length = 60) (h0 : 0 ≤ k) (h1 : k < 60) : atI (dr.map PyData.int) k = some (.int (drawn dr k)) := at_ints h0 (by omega)
theorem mod_pos {a b : Int} (h : 0 < b) : 0 ≤ a % b ∧ a % b < b := ⟨Int.emod_nonneg a (by omega), Int.emod_lt_of_pos a h⟩
theorem bDoor_ok (dr : List Int) (R t : Int) (h2 : 2 ≤ R) (h6 : R ≤ 6) : (bDoor dr R t).ok R := by
  have a1 := mod_pos (a := drawn dr (2 + 3 * t)) (b := R) (by omega)
  have a2 := mod_pos (a := drawn dr (3 + 3 * t)) (b := R - 1) (by omega)
  have a3 : 0 ≤ bOth dr R t ∧ bOth dr R t < R := mod_pos (by omega)
  have a4 : bOth dr R t ≠ bOne dr R t := by
    unfold bOth
    have b1 : 0 ≤ bOne dr R t ∧ bOne dr R t < R := a1
    generalize bOne dr R t = u at *
    generalize drawn dr (3 + 3 * t) % (R - 1) = v at *
    rcases (by omega : R = 2 ∨ R = 3 ∨ R = 4 ∨ R = 5 ∨ R = 6) with rfl | rfl | rfl | rfl | rfl <;> omega
  have a5 : 0 ≤ bOne dr R t ∧ bOne dr R t < R := a1
  unfold bDoor Door.ok
  generalize bOne dr R t = u at *
  generalize bOth dr R t = v at *
  cases bTwo dr t with
  | true =>
    by_cases h : v < u
    · have h' : ¬ v > u := by omega
      refine ⟨?_, ?_, ?_, ?_, ?_⟩ <;> simp [h, h'] <;> omega
    · have h' : v > u := by omega
      refine ⟨?_, ?_, ?_, ?_, ?_⟩ <;> simp [h, h'] <;> omega
  | false =>
    refine ⟨?_, ?_, ?_, ?_, ?_⟩ <;> simp <;> omega
theorem bld_draws (ns : List Int) (a : Int) : (rowN ns a).length = 60 := (row_inv ns a).1
theorem bStep_inv (dr : List Int) (R n : Int) (h2 : 2 ≤ R) (h6 : R ≤ 6) : (((rngL 0 n).foldl (bStep dr R) ([], none, none, none)).1).length = n.toNat ∧ ∀ x ∈ ((rngL 0 n).foldl (bStep dr R) ([], none, none, none)).1, x.ok R := by
  have := fold_inv (step := bStep dr R) (I := fun k s => s.1.length = k ∧ ∀ x ∈ s.1, x.ok R) (rngL 0 n) 0 ([], none, none, none) ⟨rfl, fun x hx => nomatch hx⟩ (fun k d s hk hs => by
    obtain ⟨rfl, hk2⟩ := rngL_get hk
    refine ⟨by show (s.1 ++ [_]).length = _; rw [List.length_append, hs.1]; rfl, fun x hx => ?_⟩
    rcases List.mem_append.mp (show x ∈ s.1 ++ [_] from hx) with hx | hx
    · exact hs.2 x hx
    · rw [List.mem_singleton.mp hx]
      exact bDoor_ok dr R _ h2 h6)
  rw [rngL_len] at this
  simpa using this
theorem bldN_ok (ns : List Int) (a mr md : Int) (h1 : 1 ≤ mr) (h2 : mr ≤ 6) (h3 : 0 ≤ md) (h4 : md ≤ 8) : (bldN ns a mr md).ok ∧ (bldN ns a mr md).R ≤ mr ∧ ((bldN ns a mr md).ds.length : Int) ≤ md := by
  have m1 := mod_pos (a := drawn (rowN ns a) 0) (b := mr) (by omega)
  have m2 := mod_pos (a := drawn (rowN ns a) 1) (b := md + 1) (by omega)
  unfold bldN
  dsimp only
  by_cases hR : 1 + drawn (rowN ns a) 0 % mr > 1
  · simp -implicitDefEqProofs only [hR, if_true]
    obtain ⟨i1, i2⟩ := bStep_inv (rowN ns a) (1 + drawn (rowN ns a) 0 % mr) (drawn (rowN ns a) 1 % (md + 1)) (by omega) (by omega)
    exact ⟨⟨by dsimp only; omega, by dsimp only; omega, by dsimp only; omega, i2⟩, by omega, by omega⟩
  · simp -implicitDefEqProofs only [hR, if_false]
    exact ⟨⟨by dsimp only; omega, by dsimp only; omega, by simp, fun x hx => nomatch hx⟩, by omega, by simpa using h3⟩
def BldOk (G : Gb) (c : Nat) : Prop := ∀ (ns : List Int) (a mr md : Int), 0 ≤ a → 1 ≤ mr → mr ≤ 6 → 0 ≤ md → md ≤ 8 → G.phi c [.list (ns.map .int), .int a, .int mr, .int md] = some (.ok (bldN ns a mr md).d)
theorem bld_sem (G : Gb) (c : Nat) (hc : RowOk G c) (ns : List Int) (a mr md : Int) (ha : 0 ≤ a) (h1 : 1 ≤ mr) (h2 : mr ≤ 6) (h3 : 0 ≤ md) (h4 : md ≤ 8) : runF G 0 true (b_law_building c) 10 [.list (ns.map .int), .int a, .int mr, .int md] = some (.ok (bldN ns a mr md).d) := by
  refine run_ret [some (.bor, .list (ns.map .int)), some (.bor, .int a), some (.bor, .int mr), some (.bor, .int md), none, none, none, none, none, none] rfl ?_
  have e1 := hc ns a ha
  have dl := bld_draws ns a
  have d0 := at_draw (k := 0) dl (by omega) (by omega)
  have d1 := at_draw (k := 1) dl (by omega) (by omega)
  have d40 := at_draw (k := 40) dl (by omega) (by omega)
  have m1 := mod_pos (a := drawn (rowN ns a) 0) (b := mr) (by omega)
  have m2 := mod_pos (a := drawn (rowN ns a) 1) (b := md + 1) (by omega)
  have q1 : 0 < mr := by omega
  have q2 : 0 < md + 1 := by omega
  have rg : rngOk 0 (drawn (rowN ns a) 1 % (md + 1)) = true := rng_ok (by omega) (by omega) (by omega) (by omega) (by omega)
  by_cases hR : 1 + drawn (rowN ns a) 0 % mr > 1
  · have eb : bldN ns a mr md = ⟨1 + drawn (rowN ns a) 0 % mr, ((rngL 0 (drawn (rowN ns a) 1 % (md + 1))).foldl (bStep (rowN ns a) (1 + drawn (rowN ns a) 0 % mr)) ([], none, none, none)).1⟩ := by
      unfold bldN
      dsimp only
      rw [if_pos hR]
    simp -implicitDefEqProofs only [b_law_building, execSs, execS, seqS, thenS, retS, retNS, retV, mutL, mutD, keepX, ixD2, inD2, itemsOf, seqOf, zipI, enumI, cntV, popK, takeOff, extK, dputS, dct1, dkey, dinD, parK, bindX, ioV, nxK, retIO, callT, newA, evalT, evalX, evalZ, keepB, isDict, Bool.true_or, Bool.or_true, Bool.false_or, Bool.or_false, Bool.true_and, Bool.and_true, Bool.false_and, Bool.and_false, datK, ownK, tgK, appK, evalE, evalK, evalA, evalAnd, evalOr, evalO, evalF, evalI, evalC, keep, keepV, slotVal, lift1, lift2, liftA, consA, callF, notV, andT, orT, ifV, tstB, DD.ifS, DD.forS, compV, seqI, rngI, E.src, sem2, semC, semB, Ty.nm, Cst.d, boolRes, truth_bool, truth_none, truth_int, truth_list, truth_tuple, isi_int, isi_bool, isi_tuple, isi_list, isi_str, addD, subD, mul_int, fdiv_int, mod_int, ltD, leD, gtD, geD, lenD, isNone, negD, tg_one, tg_many, tgs_nil, tgs_cons, flatRoot, okSize, List.getElem?_cons_zero, List.getElem?_cons_succ, List.set_cons_zero, List.set_cons_succ, List.length_cons, List.length_nil, Option.map_some, Option.map_none, Nat.zero_add, if_true, if_false, Bool.not_true, Bool.not_false, reduceCtorEq, or_true, true_or, or_false, false_or, Nat.reduceAdd, Nat.reduceLeDiff, decide_true, decide_false, Bool.false_eq_true, e1, ixD, d0, d1, q1, q2, hR, rg]
    rw [forL_foldR (fun s : BSt => [some (Fl.bor, PyData.list (ns.map PyData.int)), some (Fl.bor, PyData.int a), some (Fl.bor, PyData.int mr), some (Fl.bor, PyData.int md), some (Fl.dat, PyData.list ((rowN ns a).map PyData.int)), some (Fl.dat, PyData.int (1 + drawn (rowN ns a) 0 % mr)), some (Fl.own, PyData.list (s.1.map Door.d)), s.2.1, s.2.2.1, s.2.2.2])
      (bStep (rowN ns a) (1 + drawn (rowN ns a) 0 % mr)) (fun k s => s.1.length = k) ([], none, none, none)]
    · rw [eb]
      simp -implicitDefEqProofs only [execSs, execS, seqS, thenS, retS, retNS, retV, mutL, mutD, keepX, ixD2, inD2, itemsOf, seqOf, zipI, enumI, cntV, popK, takeOff, extK, dputS, dct1, dkey, dinD, parK, bindX, ioV, nxK, retIO, callT, newA, evalT, evalX, evalZ, keepB, isDict, Bool.true_or, Bool.or_true, Bool.false_or, Bool.or_false, Bool.true_and, Bool.and_true, Bool.false_and, Bool.and_false, datK, ownK, tgK, appK, evalE, evalK, evalA, evalAnd, evalOr, evalO, evalF, evalI, evalC, keep, keepV, slotVal, lift1, lift2, liftA, consA, callF, notV, andT, orT, ifV, tstB, DD.ifS, DD.forS, compV, seqI, rngI, E.src, sem2, semC, semB, Ty.nm, Cst.d, boolRes, truth_bool, truth_none, truth_int, truth_list, truth_tuple, isi_int, isi_bool, isi_tuple, isi_list, isi_str, addD, subD, mul_int, fdiv_int, mod_int, ltD, leD, gtD, geD, lenD, isNone, negD, tg_one, tg_many, tgs_nil, tgs_cons, flatRoot, okSize, List.getElem?_cons_zero, List.getElem?_cons_succ, List.set_cons_zero, List.set_cons_succ, List.length_cons, List.length_nil, Option.map_some, Option.map_none, Nat.zero_add, if_true, if_false, Bool.not_true, Bool.not_false, reduceCtorEq, or_true, true_or, or_false, false_or, Nat.reduceAdd, Nat.reduceLeDiff, decide_true, decide_false, Bool.false_eq_true, tupleD, Bld.d]
    · rfl
    · rfl
    · intro k d s hk hs
      obtain ⟨rfl, hk2⟩ := rngL_get hk
      refine ⟨_, rfl, ?_⟩
      have hsl : k < 16777216 := by omega
      have p1 : mulOk 3 (0 + (k : Int)) = true := mul_ok1 (by omega) (by omega)
      have a2 := at_draw (k := 2 + 3 * (0 + (k : Int))) dl (by omega) (by omega)
      have a3 := at_draw (k := 3 + 3 * (0 + (k : Int))) dl (by omega) (by omega)
      have a4 := at_draw (k := 4 + 3 * (0 + (k : Int))) dl (by omega) (by omega)
      have r0 : 0 < 1 + drawn (rowN ns a) 0 % mr := by omega
      have r1 : 0 < 1 + drawn (rowN ns a) 0 % mr - 1 := by omega
      have t2 : (0 : Int) < 2 := by omega
      have t3 : (0 : Int) < 3 := by omega
      have tw : atI [PyData.bool true, PyData.bool false, PyData.bool (decide (drawn (rowN ns a) (4 + 3 * (0 + (k : Int))) % 2 = 0))] (drawn (rowN ns a) 40 % 3) = some (.bool (bTwo (rowN ns a) (0 + (k : Int)))) := by
        unfold bTwo
        have m3 := mod_pos (a := drawn (rowN ns a) 40) (b := 3) (by omega)
        rcases (by omega : drawn (rowN ns a) 40 % 3 = 0 ∨ drawn (rowN ns a) 40 % 3 = 1 ∨ drawn (rowN ns a) 40 % 3 = 2) with e | e | e
        · rw [e, at_c0, if_pos rfl]
        · rw [e, at_c1, if_neg (by omega), if_pos rfl]
        · rw [e, at_c2, if_neg (by omega), if_neg (by omega)]
      have k1 : (PyData.str "two-way") = .str (kindS true) := rfl
      have k2 : (PyData.str "one-way") = .str (kindS false) := rfl
      refine ⟨?_, by show (s.1 ++ [_]).length = _; rw [List.length_append, hs]; rfl⟩
      cases ht : bTwo (rowN ns a) (0 + (k : Int)) with
      | true =>
        rw [ht] at tw
        have hd : Door.d (bDoor (rowN ns a) (1 + drawn (rowN ns a) 0 % mr) (0 + (k : Int))) = .tuple [.int (if bOth (rowN ns a) (1 + drawn (rowN ns a) 0 % mr) (0 + (k : Int)) < bOne (rowN ns a) (1 + drawn (rowN ns a) 0 % mr) (0 + (k : Int)) then bOth (rowN ns a) (1 + drawn (rowN ns a) 0 % mr) (0 + (k : Int)) else bOne (rowN ns a) (1 + drawn (rowN ns a) 0 % mr) (0 + (k : Int))), .int (if bOth (rowN ns a) (1 + drawn (rowN ns a) 0 % mr) (0 + (k : Int)) > bOne (rowN ns a) (1 + drawn (rowN ns a) 0 % mr) (0 + (k : Int)) then bOth (rowN ns a) (1 + drawn (rowN ns a) 0 % mr) (0 + (k : Int)) else bOne (rowN ns a) (1 + drawn (rowN ns a) 0 % mr) (0 + (k : Int))), .str (kindS true)] := by
          unfold bDoor
          rw [if_pos ht]
          rfl
        simp -implicitDefEqProofs only [execSs, execS, seqS, thenS, retS, retNS, retV, mutL, mutD, keepX, ixD2, inD2, itemsOf, seqOf, zipI, enumI, cntV, popK, takeOff, extK, dputS, dct1, dkey, dinD, parK, bindX, ioV, nxK, retIO, callT, newA, evalT, evalX, evalZ, keepB, isDict, Bool.true_or, Bool.or_true, Bool.false_or, Bool.or_false, Bool.true_and, Bool.and_true, Bool.false_and, Bool.and_false, datK, ownK, tgK, appK, evalE, evalK, evalA, evalAnd, evalOr, evalO, evalF, evalI, evalC, keep, keepV, slotVal, lift1, lift2, liftA, consA, callF, notV, andT, orT, ifV, tstB, DD.ifS, DD.forS, compV, seqI, rngI, E.src, sem2, semC, semB, Ty.nm, Cst.d, boolRes, truth_bool, truth_none, truth_int, truth_list, truth_tuple, isi_int, isi_bool, isi_tuple, isi_list, isi_str, addD, subD, mul_int, fdiv_int, mod_int, ltD, leD, gtD, geD, lenD, isNone, negD, tg_one, tg_many, tgs_nil, tgs_cons, flatRoot, okSize, List.getElem?_cons_zero, List.getElem?_cons_succ, List.set_cons_zero, List.set_cons_succ, List.length_cons, List.length_nil, Option.map_some, Option.map_none, Nat.zero_add, if_true, if_false, Bool.not_true, Bool.not_false, reduceCtorEq, or_true, true_or, or_false, false_or, Nat.reduceAdd, Nat.reduceLeDiff, decide_true, decide_false, Bool.false_eq_true, ixD, d40, a2, a3, a4, p1, r0, r1, t2, t3, eq_int, tw, minD, maxD, k1, k2, bStep, List.map_append, List.map_cons, List.map_nil, hd, List.length_map, hs, hsl, bOne, bOth]
        rfl
      | false =>
        rw [ht] at tw
        have hd : Door.d (bDoor (rowN ns a) (1 + drawn (rowN ns a) 0 % mr) (0 + (k : Int))) = .tuple [.int (bOne (rowN ns a) (1 + drawn (rowN ns a) 0 % mr) (0 + (k : Int))), .int (bOth (rowN ns a) (1 + drawn (rowN ns a) 0 % mr) (0 + (k : Int))), .str (kindS false)] := by
          unfold bDoor
          rw [if_neg (by rw [ht]; simp)]
          rfl
        simp -implicitDefEqProofs only [execSs, execS, seqS, thenS, retS, retNS, retV, mutL, mutD, keepX, ixD2, inD2, itemsOf, seqOf, zipI, enumI, cntV, popK, takeOff, extK, dputS, dct1, dkey, dinD, parK, bindX, ioV, nxK, retIO, callT, newA, evalT, evalX, evalZ, keepB, isDict, Bool.true_or, Bool.or_true, Bool.false_or, Bool.or_false, Bool.true_and, Bool.and_true, Bool.false_and, Bool.and_false, datK, ownK, tgK, appK, evalE, evalK, evalA, evalAnd, evalOr, evalO, evalF, evalI, evalC, keep, keepV, slotVal, lift1, lift2, liftA, consA, callF, notV, andT, orT, ifV, tstB, DD.ifS, DD.forS, compV, seqI, rngI, E.src, sem2, semC, semB, Ty.nm, Cst.d, boolRes, truth_bool, truth_none, truth_int, truth_list, truth_tuple, isi_int, isi_bool, isi_tuple, isi_list, isi_str, addD, subD, mul_int, fdiv_int, mod_int, ltD, leD, gtD, geD, lenD, isNone, negD, tg_one, tg_many, tgs_nil, tgs_cons, flatRoot, okSize, List.getElem?_cons_zero, List.getElem?_cons_succ, List.set_cons_zero, List.set_cons_succ, List.length_cons, List.length_nil, Option.map_some, Option.map_none, Nat.zero_add, if_true, if_false, Bool.not_true, Bool.not_false, reduceCtorEq, or_true, true_or, or_false, false_or, Nat.reduceAdd, Nat.reduceLeDiff, decide_true, decide_false, Bool.false_eq_true, ixD, d40, a2, a3, a4, p1, r0, r1, t2, t3, eq_int, tw, minD, maxD, k1, k2, bStep, List.map_append, List.map_cons, List.map_nil, hd, List.length_map, hs, hsl, bOne, bOth]
  · have eb : bldN ns a mr md = ⟨1 + drawn (rowN ns a) 0 % mr, []⟩ := by
      unfold bldN
      dsimp only
      rw [if_neg hR]
    rw [eb]
    simp -implicitDefEqProofs only [b_law_building, execSs, execS, seqS, thenS, retS, retNS, retV, mutL, mutD, keepX, ixD2, inD2, itemsOf, seqOf, zipI, enumI, cntV, popK, takeOff, extK, dputS, dct1, dkey, dinD, parK, bindX, ioV, nxK, retIO, callT, newA, evalT, evalX, evalZ, keepB, isDict, Bool.true_or, Bool.or_true, Bool.false_or, Bool.or_false, Bool.true_and, Bool.and_true, Bool.false_and, Bool.and_false, datK, ownK, tgK, appK, evalE, evalK, evalA, evalAnd, evalOr, evalO, evalF, evalI, evalC, keep, keepV, slotVal, lift1, lift2, liftA, consA, callF, notV, andT, orT, ifV, tstB, DD.ifS, DD.forS, compV, seqI, rngI, E.src, sem2, semC, semB, Ty.nm, Cst.d, boolRes, truth_bool, truth_none, truth_int, truth_list, truth_tuple, isi_int, isi_bool, isi_tuple, isi_list, isi_str, addD, subD, mul_int, fdiv_int, mod_int, ltD, leD, gtD, geD, lenD, isNone, negD, tg_one, tg_many, tgs_nil, tgs_cons, flatRoot, okSize, List.getElem?_cons_zero, List.getElem?_cons_succ, List.set_cons_zero, List.set_cons_succ, List.length_cons, List.length_nil, Option.map_some, Option.map_none, Nat.zero_add, if_true, if_false, Bool.not_true, Bool.not_false, reduceCtorEq, or_true, true_or, or_false, false_or, Nat.reduceAdd, Nat.reduceLeDiff, decide_true, decide_false, Bool.false_eq_true, e1, ixD, d0, d1, q1, q2, hR, rg, tupleD, Bld.d, List.map_nil]
end
end DD

namespace DD
noncomputable section
open PySem PySem.Spec PyProof.Rows L2
/-! ### equality of data -/
structure Nice (k : Nat) (d : D) : Prop where
  lay : d.canLay0 = true
  dic : noDict d = true
  dep : d.depth ≤ k
theorem Nice.up {k j : Nat} {d : D} (h : Nice k d) (hj : k ≤ j) : Nice j d := ⟨h.lay, h.dic, Nat.le_trans h.dep hj⟩
theorem nice_int (i : Int) : Nice 0 (.int i) := ⟨by unfold PyData.canLay0; rfl, by unfold noDict; rfl, by unfold PyData.depth; exact Nat.le_refl _⟩
theorem nice_all {k : Nat} : ∀ {xs : List D}, (∀ x ∈ xs, Nice k x) → PyData.canLayAll0 xs = true ∧ noDicts xs = true ∧ PyData.depthAll xs ≤ k
  | [], _ => ⟨by unfold PyData.canLayAll0; rfl, by unfold noDicts; rfl, by unfold PyData.depthAll; exact Nat.zero_le _⟩
  | x :: xs, h => by
    have hx := h x List.mem_cons_self
    obtain ⟨a, b, c⟩ := nice_all (xs := xs) (fun y hy => h y (List.mem_cons_of_mem _ hy))
    refine ⟨?_, ?_, ?_⟩
    · unfold PyData.canLayAll0
      rw [hx.lay, a]
      rfl
    · unfold noDicts
      rw [hx.dic, b]
      rfl
    · unfold PyData.depthAll
      exact Nat.max_le.mpr ⟨hx.dep, c⟩
theorem nice_list {k : Nat} {xs : List D} (h : ∀ x ∈ xs, Nice k x) : Nice (k + 1) (.list xs) := by
  obtain ⟨a, b, c⟩ := nice_all h
  exact ⟨by unfold PyData.canLay0; exact a, by unfold noDict; exact b, by unfold PyData.depth; omega⟩
theorem nice_tuple {k : Nat} {xs : List D} (h : ∀ x ∈ xs, Nice k x) : Nice (k + 1) (.tuple xs) := by
  obtain ⟨a, b, c⟩ := nice_all h
  exact ⟨by unfold PyData.canLay0; exact a, by unfold noDict; exact b, by unfold PyData.depth; omega⟩
theorem nice_ints (ns : List Int) : Nice 1 (.list (ns.map .int)) := nice_list fun x hx => by
  obtain ⟨i, _, rfl⟩ := List.mem_map.mp hx
  exact nice_int i
theorem nice_intsT (ns : List Int) : Nice 1 (.tuple (ns.map .int)) := nice_tuple fun x hx => by
  obtain ⟨i, _, rfl⟩ := List.mem_map.mp hx
  exact nice_int i
theorem Nice.shaped {k : Nat} {d : D} (h : Nice k d) (hk : k ≤ 64) : SeqAt.shaped d = true := by
  unfold SeqAt.shaped
  rw [h.lay, decide_eq_true (show d.depth ≤ 64 by have := h.dep; omega)]
  rfl
theorem eq_nice {k j : Nat} {d e : D} (h : Nice k d) (g : Nice j e) (hk : k ≤ 64) (hj : j ≤ 64) : eqD d e = some (.bool (PyData.eqv d e)) := by
  unfold eqD
  rw [if_pos ⟨h.shaped hk, g.shaped hj, h.dic, g.dic⟩]
theorem ne_nice {k j : Nat} {d e : D} (h : Nice k d) (g : Nice j e) (hk : k ≤ 64) (hj : j ≤ 64) : neD d e = some (.bool (!PyData.eqv d e)) := by
  unfold neD
  rw [if_pos ⟨h.shaped hk, g.shaped hj, h.dic, g.dic⟩]
theorem eqvAll_ints : ∀ xs ys : List Int, PyData.eqvAll (xs.map .int) (ys.map .int) = decide (xs = ys)
  | [], [] => by unfold PyData.eqvAll; simp
  | [], y :: ys => by simp [PyData.eqvAll]
  | x :: xs, [] => by simp [PyData.eqvAll]
  | x :: xs, y :: ys => by
    rw [List.map_cons, List.map_cons]
    unfold PyData.eqvAll
    rw [eqvAll_ints xs ys]
    unfold PyData.eqv
    by_cases h : x = y <;> by_cases h2 : xs = ys <;> simp [h, h2]
theorem eqv_ints (xs ys : List Int) : PyData.eqv (.list (xs.map .int)) (.list (ys.map .int)) = decide (xs = ys) := by
  unfold PyData.eqv
  exact eqvAll_ints xs ys
theorem eqv_intsT (xs ys : List Int) : PyData.eqv (.tuple (xs.map .int)) (.tuple (ys.map .int)) = decide (xs = ys) := by
  unfold PyData.eqv
  exact eqvAll_ints xs ys
theorem ne_ints (xs ys : List Int) : neD (.list (xs.map .int)) (.list (ys.map .int)) = some (.bool (!decide (xs = ys))) := by
  rw [ne_nice (nice_ints xs) (nice_ints ys) (by omega) (by omega), eqv_ints]
theorem ne_nil (xs : List Int) : neD (.list (xs.map .int)) (.list []) = some (.bool (!xs.isEmpty)) := by
  have := ne_ints xs []
  rw [List.map_nil] at this
  rw [this]
  cases xs <;> simp
/-! ### a drawn walk -/
def hereN (b : Bld) (r : Int) : List Int := ((List.range b.ds.length).filter fun k => (b.step r (k : Nat)).isSome).map fun (k : Nat) => (k : Int)
def pS (b : Bld) (r : Int) : D → Bool
  | .int i => (b.step r i).isSome
  | _ => false
theorem here_eq (b : Bld) (r : Int) : ((rngL 0 (b.ds.length : Int)).filter (pS b r)).map id = (hereN b r).map .int := by
  unfold rngL hereN
  rw [List.map_id, List.filter_map, List.map_map, show ((b.ds.length : Int) - 0).toNat = b.ds.length by omega]
  have e1 : (pS b r ∘ fun (i : Nat) => PyData.int (0 + (i : Int))) = fun k : Nat => (b.step r (k : Int)).isSome := by
    funext k
    show (b.step r (0 + (k : Int))).isSome = _
    rw [Int.zero_add]
  have e2 : (fun (i : Nat) => PyData.int (0 + (i : Int))) = (PyData.int ∘ fun (k : Nat) => (k : Int)) := by
    funext k
    show PyData.int (0 + (k : Int)) = _
    rw [Int.zero_add]
    rfl
  rw [e1, e2]
theorem here_mem {b : Bld} {r i : Int} (h : i ∈ hereN b r) : 0 ≤ i ∧ i < b.ds.length ∧ ∃ x r', b.ds[i.toNat]? = some x ∧ x.side r = some r' ∧ b.step r i = some r' := by
  unfold hereN at h
  obtain ⟨k, hk, rfl⟩ := List.mem_map.mp h
  obtain ⟨h1, h2⟩ := List.mem_filter.mp hk
  have hl := List.mem_range.mp h1
  obtain ⟨r', hr⟩ := Option.isSome_iff_exists.mp h2
  refine ⟨by omega, by omega, ?_⟩
  have hx := List.getElem?_eq_getElem hl
  refine ⟨b.ds[k], r', by rw [Int.toNat_natCast]; exact hx, ?_, hr⟩
  unfold Bld.step at hr
  rw [if_pos (by omega), Int.toNat_natCast, hx] at hr
  exact hr
abbrev WSt := Int × List Int × Option (Fl × D) × Option (Fl × D) × Option (Fl × D)
def wNum (dr : List Int) (b : Bld) (r t : Int) : Int := (hereN b r).getD (drawn dr (2 + t) % (hereN b r).length).toNat 0
def wStep (dr : List Int) (b : Bld) (s : WSt) : D → WSt
  | .int t => if (hereN b s.1).isEmpty = true then (s.1, s.2.1, some (.dat, .int t), some (.dat, .list ((hereN b s.1).map .int)), s.2.2.2.2)
    else ((b.step s.1 (wNum dr b s.1 t)).getD 0, s.2.1 ++ [wNum dr b s.1 t], some (.dat, .int t), some (.dat, .list ((hereN b s.1).map .int)), some (.dat, .int (wNum dr b s.1 t)))
  | _ => s
def wlkS (ns : List Int) (a : Int) (b : Bld) : Int := drawn (rowN ns a) 0 % b.R
def wlkF (ns : List Int) (a : Int) (b : Bld) (most : Int) : WSt := (rngL 0 (drawn (rowN ns a) 1 % (most + 1))).foldl (wStep (rowN ns a) b) (wlkS ns a b, [], none, none, none)
def wlkN (ns : List Int) (a : Int) (b : Bld) (most : Int) : Wlk := (wlkS ns a b, (wlkF ns a b most).2.1)
def wlkE (ns : List Int) (a : Int) (b : Bld) (most : Int) : Int := (wlkF ns a b most).1
def Bld.path (b : Bld) : Int → List Int → Option Int
  | r, [] => some r
  | r, n :: ns => (match b.step r n with
    | some r' => b.path r' ns
    | none => none)
theorem path_snoc {b : Bld} : ∀ {ns : List Int} {r e n e' : Int}, b.path r ns = some e → b.step e n = some e' → b.path r (ns ++ [n]) = some e'
  | [], r, e, n, e', h1, h2 => by
    cases h1
    show (match b.step r n with | some r' => b.path r' [] | none => none) = _
    rw [h2]
    rfl
  | m :: ns, r, e, n, e', h1, h2 => by
    show (match b.step r m with | some r' => b.path r' (ns ++ [n]) | none => none) = _
    have h1' : (match b.step r m with | some r' => b.path r' ns | none => none) = some e := h1
    cases e1 : b.step r m with
    | none => rw [e1] at h1'; cases h1'
    | some r' =>
      rw [e1] at h1'
      exact path_snoc (ns := ns) h1' h2
theorem wnum_mem {dr : List Int} {b : Bld} {r t : Int} (h : (hereN b r).isEmpty = false) : wNum dr b r t ∈ hereN b r ∧ 0 ≤ drawn dr (2 + t) % (hereN b r).length ∧ drawn dr (2 + t) % (hereN b r).length < (hereN b r).length := by
  have hl : 0 < (hereN b r).length := by
    cases e : hereN b r with
    | nil => rw [e] at h; cases h
    | cons _ _ => simp
  have m := mod_pos (a := drawn dr (2 + t)) (b := (hereN b r).length) (by omega)
  refine ⟨?_, m⟩
  unfold wNum
  rw [List.getD_eq_getElem?_getD, List.getElem?_eq_getElem (by omega)]
  exact List.getElem_mem _
theorem wlk_inv (ns : List Int) (a : Int) (b : Bld) (most : Int) (hm : 0 ≤ most) : b.path (wlkS ns a b) (wlkF ns a b most).2.1 = some (wlkF ns a b most).1 ∧ ((wlkF ns a b most).2.1.length : Int) ≤ most ∧ Wlk.inB b.ds.length (wlkN ns a b most) := by
  have m2 := mod_pos (a := drawn (rowN ns a) 1) (b := most + 1) (by omega)
  have := fold_inv (step := wStep (rowN ns a) b) (I := fun k s => b.path (wlkS ns a b) s.2.1 = some s.1 ∧ s.2.1.length ≤ k ∧ ∀ n ∈ s.2.1, 0 ≤ n ∧ n < b.ds.length) (rngL 0 (drawn (rowN ns a) 1 % (most + 1))) 0 (wlkS ns a b, [], none, none, none) ⟨rfl, Nat.le_refl _, fun n hn => nomatch hn⟩ (fun k d s hk hs => by
    obtain ⟨rfl, hk2⟩ := rngL_get hk
    unfold wStep
    dsimp only
    cases he : (hereN b s.1).isEmpty with
    | true => exact ⟨hs.1, by have := hs.2.1; simp; omega, hs.2.2⟩
    | false =>
      obtain ⟨w1, w2, w3⟩ := wnum_mem (dr := rowN ns a) (t := 0 + (k : Int)) he
      obtain ⟨g1, g2, x, r', g3, g4, g5⟩ := here_mem w1
      rw [g5]
      refine ⟨path_snoc hs.1 g5, ?_, fun n hn => ?_⟩
      · have := hs.2.1
        simp
        omega
      · rcases List.mem_append.mp (show n ∈ s.2.1 ++ [_] from hn) with hn | hn
        · exact hs.2.2 n hn
        · rw [List.mem_singleton.mp hn]
          exact ⟨g1, g2⟩)
  rw [rngL_len] at this
  refine ⟨this.1, ?_, this.2.2⟩
  have := this.2.1
  show ((wlkF ns a b most).2.1.length : Int) ≤ most
  unfold wlkF
  omega
def WalkedOk (G : Gb) (c : Nat) : Prop := ∀ (ns : List Int) (a : Int) (b : Bld) (most : Int), 0 ≤ a → b.ok → 0 ≤ most → most ≤ 57 → G.phi c [.list (ns.map .int), .int a, b.d, .int most] = some (.ok (.tuple [.int (wlkS ns a b), .tuple ((wlkN ns a b most).2.map .int), .int (wlkE ns a b most)]))
theorem walked_sem (G : Gb) (c cs : Nat) (hc : RowOk G c) (hs : SideOk G cs) (ns : List Int) (a : Int) (b : Bld) (most : Int) (ha : 0 ≤ a) (hb : b.ok) (h1 : 0 ≤ most) (h2 : most ≤ 57) : runF G 0 true (b_law_walked c cs) 11 [.list (ns.map .int), .int a, b.d, .int most] = some (.ok (.tuple [.int (wlkS ns a b), .tuple ((wlkN ns a b most).2.map .int), .int (wlkE ns a b most)])) := by
  refine run_ret [some (.bor, .list (ns.map .int)), some (.bor, .int a), some (.bor, b.d), some (.bor, .int most), none, none, none, none, none, none, none] rfl ?_
  have e1 := hc ns a ha
  have dl := bld_draws ns a
  have d0 := at_draw (k := 0) dl (by omega) (by omega)
  have d1 := at_draw (k := 1) dl (by omega) (by omega)
  have q1 : 0 < b.R := by have := hb.r1; omega
  have q2 : 0 < most + 1 := by omega
  have m2 := mod_pos (a := drawn (rowN ns a) 1) (b := most + 1) (by omega)
  have rg : rngOk 0 (drawn (rowN ns a) 1 % (most + 1)) = true := rng_ok (by omega) (by omega) (by omega) (by omega) (by omega)
  simp -implicitDefEqProofs only [b_law_walked, execSs, execS, seqS, thenS, retS, retNS, retV, mutL, mutD, keepX, ixD2, inD2, itemsOf, seqOf, zipI, enumI, cntV, popK, takeOff, extK, dputS, dct1, dkey, dinD, parK, bindX, ioV, nxK, retIO, callT, newA, evalT, evalX, evalZ, keepB, isDict, Bool.true_or, Bool.or_true, Bool.false_or, Bool.or_false, Bool.true_and, Bool.and_true, Bool.false_and, Bool.and_false, datK, ownK, tgK, appK, evalE, evalK, evalA, evalAnd, evalOr, evalO, evalF, evalI, evalC, keep, keepV, slotVal, lift1, lift2, liftA, consA, callF, notV, andT, orT, ifV, tstB, DD.ifS, DD.forS, compV, seqI, rngI, E.src, sem2, semC, semB, Ty.nm, Cst.d, boolRes, truth_bool, truth_none, truth_int, truth_list, truth_tuple, isi_int, isi_bool, isi_tuple, isi_list, isi_str, addD, subD, mul_int, fdiv_int, mod_int, ltD, leD, gtD, geD, lenD, isNone, negD, tg_one, tg_many, tgs_nil, tgs_cons, flatRoot, okSize, List.getElem?_cons_zero, List.getElem?_cons_succ, List.set_cons_zero, List.set_cons_succ, List.length_cons, List.length_nil, Option.map_some, Option.map_none, Nat.zero_add, if_true, if_false, Bool.not_true, Bool.not_false, reduceCtorEq, or_true, true_or, or_false, false_or, Nat.reduceAdd, Nat.reduceLeDiff, decide_true, decide_false, Bool.false_eq_true, e1, Bld.d, ixD, d0, d1, at_c0, at_c1, q1, q2, rg]
  rw [forL_foldR (fun s : WSt => [some (Fl.bor, PyData.list (ns.map PyData.int)), some (Fl.bor, PyData.int a), some (Fl.bor, b.d), some (Fl.bor, PyData.int most), some (Fl.dat, PyData.list ((rowN ns a).map PyData.int)), some (Fl.dat, PyData.int (wlkS ns a b)), some (Fl.dat, PyData.int s.1), some (Fl.own, PyData.list (s.2.1.map PyData.int)), s.2.2.1, s.2.2.2.1, s.2.2.2.2])
    (wStep (rowN ns a) b) (fun k s => s.2.1.length ≤ k) (wlkS ns a b, [], none, none, none)]
  · simp -implicitDefEqProofs only [execSs, execS, seqS, thenS, retS, retNS, retV, mutL, mutD, keepX, ixD2, inD2, itemsOf, seqOf, zipI, enumI, cntV, popK, takeOff, extK, dputS, dct1, dkey, dinD, parK, bindX, ioV, nxK, retIO, callT, newA, evalT, evalX, evalZ, keepB, isDict, Bool.true_or, Bool.or_true, Bool.false_or, Bool.or_false, Bool.true_and, Bool.and_true, Bool.false_and, Bool.and_false, datK, ownK, tgK, appK, evalE, evalK, evalA, evalAnd, evalOr, evalO, evalF, evalI, evalC, keep, keepV, slotVal, lift1, lift2, liftA, consA, callF, notV, andT, orT, ifV, tstB, DD.ifS, DD.forS, compV, seqI, rngI, E.src, sem2, semC, semB, Ty.nm, Cst.d, boolRes, truth_bool, truth_none, truth_int, truth_list, truth_tuple, isi_int, isi_bool, isi_tuple, isi_list, isi_str, addD, subD, mul_int, fdiv_int, mod_int, ltD, leD, gtD, geD, lenD, isNone, negD, tg_one, tg_many, tgs_nil, tgs_cons, flatRoot, okSize, List.getElem?_cons_zero, List.getElem?_cons_succ, List.set_cons_zero, List.set_cons_succ, List.length_cons, List.length_nil, Option.map_some, Option.map_none, Nat.zero_add, if_true, if_false, Bool.not_true, Bool.not_false, reduceCtorEq, or_true, true_or, or_false, false_or, Nat.reduceAdd, Nat.reduceLeDiff, decide_true, decide_false, Bool.false_eq_true, tupleD]
    rfl
  · rfl
  · exact Nat.le_refl _
  · intro k d s hk hsl
    obtain ⟨rfl, hk2⟩ := rngL_get hk
    have a2 := at_draw (k := 2 + (0 + (k : Int))) dl (by omega) (by omega)
    have rg2 : rngOk 0 (b.ds.length : Int) = true := by
      have := hb.n8
      exact rng_ok (by omega) (by omega) (by omega) (by omega) (by omega)
    refine ⟨_, rfl, ?_⟩
    have hsl2 : s.2.1.length < 16777216 := by omega
    have inv : (wStep (rowN ns a) b s (.int (0 + (k : Int)))).2.1.length ≤ k + 1 := by
      unfold wStep
      dsimp only
      split
      · dsimp only
        omega
      · simp
        omega
    refine ⟨?_, inv⟩
    simp -implicitDefEqProofs only [execSs, execS, seqS, thenS, retS, retNS, retV, mutL, mutD, keepX, ixD2, inD2, itemsOf, seqOf, zipI, enumI, cntV, popK, takeOff, extK, dputS, dct1, dkey, dinD, parK, bindX, ioV, nxK, retIO, callT, newA, evalT, evalX, evalZ, keepB, isDict, Bool.true_or, Bool.or_true, Bool.false_or, Bool.or_false, Bool.true_and, Bool.and_true, Bool.false_and, Bool.and_false, datK, ownK, tgK, appK, evalE, evalK, evalA, evalAnd, evalOr, evalO, evalF, evalI, evalC, keep, keepV, slotVal, lift1, lift2, liftA, consA, callF, notV, andT, orT, ifV, tstB, DD.ifS, DD.forS, compV, seqI, rngI, E.src, sem2, semC, semB, Ty.nm, Cst.d, boolRes, truth_bool, truth_none, truth_int, truth_list, truth_tuple, isi_int, isi_bool, isi_tuple, isi_list, isi_str, addD, subD, mul_int, fdiv_int, mod_int, ltD, leD, gtD, geD, lenD, isNone, negD, tg_one, tg_many, tgs_nil, tgs_cons, flatRoot, okSize, List.getElem?_cons_zero, List.getElem?_cons_succ, List.set_cons_zero, List.set_cons_succ, List.length_cons, List.length_nil, Option.map_some, Option.map_none, Nat.zero_add, if_true, if_false, Bool.not_true, Bool.not_false, reduceCtorEq, or_true, true_or, or_false, false_or, Nat.reduceAdd, Nat.reduceLeDiff, decide_true, decide_false, Bool.false_eq_true, Bld.d, ixD, at_c1, List.length_map, rg2, wipeR, List.map_cons, List.map_nil]
    rw [compL_eq (pS b s.1) id, here_eq]
    · cases he : (hereN b s.1).isEmpty with
      | true =>
        have hw : wStep (rowN ns a) b s (.int (0 + (k : Int))) = (s.1, s.2.1, some (.dat, .int (0 + (k : Int))), some (.dat, .list ((hereN b s.1).map .int)), s.2.2.2.2) := by
          unfold wStep
          dsimp only
          rw [if_pos he]
        rw [hw]
        simp -implicitDefEqProofs only [execSs, execS, seqS, thenS, retS, retNS, retV, mutL, mutD, keepX, ixD2, inD2, itemsOf, seqOf, zipI, enumI, cntV, popK, takeOff, extK, dputS, dct1, dkey, dinD, parK, bindX, ioV, nxK, retIO, callT, newA, evalT, evalX, evalZ, keepB, isDict, Bool.true_or, Bool.or_true, Bool.false_or, Bool.or_false, Bool.true_and, Bool.and_true, Bool.false_and, Bool.and_false, datK, ownK, tgK, appK, evalE, evalK, evalA, evalAnd, evalOr, evalO, evalF, evalI, evalC, keep, keepV, slotVal, lift1, lift2, liftA, consA, callF, notV, andT, orT, ifV, tstB, DD.ifS, DD.forS, compV, seqI, rngI, E.src, sem2, semC, semB, Ty.nm, Cst.d, boolRes, truth_bool, truth_none, truth_int, truth_list, truth_tuple, isi_int, isi_bool, isi_tuple, isi_list, isi_str, addD, subD, mul_int, fdiv_int, mod_int, ltD, leD, gtD, geD, lenD, isNone, negD, tg_one, tg_many, tgs_nil, tgs_cons, flatRoot, okSize, List.getElem?_cons_zero, List.getElem?_cons_succ, List.set_cons_zero, List.set_cons_succ, List.length_cons, List.length_nil, Option.map_some, Option.map_none, Nat.zero_add, if_true, if_false, Bool.not_true, Bool.not_false, reduceCtorEq, or_true, true_or, or_false, false_or, Nat.reduceAdd, Nat.reduceLeDiff, decide_true, decide_false, Bool.false_eq_true, ne_nil, he]
      | false =>
        have hw : wStep (rowN ns a) b s (.int (0 + (k : Int))) = ((b.step s.1 (wNum (rowN ns a) b s.1 (0 + (k : Int)))).getD 0, s.2.1 ++ [wNum (rowN ns a) b s.1 (0 + (k : Int))], some (.dat, .int (0 + (k : Int))), some (.dat, .list ((hereN b s.1).map .int)), some (.dat, .int (wNum (rowN ns a) b s.1 (0 + (k : Int))))) := by
          unfold wStep
          dsimp only
          rw [if_neg (by rw [he]; simp)]
        obtain ⟨w1, w2, w3⟩ := wnum_mem (dr := rowN ns a) (t := 0 + (k : Int)) he
        obtain ⟨g1, g2, x, r', g3, g4, g5⟩ := here_mem w1
        have a3 : atI ((hereN b s.1).map PyData.int) (drawn (rowN ns a) (2 + (0 + (k : Int))) % (hereN b s.1).length) = some (.int (wNum (rowN ns a) b s.1 (0 + (k : Int)))) := at_ints w2 w3
        have co := hs b _ x s.1 g3
        rw [Int.toNat_of_nonneg g1, g4] at co
        unfold Bld.d at co
        have ml : (0 : Int) < (hereN b s.1).length := by omega
        rw [hw, g5]
        simp -implicitDefEqProofs only [execSs, execS, seqS, thenS, retS, retNS, retV, mutL, mutD, keepX, ixD2, inD2, itemsOf, seqOf, zipI, enumI, cntV, popK, takeOff, extK, dputS, dct1, dkey, dinD, parK, bindX, ioV, nxK, retIO, callT, newA, evalT, evalX, evalZ, keepB, isDict, Bool.true_or, Bool.or_true, Bool.false_or, Bool.or_false, Bool.true_and, Bool.and_true, Bool.false_and, Bool.and_false, datK, ownK, tgK, appK, evalE, evalK, evalA, evalAnd, evalOr, evalO, evalF, evalI, evalC, keep, keepV, slotVal, lift1, lift2, liftA, consA, callF, notV, andT, orT, ifV, tstB, DD.ifS, DD.forS, compV, seqI, rngI, E.src, sem2, semC, semB, Ty.nm, Cst.d, boolRes, truth_bool, truth_none, truth_int, truth_list, truth_tuple, isi_int, isi_bool, isi_tuple, isi_list, isi_str, addD, subD, mul_int, fdiv_int, mod_int, ltD, leD, gtD, geD, lenD, isNone, negD, tg_one, tg_many, tgs_nil, tgs_cons, flatRoot, okSize, List.getElem?_cons_zero, List.getElem?_cons_succ, List.set_cons_zero, List.set_cons_succ, List.length_cons, List.length_nil, Option.map_some, Option.map_none, Nat.zero_add, if_true, if_false, Bool.not_true, Bool.not_false, reduceCtorEq, or_true, true_or, or_false, false_or, Nat.reduceAdd, Nat.reduceLeDiff, decide_true, decide_false, Bool.false_eq_true, ne_nil, he, ixD, a2, a3, ml, List.length_map, hsl2, co, oI, at_c1, Option.getD_some, List.map_append, List.map_cons, List.map_nil]
    · intro d hm
      obtain ⟨kk, hkk, rfl⟩ := List.mem_map.mp (show d ∈ (List.range ((b.ds.length : Int) - 0).toNat).map _ from hm)
      have hl := List.mem_range.mp hkk
      have hl2 : kk < b.ds.length := by omega
      have hx := List.getElem?_eq_getElem hl2
      have co := hs b kk _ s.1 hx
      have ep : pS b s.1 (.int (0 + (kk : Int))) = !isNone (oI ((b.ds[kk]).side s.1)) := by
        show (b.step s.1 (0 + (kk : Int))).isSome = _
        unfold Bld.step
        rw [if_pos (by omega), show (0 + (kk : Int)).toNat = kk by omega, hx]
        show ((b.ds[kk]).side s.1).isSome = _
        cases (b.ds[kk]).side s.1 <;> rfl
      unfold Bld.d at co
      refine ⟨_, rfl, ?_, fun _ => ?_⟩
      · rw [ep]
        simp -implicitDefEqProofs only [execSs, execS, seqS, thenS, retS, retNS, retV, mutL, mutD, keepX, ixD2, inD2, itemsOf, seqOf, zipI, enumI, cntV, popK, takeOff, extK, dputS, dct1, dkey, dinD, parK, bindX, ioV, nxK, retIO, callT, newA, evalT, evalX, evalZ, keepB, isDict, Bool.true_or, Bool.or_true, Bool.false_or, Bool.or_false, Bool.true_and, Bool.and_true, Bool.false_and, Bool.and_false, datK, ownK, tgK, appK, evalE, evalK, evalA, evalAnd, evalOr, evalO, evalF, evalI, evalC, keep, keepV, slotVal, lift1, lift2, liftA, consA, callF, notV, andT, orT, ifV, tstB, DD.ifS, DD.forS, compV, seqI, rngI, E.src, sem2, semC, semB, Ty.nm, Cst.d, boolRes, truth_bool, truth_none, truth_int, truth_list, truth_tuple, isi_int, isi_bool, isi_tuple, isi_list, isi_str, addD, subD, mul_int, fdiv_int, mod_int, ltD, leD, gtD, geD, lenD, isNone, negD, tg_one, tg_many, tgs_nil, tgs_cons, flatRoot, okSize, List.getElem?_cons_zero, List.getElem?_cons_succ, List.set_cons_zero, List.set_cons_succ, List.length_cons, List.length_nil, Option.map_some, Option.map_none, Nat.zero_add, if_true, if_false, Bool.not_true, Bool.not_false, reduceCtorEq, or_true, true_or, or_false, false_or, Nat.reduceAdd, Nat.reduceLeDiff, decide_true, decide_false, Bool.false_eq_true, Int.zero_add, co]
      · simp -implicitDefEqProofs only [execSs, execS, seqS, thenS, retS, retNS, retV, mutL, mutD, keepX, ixD2, inD2, itemsOf, seqOf, zipI, enumI, cntV, popK, takeOff, extK, dputS, dct1, dkey, dinD, parK, bindX, ioV, nxK, retIO, callT, newA, evalT, evalX, evalZ, keepB, isDict, Bool.true_or, Bool.or_true, Bool.false_or, Bool.or_false, Bool.true_and, Bool.and_true, Bool.false_and, Bool.and_false, datK, ownK, tgK, appK, evalE, evalK, evalA, evalAnd, evalOr, evalO, evalF, evalI, evalC, keep, keepV, slotVal, lift1, lift2, liftA, consA, callF, notV, andT, orT, ifV, tstB, DD.ifS, DD.forS, compV, seqI, rngI, E.src, sem2, semC, semB, Ty.nm, Cst.d, boolRes, truth_bool, truth_none, truth_int, truth_list, truth_tuple, isi_int, isi_bool, isi_tuple, isi_list, isi_str, addD, subD, mul_int, fdiv_int, mod_int, ltD, leD, gtD, geD, lenD, isNone, negD, tg_one, tg_many, tgs_nil, tgs_cons, flatRoot, okSize, List.getElem?_cons_zero, List.getElem?_cons_succ, List.set_cons_zero, List.set_cons_succ, List.length_cons, List.length_nil, Option.map_some, Option.map_none, Nat.zero_add, if_true, if_false, Bool.not_true, Bool.not_false, reduceCtorEq, or_true, true_or, or_false, false_or, Nat.reduceAdd, Nat.reduceLeDiff, decide_true, decide_false, Bool.false_eq_true, id]
end
end DD

namespace DD
noncomputable section
open PySem PySem.Spec PyProof.Rows L2
theorem lastI_snoc (fs : List Int) (r : Int) : lastI (fs ++ [r]) = r := by
  unfold lastI
  simp
/-! ### the defs of a law by their places -/
/-- how many defs of each kind -/
def cntF : List DefX → Nat
  | [] => 0
  | d :: r => (match d.cl, d.io with
    | false, none => 1
    | _, _ => 0) + cntF r
theorem gb_lenF : ∀ (ds : List DefX) (G : Gb), (gbOf G ds).fns.length = G.fns.length + cntF ds
  | [], G => rfl
  | d :: r, G => by
    show (gbOf (addF G d) r).fns.length = _
    have e : cntF (d :: r) = (match d.cl, d.io with | false, none => 1 | _, _ => 0) + cntF r := rfl
    rw [gb_lenF r, e]
    unfold addF
    cases d.cl with
    | true => simp
    | false =>
      cases d.io with
      | none => simp; omega
      | some k => simp
theorem gb_same : ∀ (ds : List DefX) (G : Gb), (gbOf G ds).csts = G.csts ∧ (gbOf G ds).excs = G.excs ∧ (gbOf G ds).sub = G.sub
  | [], G => ⟨rfl, rfl, rfl⟩
  | d :: r, G => by
    have h := gb_same r (addF G d)
    have e : gbOf G (d :: r) = gbOf (addF G d) r := rfl
    rw [e, h.1, h.2.1, h.2.2]
    unfold addF
    cases d.cl with
    | true => exact ⟨rfl, rfl, rfl⟩
    | false =>
      cases d.io with
      | none => exact ⟨rfl, rfl, rfl⟩
      | some k => exact ⟨rfl, rfl, rfl⟩
/-- what stands stays -/
theorem app_get {α : Type} {l : List α} {x F : α} {i : Nat} (q : l[i]? = some F) : (l ++ [x])[i]? = some F := by
  rw [List.getElem?_append_left]
  · exact q
  · by_cases hl : i < l.length
    · exact hl
    · rw [List.getElem?_eq_none (by omega)] at q
      cases q
theorem gb_more : ∀ (ds : List DefX) (G : Gb), (∀ (i : Nat) F, G.fns[i]? = some F → (gbOf G ds).fns[i]? = some F) ∧ (∀ (i : Nat) F, G.ios[i]? = some F → (gbOf G ds).ios[i]? = some F) ∧ (∀ (i : Nat) F, G.mks[i]? = some F → (gbOf G ds).mks[i]? = some F)
  | [], G => ⟨fun i F h => h, fun i F h => h, fun i F h => h⟩
  | d :: r, G => by
    have h := gb_more r (addF G d)
    have e : gbOf G (d :: r) = gbOf (addF G d) r := rfl
    rw [e]
    refine ⟨fun i F q => h.1 i F ?_, fun i F q => h.2.1 i F ?_, fun i F q => h.2.2 i F ?_⟩
    · unfold addF
      cases d.cl with
      | true => exact q
      | false =>
        cases d.io with
        | none => exact app_get q
        | some k => exact q
    · unfold addF
      cases d.cl with
      | true => exact q
      | false =>
        cases d.io with
        | none => exact q
        | some k => exact app_get q
    · unfold addF
      cases d.cl with
      | true => exact app_get q
      | false =>
        cases d.io with
        | none => exact q
        | some k => exact q
theorem take_split {ds : List DefX} {i j : Nat} {d : DefX} (h : i < j) (hd : ds[i]? = some d) : ∃ r, ds.take j = ds.take i ++ d :: r := by
  have hl : i < ds.length := by
    by_cases hl : i < ds.length
    · exact hl
    · rw [List.getElem?_eq_none (by omega)] at hd
      cases hd
  refine ⟨(ds.drop (i + 1)).take (j - (i + 1)), ?_⟩
  have e : ds.drop i = d :: ds.drop (i + 1) := by
    rw [List.drop_eq_getElem_cons hl]
    congr
    rw [List.getElem?_eq_getElem hl] at hd
    exact Option.some.inj hd
  have e2 : ds.take j = ds.take i ++ (ds.drop i).take (j - i) := by
    rw [← List.take_append_drop i (ds.take j), List.take_take, Nat.min_eq_left (by omega), List.drop_take]
  rw [e2, e]
  congr 1
  rw [show j - i = (j - (i + 1)) + 1 by omega]
  rfl
theorem gbOf_app (G : Gb) (a b : List DefX) : gbOf G (a ++ b) = gbOf (gbOf G a) b := by
  unfold gbOf
  rw [List.foldl_append]
theorem phi_at {G : Gb} {ds : List DefX} {i j p : Nat} {d : DefX} (hG : G.fns = []) (h : i < j) (hd : ds[i]? = some d) (hio : d.io = none) (hp : cntF (ds.take i) = p) (hcl : d.cl = false := by rfl) : (gbOf G (ds.take j)).phi p = runF (gbOf G (ds.take i)) d.fuel d.nw d.body d.N.length := by
  obtain ⟨r, e⟩ := take_split h hd
  have q : (gbOf G (ds.take j)).fns[p]? = some (d.fn (gbOf G (ds.take i))) := by
    rw [e, gbOf_app]
    show (gbOf (addF (gbOf G (ds.take i)) d) r).fns[p]? = _
    refine (gb_more r _).1 p _ ?_
    unfold addF
    rw [hcl, hio]
    show ((gbOf G (ds.take i)).fns ++ [_])[p]? = _
    have hl := gb_lenF (ds.take i) G
    rw [hG, hp] at hl
    rw [List.getElem?_append_right (by simp at hl; omega)]
    simp at hl
    rw [hl, Nat.sub_self]
    rfl
  unfold Gb.phi
  rw [q]
  rfl
end
end DD

namespace DD
noncomputable section
open PySem PySem.Spec PyProof.Rows L2
/-! ### runs by what holds behind them -/
def WP (o : Option Out) (N : Rho → Prop) (T : D → Prop) (E : Nat → Prop) : Prop := match o with
  | none => False
  | some (.next ρ) => N ρ
  | some (.ret d) => T d
  | some (.exc c _) => E c
theorem WP.mono {o : Option Out} {N N' : Rho → Prop} {T T' : D → Prop} {E E' : Nat → Prop} (h : WP o N T E) (hN : ∀ ρ, N ρ → N' ρ) (hT : ∀ d, T d → T' d) (hE : ∀ c, E c → E' c) : WP o N' T' E' := by
  cases o with
  | none => exact h
  | some o =>
    cases o with
    | next ρ => exact hN _ h
    | ret d => exact hT _ h
    | exc c p => exact hE _ h
theorem wp_cons {G : Gb} {f : Nat} {mo : Mo} {s : S} {r : Ss} {ρ : Rho} {N : Rho → Prop} {T : D → Prop} {E : Nat → Prop} (h : WP (execS G f mo s ρ) (fun ρ' => WP (execSs G f mo r ρ') N T E) T E) : WP (execSs G f mo (.cons s r) ρ) N T E := by
  rw [execSs]
  unfold seqS
  cases e : execS G f mo s ρ with
  | none => rw [e] at h; exact h
  | some o =>
    rw [e] at h
    cases o with
    | next ρ' => exact h
    | ret d => exact h
    | exc c p => exact h
theorem wp_nil {G : Gb} {f : Nat} {mo : Mo} {ρ : Rho} {N : Rho → Prop} {T : D → Prop} {E : Nat → Prop} (h : N ρ) : WP (execSs G f mo .nil ρ) N T E := by
  rw [execSs]
  exact h
/-- one statement whose run is known -/
theorem wp_step {G : Gb} {f : Nat} {mo : Mo} {s : S} {r : Ss} {ρ : Rho} {N : Rho → Prop} {T : D → Prop} {E : Nat → Prop} (ρ' : Rho) (e : execS G f mo s ρ = some (.next ρ')) (h : WP (execSs G f mo r ρ') N T E) : WP (execSs G f mo (.cons s r) ρ) N T E := by
  refine wp_cons ?_
  rw [e]
  exact h
theorem wp_forL {α : Type} (f : α → D) (I : Nat → Rho → Prop) {bb : D → Rho → Option Rho} {body : Rho → Option Out} {N : Rho → Prop} {T : D → Prop} {E : Nat → Prop} :
    ∀ (l : List α) (n : Nat) (ρ : Rho), I n ρ → (∀ k x ρ, l[k]? = some x → I (n + k) ρ → ∃ ρ1, bb (f x) ρ = some ρ1 ∧ WP (body ρ1) (I (n + k + 1)) T E) → (∀ ρ, I (n + l.length) ρ → N ρ) → WP (forL bb body (l.map f) ρ) N T E
  | [], n, ρ, h0, _, hN => hN ρ h0
  | x :: l, n, ρ, h0, h, hN => by
    obtain ⟨ρ1, e1, h1⟩ := h 0 x ρ rfl h0
    rw [List.map_cons]
    unfold forL
    rw [e1]
    dsimp only
    cases e : body ρ1 with
    | none => rw [e] at h1; exact h1
    | some o =>
      rw [e] at h1
      cases o with
      | next ρ2 =>
        dsimp only
        refine wp_forL f I l (n + 1) ρ2 h1 (fun k x' ρ' hk hI => ?_) (fun ρ' hI => hN ρ' ?_)
        · have := h (k + 1) x' ρ' (by simpa using hk) (by rw [show n + (k + 1) = n + 1 + k by omega]; exact hI)
          rw [show n + (k + 1) = n + 1 + k by omega] at this
          exact this
        · rw [List.length_cons, show n + (l.length + 1) = n + 1 + l.length by omega]
          exact hI
      | ret d => exact h1
      | exc c p => exact h1
theorem wp_for {α : Type} (f : α → D) (I : Nat → Rho → Prop) (l : List α) {bb : D → Rho → Option Rho} {body : Rho → Option Out} {N : Rho → Prop} {T : D → Prop} {E : Nat → Prop} {ρ : Rho} (h0 : I 0 ρ) (h : ∀ k x ρ, l[k]? = some x → I k ρ → ∃ ρ1, bb (f x) ρ = some ρ1 ∧ WP (body ρ1) (I (k + 1)) T E) (hN : ∀ ρ, I l.length ρ → N ρ) :
    WP (forL bb body (l.map f) ρ) N T E := wp_forL f I l 0 ρ h0 (fun k x ρ hk hI => by rw [Nat.zero_add] at hI ⊢; exact h k x ρ hk hI) (fun ρ hI => hN ρ (by rw [Nat.zero_add] at hI; exact hI))
theorem wp_forS {α : Type} {G : Gb} {fu : Nat} {mo : Mo} {t : Tg} {it : Itb} {body : Ss} {ρ : Rho} {N : Rho → Prop} {T : D → Prop} {E : Nat → Prop} (f : α → D) (I : Nat → Rho → Prop) (l : List α) (hi : evalI G it ρ = some (.ok (l.map f))) (h0 : I 0 ρ)
    (h : ∀ k x ρ, l[k]? = some x → I k ρ → ∃ ρ1, t.bind (f x) ρ = some ρ1 ∧ WP (execSs G fu mo body ρ1) (I (k + 1)) T E) (hN : ∀ ρ, I l.length ρ → N ρ) : WP (execS G fu mo (.forS t it body) ρ) N T E := by
  rw [execS]
  unfold DD.forS
  rw [hi]
  exact wp_for f I l h0 h hN
theorem wp_if {G : Gb} {fu : Nat} {mo : Mo} {c : E} {a b : Ss} {ρ : Rho} {N : Rho → Prop} {T : D → Prop} {E : Nat → Prop} (k : Bool) (hc : tstB (evalE G c) ρ = some (.ok k)) (h1 : k = true → WP (execSs G fu mo a ρ) N T E) (h2 : k = false → WP (execSs G fu mo b ρ) N T E) : WP (execS G fu mo (.ifS c a b) ρ) N T E := by
  rw [execS]
  unfold DD.ifS
  rw [hc]
  cases k with
  | true => exact h1 rfl
  | false => exact h2 rfl
theorem run_wp {G : Gb} {fuel : Nat} {nw : Bool} {body : Ss} {n : Nat} {args : List D} {d : D} (ρ : Rho) (h0 : initR args n = ρ) (h : WP (execSs G fuel ⟨nw, none⟩ body ρ) (fun _ => False) (fun x => x = d) (fun _ => False)) : runF G fuel nw body n args = some (.ok d) := by
  unfold runF
  rw [h0]
  cases e : execSs G fuel ⟨nw, none⟩ body ρ with
  | none => rw [e] at h; exact h.elim
  | some o =>
    rw [e] at h
    cases o with
    | next ρ => exact h.elim
    | ret x => cases h; rfl
    | exc c p => exact h.elim
/-! ### lists -/
theorem rng_map (n : Nat) : rngL 0 (n : Int) = (List.range n).map fun (i : Nat) => PyData.int (i : Nat) := by
  unfold rngL
  rw [show ((n : Int) - 0).toNat = n by omega]
  apply List.map_congr_left
  intro i _
  simp
theorem comp_map {α : Type} (f : α → D) (p : α → Bool) (g : α → D) {bb : D → Rho → Option Rho} {mt : Rho → Option ResB} {me : Rho → Option Res} {ρ : Rho} : ∀ (l : List α), (∀ x ∈ l, ∃ ρ1, bb (f x) ρ = some ρ1 ∧ mt ρ1 = some (.ok (p x)) ∧ (p x = true → me ρ1 = some (.ok (g x)))) →
    compL bb mt me ρ (l.map f) = some ((l.filter p).map g)
  | [], _ => rfl
  | x :: l, h => by
    obtain ⟨ρ1, e1, e2, e3⟩ := h x List.mem_cons_self
    have ih := comp_map f p g l (fun y hy => h y (List.mem_cons_of_mem _ hy))
    rw [List.map_cons]
    unfold compL
    rw [e1]
    dsimp only
    rw [e2]
    cases e : p x with
    | true =>
      dsimp only
      rw [e3 e]
      dsimp only
      rw [ih, List.filter_cons, e]
      rfl
    | false =>
      dsimp only
      rw [ih, List.filter_cons, e]
      rfl
end
end DD

namespace DD
noncomputable section
open PySem PySem.Spec PyProof.Rows L2
/-! ### counts and directions of a building -/
def csD (cs : List Int) : D := .tuple (cs.map .int)
def iL (ns : List Int) : D := .list (ns.map .int)
structure CsOk (b : Bld) (cs : List Int) : Prop where
  len : cs.length = b.ds.length
  rng : ∀ c ∈ cs, 0 ≤ c ∧ c ≤ 9
def Bld.dc (b : Bld) (cs : List Int) : List (Door × Int) := b.ds.zip cs
/-! ### wanted_flows -/
def b2i (p : Bool) : Int := if p = true then 1 else 0
theorem filter_true {α : Type} (l : List α) : l.filter (fun _ => true) = l := by
  induction l with
  | nil => rfl
  | cons x l ih => rw [List.filter_cons, if_pos rfl, ih]
/-! ### passages_at -/
def Door.has (x : Door) (r : Int) : Bool := decide (r = x.a) || decide (r = x.b)
/-! ### first_directions -/
end
end DD

namespace DD
noncomputable section
open PySem PySem.Spec PyProof.Rows L2
/-! ### outflows -/
/-- a door, its count, how often it is passed from its first room -/
abbrev Dcf := Door × Int × Int
end
end DD

namespace DD
noncomputable section
open PySem PySem.Spec PyProof.Rows L2
/-! ### leaving -/
def lvN (t : Dcf) (r : Int) : Int := if t.1.two = true ∧ t.1.has r = true then (if r = t.1.a then t.2.2 else t.2.1 - t.2.2) else 0
/-! ### shift_path -/
abbrev Came := List (Int × Option Nat)
def Came.keys (c : Came) : List Int := c.map (·.1)
def Came.get (c : Came) (r : Int) : Option (Option Nat) := (c.find? fun p => decide (p.1 = r)).map (·.2)
def oth (x : Door) (p : Int) : Int := x.a + x.b - p
/-- a passage of the door n leads from p to r and may be turned round -/
def Arc (l : List Dcf) (p r : Int) (n : Nat) : Prop := ∃ t, l[n]? = some t ∧ 0 < lvN t p ∧ r = oth t.1 p
structure CameOk (b : Bld) (l : List Dcf) (s : Int) (c : Came) : Prop where
  hd : ∃ r, c = (s, none) :: r
  nd : c.keys.Nodup
  rng : ∀ r ∈ c.keys, 0 ≤ r ∧ r < b.R
  arc : ∀ (i : Nat) r o, c[i]? = some (r, o) → 0 < i → ∃ n j p o', o = some n ∧ j < i ∧ c[j]? = some (p, o') ∧ Arc l p r n
theorem CameOk.snoc {b : Bld} {l : List Dcf} {s p r : Int} {n j : Nat} {o' : Option Nat} {c : Came} (h : CameOk b l s c) (hr : r ∉ c.keys) (h0 : 0 ≤ r) (h1 : r < b.R) (hj : c[j]? = some (p, o')) (ha : Arc l p r n) : CameOk b l s (c ++ [(r, some n)]) where
  hd := by
    obtain ⟨q, e⟩ := h.hd
    exact ⟨q ++ [(r, some n)], by rw [e]; rfl⟩
  nd := by
    unfold Came.keys
    rw [List.map_append, List.nodup_append]
    refine ⟨h.nd, by simp, fun x hx y hy e => ?_⟩
    simp at hy
    subst hy
    subst e
    exact hr hx
  rng := fun x hx => by
    unfold Came.keys at hx
    rw [List.map_append, List.mem_append] at hx
    rcases hx with hx | hx
    · exact h.rng x hx
    · simp at hx
      subst hx
      exact ⟨h0, h1⟩
  arc := fun i x o hi h0i => by
    have hjl : j < c.length := lt_of_get hj
    by_cases hl : i < c.length
    · rw [List.getElem?_append_left hl] at hi
      obtain ⟨n', j', p', o'', e1, e2, e3, e4⟩ := h.arc i x o hi h0i
      exact ⟨n', j', p', o'', e1, e2, by rw [List.getElem?_append_left (by omega)]; exact e3, e4⟩
    · rw [List.getElem?_append_right (by omega)] at hi
      have hil := lt_of_get hi
      simp at hil
      have e : i - c.length = 0 := by omega
      rw [e] at hi
      simp at hi
      obtain ⟨rfl, rfl⟩ := hi
      exact ⟨n, j, p, o', rfl, by omega, by rw [List.getElem?_append_left hjl]; exact hj, ha⟩
end
end DD

namespace DD
noncomputable section
open PySem PySem.Spec PyProof.Rows L2
/-! ### turn_round -/
end
end DD

namespace DD
noncomputable section
open PySem PySem.Spec PyProof.Rows L2
/-! ### joined_rooms -/
/-- counted doors lead there, in whatever direction -/
inductive Conn (b : Bld) (cs : List Int) (s : Int) : Int → Prop
  | base : Conn b cs s s
  | step {p : Int} {x : Door × Int} : Conn b cs s p → x ∈ b.dc cs → 0 < x.2 → x.1.has p = true → Conn b cs s (oth x.1 p)
theorem has_iff {x : Door} {r : Int} : x.has r = true ↔ r = x.a ∨ r = x.b := by
  unfold Door.has
  rw [Bool.or_eq_true_iff, decide_eq_true_iff, decide_eq_true_iff]
theorem dc_mem {b : Bld} {cs : List Int} {x : Door × Int} (h : x ∈ b.dc cs) : x.1 ∈ b.ds ∧ x.2 ∈ cs := List.of_mem_zip (show (x.1, x.2) ∈ _ from h)
theorem Conn.rng {b : Bld} (hb : b.ok) {cs : List Int} {s : Int} (h0 : 0 ≤ s) (h1 : s < b.R) {r : Int} (h : Conn b cs s r) : 0 ≤ r ∧ r < b.R := by
  induction h with
  | base => exact ⟨h0, h1⟩
  | step _ hx _ hs _ =>
    obtain ⟨a0, a1, b0, b1, _⟩ := hb.all _ (dc_mem hx).1
    unfold oth
    rcases has_iff.mp hs with e | e <;> omega
end
end DD

namespace DD
noncomputable section
open PySem PySem.Spec PyProof.Rows L2
/-! ### settle -/
theorem Bld.ok.ne {b : Bld} (hb : b.ok) {x : Door} (h : x ∈ b.ds) : x.a ≠ x.b := by
  obtain ⟨a0, a1, b0, b1, hne⟩ := hb.all _ h
  split at hne
  · omega
  · exact hne
end
end DD

namespace DD
noncomputable section
open PySem PySem.Spec PyProof.Rows L2
/-! ### sums -/
/-! ### found_paper -/
end
end DD

namespace DD
noncomputable section
open PySem PySem.Spec PyProof.Rows L2
/-! ### checks -/
theorem inR_int {i lo hi : Int} (h : lo ≤ i ∧ i ≤ hi) : inR (.int i) lo hi = true := by
  unfold inR
  simp
  omega
/-! ### the answer of found_paper, as a function -/
open Classical in
end
end DD

namespace DD
noncomputable section
open PySem PySem.Spec PyProof.Rows L2
/-! ### _law_case -/
theorem CsOk.set {b : Bld} {cs : List Int} (h : CsOk b cs) {i : Nat} {v : Int} (h0 : 0 ≤ v) (h9 : v ≤ 9) : CsOk b (cs.set i v) := by
  refine ⟨by rw [List.length_set]; exact h.len, fun c hc => ?_⟩
  rcases List.mem_or_eq_of_mem_set hc with hc | hc
  · exact h.rng c hc
  · omega
end
end DD

namespace DD
noncomputable section
open PySem PySem.Spec PyProof.Rows L2
/-! ### cuts -/
theorem cut_lo (xs : List D) (k : Nat) : slcD (.tuple xs) none (some (k : Int)) = some (.tuple (xs.take k)) := by
  unfold slcD
  dsimp only
  unfold cutD
  rw [HT.sIx_none, HT.sIx_nat, List.drop_zero, Nat.sub_zero]
  by_cases h : k ≤ xs.length
  · rw [Nat.min_eq_left h]
  · rw [Nat.min_eq_right (by omega), List.take_of_length_le (by omega), List.take_of_length_le (by omega)]
theorem cut_hi (xs : List D) (k : Nat) : slcD (.tuple xs) (some (k : Int)) none = some (.tuple (xs.drop k)) := by
  unfold slcD
  dsimp only
  unfold cutD
  rw [HT.sIx_none, HT.sIx_nat]
  by_cases h : k ≤ xs.length
  · rw [Nat.min_eq_left h, List.take_of_length_le (by rw [List.length_drop]; omega)]
  · rw [Nat.min_eq_right (by omega), List.drop_length, List.drop_of_length_le (by omega), List.take_nil]
mutual
theorem eqv_refl' : ∀ {d : D}, noDict d = true → d.canLay0 = true → PyData.eqv d d = true
  | .none, _, _ => by unfold PyData.eqv; rfl
  | .bool b, _, _ => by unfold PyData.eqv; simp
  | .int i, _, _ => by unfold PyData.eqv; simp
  | .str s, _, _ => by unfold PyData.eqv; simp
  | .list xs, h, g => by
    unfold PyData.eqv
    unfold noDict at h
    unfold PyData.canLay0 at g
    exact eqvAll_refl' h g
  | .tuple xs, h, g => by
    unfold PyData.eqv
    unfold noDict at h
    unfold PyData.canLay0 at g
    exact eqvAll_refl' h g
  | .dict _, h, _ => by unfold noDict at h; cases h
theorem eqvAll_refl' : ∀ {ds : List D}, noDicts ds = true → PyData.canLayAll0 ds = true → PyData.eqvAll ds ds = true
  | [], _, _ => by unfold PyData.eqvAll; rfl
  | d :: ds, h, g => by
    unfold noDicts at h
    unfold PyData.canLayAll0 at g
    rw [Bool.and_eq_true] at h g
    unfold PyData.eqvAll
    rw [eqv_refl' h.1 g.1, eqvAll_refl' h.2 g.2]
    rfl
end
/-! ### suspects -/
end
end DD

namespace DD
noncomputable section
open PySem PySem.Spec PyProof.Rows L2
/-! ### good counts have no paper -/
end
end DD

namespace DD
noncomputable section
open PySem PySem.Spec PyProof.Rows L2
/-! ### trails -/
/-- one passage: the door's number, from, to -/
structure Ar where
  n : Nat
  u : Int
  v : Int
deriving DecidableEq
def Tr : Int → List Ar → Int → Prop
  | s, [], e => s = e
  | s, a :: l, e => a.u = s ∧ Tr a.v l e
theorem side_cases {x : Door} {u v : Int} (h : x.side u = some v) : (u = x.a ∧ v = x.b) ∨ (u = x.b ∧ v = x.a ∧ x.two = true) := by
  unfold Door.side at h
  split at h
  · rename_i e
    cases h
    exact .inl ⟨e, rfl⟩
  · split at h
    · rename_i e
      cases h
      exact .inr ⟨e.1, rfl, e.2⟩
    · cases h
end
end DD

namespace DD
noncomputable section
open PySem PySem.Spec PyProof.Rows L2
/-! ### Euler: balanced and joined passages make a walk -/
theorem Tr.app : ∀ {l m : List Ar} {s t e : Int}, Tr s l t → Tr t m e → Tr s (l ++ m) e
  | [], m, s, t, e, h, g => by
    have h : s = t := h
    subst h
    exact g
  | a :: l, m, s, t, e, h, g => ⟨h.1, h.2.app g⟩
/-- joined by passages, in whatever direction -/
inductive Cn (L : List Ar) (s : Int) : Int → Prop
  | base : Cn L s s
  | fwd {a : Ar} : Cn L s a.u → a ∈ L → Cn L s a.v
  | back {a : Ar} : Cn L s a.v → a ∈ L → Cn L s a.u
theorem Cn.mono {L L' : List Ar} {s x : Int} (h : ∀ a ∈ L, a ∈ L') (c : Cn L s x) : Cn L' s x := by
  induction c with
  | base => exact .base
  | fwd _ ha ih => exact .fwd ih (h _ ha)
  | back _ ha ih => exact .back ih (h _ ha)
/-! ### the passages of directions -/
end
end DD

namespace DD
noncomputable section
open PySem PySem.Spec PyProof.Rows L2
/-! ### all walks, step by step -/
theorem flat_len {α β : Type} {f : α → List β} {m : Nat} : ∀ (l : List α), (∀ x ∈ l, (f x).length ≤ m) → (l.flatMap f).length ≤ l.length * m
  | [], _ => by simp
  | a :: l, h => by
    have ih := flat_len l (fun x hx => h x (List.mem_cons_of_mem _ hx))
    have h0 := h a List.mem_cons_self
    rw [List.flatMap_cons, List.length_append, List.length_cons, Nat.add_mul, Nat.one_mul]
    omega
theorem step_rng {b : Bld} {r n r' : Int} (h : b.step r n = some r') : 0 ≤ n ∧ n.toNat < b.ds.length := by
  unfold Bld.step at h
  split at h
  · rename_i h0
    refine ⟨h0, ?_⟩
    cases e : b.ds[n.toNat]? with
    | none => rw [e] at h; cases h
    | some x => exact lt_of_get e
  · cases h
theorem path_mem {b : Bld} : ∀ {ns : List Int} {s r : Int}, b.path s ns = some r → ∀ n ∈ ns, 0 ≤ n ∧ n < b.ds.length
  | [], _, _, _, n, hn => nomatch hn
  | m :: ns, s, r, h, n, hn => by
    have h' : (match b.step s m with | some r' => b.path r' ns | none => none) = some r := h
    cases e1 : b.step s m with
    | none => rw [e1] at h'; cases h'
    | some r' =>
      rw [e1] at h'
      rcases List.mem_cons.mp hn with rfl | hn
      · have := step_rng e1
        omega
      · exact path_mem h' n hn
end
end DD

namespace DD
noncomputable section
open PySem PySem.Spec PyProof.Rows L2
/-! ### _law_all -/
theorem alike_csD (x y : List Int) : PySem.W.alike (csD x) (csD y) = true := by
  unfold csD PySem.W.alike
  exact PySem.W.alike_ints x y
end
end DD

namespace DD
noncomputable section
open PySem PySem.Spec PyProof.Rows L2
/-! ### are_rooms -/
/-! ### is_split -/
/-! ### crossing, is_blocked -/
end
end DD

namespace DD
noncomputable section
open PySem PySem.Spec PyProof.Rows L2
/-! ### is_paper on the papers that are found -/
/-! ### _law_is_paper -/
def insI (ks : List Int) (x : Door × Int) : Int := b2i (decide (x.1.a ∈ ks)) + b2i (decide (x.1.b ∈ ks))
def f1 (ks : List Int) (x : Door × Int) : Int := x.2 * b2i (decide (insI ks x = 1))
def f2 (ks : List Int) (x : Door × Int) : Int := x.2 * b2i (decide (insI ks x = 0))
def f3 (ks : List Int) (x : Door × Int) : Int := if (!x.1.two && decide (insI ks x = 1)) = true then (if x.1.a ∈ ks then x.2 else -x.2) else 0
end
end DD

namespace DD
noncomputable section
open PySem PySem.Spec PyProof.Rows L2
/-! ### less_one, openings, first_walk -/
def lessN (cs : List Int) (n : Nat) : List Int := cs.set n (cs.getD n 0 - 1)
theorem CsOk.less {b : Bld} {cs : List Int} (h : CsOk b cs) {n : Nat} (hp : 0 < cs.getD n 0) (hn : n < b.ds.length) : CsOk b (lessN cs n) := by
  have : cs.getD n 0 ≤ 9 := by
    rw [List.getD_eq_getElem?_getD, List.getElem?_eq_getElem (by rw [h.len]; exact hn)]
    exact (h.rng _ (List.getElem_mem _)).2
  exact h.set (by omega) (by omega)
/-! ### walks by their first door -/
end
end DD

namespace DD
noncomputable section
open PySem PySem.Spec PyProof.Rows L2
/-! ### the rooms of a walk -/
theorem runL_rooms {b : Bld} : ∀ (ns : List Int) (s : TSt) (e : Int), s.1 ≠ [] → b.path (lastI s.1) ns = some e → ∃ s' gs, runL (stepT b) (ns.map .int) s = .inl s' ∧ s'.1 = s.1 ++ gs ∧ lastI s'.1 = e
  | [], s, e, _, h => by
    have h : some (lastI s.1) = some e := h
    exact ⟨s, [], rfl, by simp, Option.some.inj h⟩
  | n :: ns, s, e, hne, h => by
    have h' : (match b.step (lastI s.1) n with | some r' => b.path r' ns | none => none) = some e := h
    rw [List.map_cons]
    unfold runL
    have es : stepT b s (.int n) = (match b.step (lastI s.1) n with
      | some r => .inl (s.1 ++ [r], some (.dat, .int n), some (.dat, .int r))
      | none => .inr (.ret .none)) := rfl
    rw [es]
    cases e1 : b.step (lastI s.1) n with
    | none => rw [e1] at h'; cases h'
    | some r =>
      rw [e1] at h'
      dsimp only at h' ⊢
      obtain ⟨s', gs, g1, g2, g3⟩ := runL_rooms ns (s.1 ++ [r], some (.dat, .int n), some (.dat, .int r)) e (by simp) (by rw [lastI_snoc]; exact h')
      exact ⟨s', r :: gs, g1, by rw [g2]; simp, g3⟩
theorem trace_walk {b : Bld} {s e : Int} {ns : List Int} (h0 : 0 ≤ s) (h1 : s < b.R) (hl : ns.length ≤ 72) (h : b.path s ns = some e) : ∃ gs, traceD b (.tuple [.int s, csD ns]) = .list ((s :: gs).map .int) ∧ lastI (s :: gs) = e := by
  obtain ⟨s', gs, g1, g2, g3⟩ := runL_rooms ns ([s], none, none) e (by simp) h
  have e1 : s'.1 = s :: gs := g2
  refine ⟨gs, ?_, by rw [← e1]; exact g3⟩
  unfold traceD csD
  dsimp only
  rw [if_pos ⟨inR_int (by omega), by rw [List.length_map]; exact hl⟩, g1, ← e1]
  rfl
end
end DD

namespace DD
noncomputable section
open PySem PySem.Spec PyProof.Rows L2
/-! ### the order of walks -/
theorem flat_few {α β : Type} {f : α → List β} {m : Nat} (l : List α) (h : ∀ x ∈ l, (f x).length ≤ m) : (l.flatMap f).length ≤ l.length * m := flat_len l h
end
end DD

namespace DD
noncomputable section
open PySem PySem.Spec PyProof.Rows L2
/-! ### papers of any kind -/
end
end DD

namespace DD
noncomputable section
open PySem PySem.Spec PyProof.Rows L2
/-! ### is_paper on any value of the law -/
end
end DD

namespace DD
noncomputable section
open PySem PySem.Spec PyProof.Rows L2
/-! ### _law_is_paper on any value of the law -/
theorem sum_nn {α : Type} {f : α → Int} : ∀ {l : List α}, (∀ x ∈ l, 0 ≤ f x) → 0 ≤ (l.map f).sum
  | [], _ => Int.le_refl 0
  | a :: l, h => by
    have := sum_nn (f := f) (l := l) fun x hx => h x (List.mem_cons_of_mem _ hx)
    have := h a List.mem_cons_self
    rw [List.map_cons, List.sum_cons]
    omega
end
end DD

namespace DD
noncomputable section
open PySem PySem.Spec PyProof.Rows L2
/-! ### parts of lists of ints -/
/-! ### counts and rooms that are none -/
end
end DD

namespace DD
noncomputable section
open PySem PySem.Spec PyProof.Rows L2
/-! ### the walks in their order -/
def blk (b : Bld) (cs : List Int) (s : Int) (f : List Int → Int → List (List Int)) (k : Nat) : List (List Int) := match b.step s k with
  | some r => if 0 < cs.getD k 0 then (f (lessN cs k) r).map ((k : Int) :: ·) else []
  | none => []
/-! ### counts below others -/
def subs : List Int → List (List Int)
  | [] => [[]]
  | c :: cs => (List.range (c.toNat + 1)).flatMap fun (i : Nat) => (subs cs).map ((i : Int) :: ·)
inductive SubC : List Int → List Int → Prop
  | nil : SubC [] []
  | cons {c d : Int} {cs ds : List Int} : 0 ≤ d → d ≤ c → SubC cs ds → SubC (c :: cs) (d :: ds)
theorem SubC.refl : ∀ {cs : List Int}, (∀ c ∈ cs, 0 ≤ c) → SubC cs cs
  | [], _ => .nil
  | c :: cs, h => .cons (h c List.mem_cons_self) (Int.le_refl _) (SubC.refl fun x hx => h x (List.mem_cons_of_mem _ hx))
theorem SubC.mem : ∀ {cs ds : List Int}, SubC cs ds → ds ∈ subs cs
  | _, _, .nil => List.mem_singleton.mpr rfl
  | _, _, .cons (c := c) (d := d) h1 h2 r => by
    unfold subs
    rw [List.mem_flatMap]
    refine ⟨d.toNat, List.mem_range.mpr (by omega), List.mem_map.mpr ⟨_, r.mem, ?_⟩⟩
    congr 1
    omega
theorem SubC.less : ∀ {cs ds : List Int} {n : Nat}, SubC cs ds → 0 < ds.getD n 0 → SubC cs (lessN ds n)
  | _, _, n, .nil, h => by
    simp at h
  | _, _, 0, .cons (c := c) (d := d) h1 h2 r, h => by
    have h : 0 < d := h
    show SubC _ ((d - 1) :: _)
    exact .cons (by omega) (by omega) r
  | _, _, n + 1, .cons (c := c) (d := d) h1 h2 r, h => .cons h1 h2 (SubC.less r h)
theorem const_len {α β : Type} {f : α → List β} {m : Nat} (h : ∀ x, (f x).length = m) : ∀ l : List α, (l.flatMap f).length = l.length * m
  | [] => by simp
  | a :: l => by
    rw [List.flatMap_cons, List.length_append, h, const_len h l, List.length_cons, Nat.add_mul, Nat.one_mul, Nat.add_comm]
theorem two_pow (n : Nat) : n + 1 ≤ 2 ^ n := Nat.lt_two_pow_self
theorem subs_len : ∀ {cs : List Int}, (∀ c ∈ cs, 0 ≤ c) → (subs cs).length ≤ 2 ^ cs.sum.toNat
  | [], _ => by simp [subs]
  | c :: cs, h => by
    have ih := subs_len (cs := cs) fun x hx => h x (List.mem_cons_of_mem _ hx)
    have h0 := h c List.mem_cons_self
    have hs : 0 ≤ cs.sum := by
      have := sum_nn (f := fun x : Int => x) (l := cs) fun x hx => h x (List.mem_cons_of_mem _ hx)
      rwa [List.map_id'] at this
    unfold subs
    rw [const_len (m := (subs cs).length) (fun i => by rw [List.length_map]), List.length_range, List.sum_cons, show (c + cs.sum).toNat = c.toNat + cs.sum.toNat by omega, Nat.pow_add]
    exact Nat.mul_le_mul (two_pow _) ih
theorem nd_lenG {α : Type} [DecidableEq α] : ∀ {a b : List α}, a.Nodup → (∀ k ∈ a, k ∈ b) → a.length ≤ b.length
  | [], _, _, _ => Nat.zero_le _
  | x :: a, b, h, hs => by
    rw [List.nodup_cons] at h
    have hx := hs x List.mem_cons_self
    have ih := nd_lenG (a := a) (b := b.erase x) h.2 fun k hk => (List.mem_erase_of_ne (show k ≠ x from fun e => h.1 (by rw [← e]; exact hk))).mpr (hs k (List.mem_cons_of_mem _ hk))
    rw [List.length_erase_of_mem hx] at ih
    have := List.length_pos_of_mem hx
    rw [List.length_cons]
    omega
/-! ### what is known of numbers -/
abbrev Kn := List (List Int × Int)
def knP (kn : Kn) (p : List Int × Int) : Kn := if p ∈ kn then kn else kn ++ [p]
structure KnOk (b : Bld) (cs0 : List Int) (kn : Kn) : Prop where
  nd : kn.Nodup
  sub : ∀ p ∈ kn, SubC cs0 p.1 ∧ 0 ≤ p.2 ∧ p.2 < b.R
theorem KnOk.put {b : Bld} {cs0 : List Int} {kn : Kn} (h : KnOk b cs0 kn) {p : List Int × Int} (h1 : SubC cs0 p.1) (h2 : 0 ≤ p.2) (h3 : p.2 < b.R) : KnOk b cs0 (knP kn p) := by
  unfold knP
  split
  · exact h
  · rename_i hn
    refine ⟨List.nodup_append.mpr ⟨h.nd, by simp, fun x hx y hy e => ?_⟩, fun q hq => ?_⟩
    · rw [List.mem_singleton] at hy
      subst hy
      subst e
      exact hn hx
    · rcases List.mem_append.mp hq with hq | hq
      · exact h.sub q hq
      · rw [List.mem_singleton] at hq
        subst hq
        exact ⟨h1, h2, h3⟩
theorem KnOk.len {b : Bld} (hb : b.ok) {cs0 : List Int} (hc : ∀ c ∈ cs0, 0 ≤ c) (h10 : cs0.sum ≤ 10) {kn : Kn} (h : KnOk b cs0 kn) : kn.length ≤ 6144 := by
  have h1 := nd_lenG (b := (subs cs0).flatMap fun c => (List.range 6).map fun (i : Nat) => (c, (i : Int))) h.nd fun p hp => by
    obtain ⟨g1, g2, g3⟩ := h.sub p hp
    have := hb.r6
    rw [List.mem_flatMap]
    refine ⟨p.1, g1.mem, List.mem_map.mpr ⟨p.2.toNat, List.mem_range.mpr (by omega), ?_⟩⟩
    rw [show ((p.2.toNat : Nat) : Int) = p.2 by omega]
  rw [const_len (m := 6) (fun c => by rw [List.length_map, List.length_range])] at h1
  have h2 := subs_len hc
  have h3 : 2 ^ cs0.sum.toNat ≤ 2 ^ 10 := Nat.pow_le_pow_right (by omega) (by omega)
  have : (2 : Nat) ^ 10 = 1024 := rfl
  omega
end
end DD

namespace DD
noncomputable section
open PySem PySem.Spec PyProof.Rows L2
/-! ### number_of -/
/-! ### check_search, how_many -/
end
end DD

namespace DD
noncomputable section
open PySem PySem.Spec PyProof.Rows L2
/-! ### walks by their first doors -/
/-! ### listed -/
/-! ### all_walks -/
def wkD (s : Int) (w : List Int) : D := .tuple [.int s, csD w]
end
end DD

namespace DD
noncomputable section
open PySem PySem.Spec PyProof.Rows L2
/-! ### the number by the first doors -/
/-! ### walks back -/
theorem side_back {x : Door} {r q : Int} (ht : x.two = true) (hne : x.a ≠ x.b) (h : x.side r = some q) : x.side q = some r := by
  rcases side_cases h with ⟨h1, h2⟩ | ⟨h1, h2, h3⟩
  · unfold Door.side
    subst h2
    rw [if_neg (fun z => hne z.symm), if_pos ⟨rfl, ht⟩, h1]
  · unfold Door.side
    subst h2
    rw [if_pos rfl, h1]
end
end DD

namespace DD
noncomputable section
open PySem PySem.Spec PyProof.Rows L2
/-! ### the rooms of a walk, told -/
def rmW (b : Bld) : Int → List Int → List Int
  | s, [] => [s]
  | s, n :: ns => (match b.step s n with
    | some r => s :: rmW b r ns
    | none => [s])
theorem rmW_cons (b : Bld) (s : Int) (ns : List Int) : ∃ t, rmW b s ns = s :: t := by
  cases ns with
  | nil => exact ⟨[], rfl⟩
  | cons n ns =>
    unfold rmW
    cases b.step s n with
    | none => exact ⟨[], rfl⟩
    | some r => exact ⟨_, rfl⟩
theorem rmW_len {b : Bld} : ∀ {ns : List Int} {s e : Int}, b.path s ns = some e → (rmW b s ns).length = ns.length + 1
  | [], s, e, _ => rfl
  | n :: ns, s, e, h => by
    have h' : (match b.step s n with | some r' => b.path r' ns | none => none) = some e := h
    cases e1 : b.step s n with
    | none => rw [e1] at h'; cases h'
    | some r =>
      rw [e1] at h'
      unfold rmW
      rw [e1]
      dsimp only
      rw [List.length_cons, rmW_len h', List.length_cons]
theorem runL_rmW {b : Bld} : ∀ (ns : List Int) (s : TSt) (e : Int), s.1 ≠ [] → b.path (lastI s.1) ns = some e → ∃ s', runL (stepT b) (ns.map .int) s = .inl s' ∧ s'.1 = s.1 ++ (rmW b (lastI s.1) ns).tail
  | [], s, e, _, h => ⟨s, rfl, by simp [rmW]⟩
  | n :: ns, s, e, hne, h => by
    have h' : (match b.step (lastI s.1) n with | some r' => b.path r' ns | none => none) = some e := h
    rw [List.map_cons]
    unfold runL
    have es : stepT b s (.int n) = (match b.step (lastI s.1) n with
      | some r => .inl (s.1 ++ [r], some (.dat, .int n), some (.dat, .int r))
      | none => .inr (.ret .none)) := rfl
    rw [es]
    cases e1 : b.step (lastI s.1) n with
    | none => rw [e1] at h'; cases h'
    | some r =>
      rw [e1] at h'
      dsimp only at h' ⊢
      obtain ⟨s', g1, g2⟩ := runL_rmW ns (s.1 ++ [r], some (.dat, .int n), some (.dat, .int r)) e (by simp) (by rw [lastI_snoc]; exact h')
      refine ⟨s', g1, ?_⟩
      dsimp only at g2
      rw [lastI_snoc] at g2
      have er : rmW b (lastI s.1) (n :: ns) = lastI s.1 :: rmW b r ns := by
        show (match b.step (lastI s.1) n with | some r => lastI s.1 :: rmW b r ns | none => [lastI s.1]) = _
        rw [e1]
      obtain ⟨t, ht⟩ := rmW_cons b r ns
      rw [g2, er, ht]
      simp
theorem trace_rooms {b : Bld} {s e : Int} {ns : List Int} (h0 : 0 ≤ s) (h1 : s < b.R) (hl : ns.length ≤ 72) (h : b.path s ns = some e) : traceD b (wkD s ns) = iL (rmW b s ns) := by
  obtain ⟨s', g1, g2⟩ := runL_rmW ns ([s], none, none) e (by simp) h
  obtain ⟨t, ht⟩ := rmW_cons b s ns
  have e1 : s'.1 = rmW b s ns := by
    rw [g2]
    show [s] ++ (rmW b s ns).tail = _
    rw [ht]
    rfl
  unfold traceD wkD csD
  dsimp only
  rw [if_pos ⟨inR_int (by omega), by rw [List.length_map]; exact hl⟩, g1]
  show PyData.list (s'.1.map .int) = _
  rw [e1]
  rfl
/-! ### answers -/
/-! ### candidates -/
theorem at_room {b : Bld} {s e : Int} {w : List Int} (h : b.path s w = some e) {t : Int} (t0 : 0 ≤ t) (t1 : t ≤ w.length) : atI ((rmW b s w).map PyData.int) t = some (.int ((rmW b s w).getD t.toNat 0)) := at_ints t0 (by rw [rmW_len h]; push_cast; omega)
/-! ### the law's answers -/
/-! ### the law's candidates -/
end
end DD

namespace DD
noncomputable section
open PySem PySem.Spec PyProof.Rows L2
/-! ### cuts -/
def partN (ns : List Int) (i j : Nat) : List Int := (ns.take j).drop i
theorem cut_mid (xs : List D) {i j : Nat} (h : i ≤ j) : slcD (.tuple xs) (some (i : Int)) (some (j : Int)) = some (.tuple ((xs.take j).drop i)) := by
  unfold slcD
  dsimp only
  unfold cutD
  rw [HT.sIx_nat, HT.sIx_nat, List.drop_take]
  by_cases h1 : i ≤ xs.length
  · rw [Nat.min_eq_left h1]
    by_cases h2 : j ≤ xs.length
    · rw [Nat.min_eq_left h2]
    · rw [Nat.min_eq_right (by omega), List.take_of_length_le (by rw [List.length_drop]; omega), List.take_of_length_le (by rw [List.length_drop]; omega)]
  · rw [Nat.min_eq_right (by omega), List.drop_of_length_le (by omega), List.drop_of_length_le (by omega), List.take_nil, List.take_nil]
theorem cutM (ns : List Int) {i j : Nat} (h : i ≤ j) : slcD (.tuple (ns.map PyData.int)) (some (i : Int)) (some (j : Int)) = some (.tuple ((partN ns i j).map .int)) := by
  rw [cut_mid _ h]
  unfold partN
  rw [List.map_drop, List.map_take]
theorem cutL (ns : List Int) (k : Nat) : slcD (.tuple (ns.map PyData.int)) none (some (k : Int)) = some (.tuple ((ns.take k).map .int)) := by
  rw [cut_lo, List.map_take]
theorem cutH (ns : List Int) (k : Nat) : slcD (.tuple (ns.map PyData.int)) (some (k : Int)) none = some (.tuple ((ns.drop k).map .int)) := by
  rw [cut_hi, List.map_drop]
theorem part_len (ns : List Int) (i j : Nat) : (partN ns i j).length ≤ ns.length := by
  unfold partN
  rw [List.length_drop, List.length_take]
  omega
/-! ### moves and their order -/
abbrev Mv := Bool × List Int
def mvS (t : Bool) : Str := if t = true then "reverse" else "exchange"
def mvD (m : Mv) : D := .tuple (.str (mvS m.1) :: m.2.map .int)
def mvK (m : Mv) : List Int := (if m.1 = true then 1 else 0) :: m.2
theorem mvK_inj {p q : Mv} (h : mvK p = mvK q) : p = q := by
  obtain ⟨t, xs⟩ := p
  obtain ⟨u, ys⟩ := q
  unfold mvK at h
  dsimp only at h
  rw [List.cons.injEq] at h
  obtain ⟨h1, rfl⟩ := h
  cases t <;> cases u <;> first | rfl | (simp at h1)
theorem eqv_str (s t : Str) : PyData.eqv (.str s) (.str t) = decide (s = t) := by
  unfold PyData.eqv
  by_cases h : s = t
  · subst h; simp
  · simp [h]
theorem mvS_inj {t u : Bool} (h : mvS t = mvS u) : t = u := by
  cases t <;> cases u <;> first | rfl | (exact absurd h (by unfold mvS; decide +kernel))
theorem alike_mv (p q : Mv) : PySem.W.alike (mvD p) (mvD q) = true := by
  unfold mvD PySem.W.alike PySem.W.alikeAll
  rw [PySem.W.alike_ints]
  unfold PySem.W.alike
  rfl
theorem eqv_mv (p q : Mv) : PyData.eqv (mvD p) (mvD q) = decide (p = q) := by
  obtain ⟨t, xs⟩ := p
  obtain ⟨u, ys⟩ := q
  unfold mvD PyData.eqv PyData.eqvAll
  dsimp only
  rw [eqv_str, eqvAll_ints]
  by_cases h1 : t = u
  · subst h1
    by_cases h2 : xs = ys
    · subst h2; simp
    · simp [h2]
  · have : ¬ mvS t = mvS u := fun z => h1 (mvS_inj z)
    simp [h1, this]
theorem lt_mv (p q : Mv) : PySem.W.dataLt (mvD p) (mvD q) = decide (mvK p < mvK q) := by
  obtain ⟨t, xs⟩ := p
  obtain ⟨u, ys⟩ := q
  unfold mvD mvK
  dsimp only
  rw [PySem.W.dataLt_tuple, PySem.W.dataLt_cons (by unfold PySem.W.alike; rfl), eqv_str]
  have hr : PyProof.Rows.lexLt itemOrd (PySem.W.keyToksAll (xs.map PyData.int)) (PySem.W.keyToksAll (ys.map PyData.int)) = decide (xs < ys) := PySem.W.dataLt_ints xs ys
  rw [hr, PySem.W.dataLt_str]
  cases t <;> cases u
  · simp [List.cons_lt_cons_iff]
  · have h1 : ¬ mvS false = mvS true := fun z => nomatch mvS_inj z
    have h2 : decide ((mvS false).cps.toList < (mvS true).cps.toList) = true := by unfold mvS; decide +kernel
    rw [decide_eq_false h1, if_neg Bool.false_ne_true, h2]
    simp [List.cons_lt_cons_iff]
  · have h1 : ¬ mvS true = mvS false := fun z => nomatch mvS_inj z
    have h2 : decide ((mvS true).cps.toList < (mvS false).cps.toList) = false := by unfold mvS; decide +kernel
    rw [decide_eq_false h1, if_neg Bool.false_ne_true, h2]
    simp [List.cons_lt_cons_iff]
  · simp [List.cons_lt_cons_iff]
def leM (p q : Mv) : Bool := decide (mvK p ≤ mvK q)
theorem le_mv (p q : Mv) : PySem.W.dataLe false id (mvD p) (mvD q) = leM p q := by
  show (!PySem.W.dataLt (mvD q) (mvD p)) = _
  rw [lt_mv]
  unfold leM
  by_cases h : mvK q < mvK p
  · have h' : ¬ mvK p ≤ mvK q := fun r => List.not_lt.mpr r h
    simp [h, h']
  · have h' : mvK p ≤ mvK q := List.not_lt.mp h
    simp [h, h']
def pmD (p : Mv × List Int) : D := .tuple [mvD p.1, csD p.2]
def ltP (p q : Mv × List Int) : Prop := mvK p.1 < mvK q.1 ∨ (mvK p.1 = mvK q.1 ∧ p.2 < q.2)
def leP (p q : Mv × List Int) : Prop := mvK p.1 < mvK q.1 ∨ (mvK p.1 = mvK q.1 ∧ p.2 ≤ q.2)
instance (p q : Mv × List Int) : Decidable (ltP p q) := by unfold ltP; infer_instance
instance (p q : Mv × List Int) : Decidable (leP p q) := by unfold leP; infer_instance
theorem lst_lt_of {a b : List Int} (h : a ≤ b) (hn : a ≠ b) : a < b := Classical.byContradiction fun z => hn (List.le_antisymm h (List.not_lt.mp z))
theorem leP_not {p q : Mv × List Int} : leP p q ↔ ¬ ltP q p := by
  unfold leP ltP
  constructor
  · rintro (h | ⟨h, h'⟩) (g | ⟨g, g'⟩)
    · exact List.lt_irrefl _ (List.lt_trans h g)
    · rw [g] at h; exact List.lt_irrefl _ h
    · rw [h] at g; exact List.lt_irrefl _ g
    · exact List.not_lt.mpr h' g'
  · intro h
    have h1 : mvK p.1 ≤ mvK q.1 := List.not_lt.mp fun z => h (.inl z)
    by_cases e : mvK p.1 = mvK q.1
    · exact .inr ⟨e, List.not_lt.mp fun z => h (.inr ⟨e.symm, z⟩)⟩
    · exact .inl (lst_lt_of h1 e)
theorem lt_cs (a b : List Int) : PySem.W.dataLt (csD a) (csD b) = decide (a < b) := by
  unfold csD
  rw [PySem.W.dataLt_tuple]
  exact PySem.W.dataLt_ints a b
theorem lt_pm (p q : Mv × List Int) : PySem.W.dataLt (pmD p) (pmD q) = decide (ltP p q) := by
  unfold pmD ltP
  rw [PySem.W.dataLt_pair (alike_mv _ _) (alike_csD _ _), eqv_mv, lt_mv, lt_cs]
  have ec : PyData.eqv (csD p.2) (csD q.2) = decide (p.2 = q.2) := eqv_intsT _ _
  rw [ec]
  by_cases h1 : p.1 = q.1
  · have hi : ¬ mvK q.1 < mvK q.1 := List.lt_irrefl _
    by_cases h2 : p.2 = q.2
    · have hj : ¬ q.2 < q.2 := List.lt_irrefl _
      simp [h1, h2, hi, hj]
    · simp [h1, h2, hi]
  · have hk : ¬ mvK p.1 = mvK q.1 := fun z => h1 (mvK_inj z)
    simp [h1, hk]
theorem le_pm (p q : Mv × List Int) : PySem.W.dataLe false id (pmD p) (pmD q) = decide (leP p q) := by
  show (!PySem.W.dataLt (pmD q) (pmD p)) = _
  rw [lt_pm]
  by_cases h : ltP q p
  · have h' : ¬ leP p q := fun z => leP_not.mp z h
    simp [h, h']
  · have h' : leP p q := leP_not.mpr h
    simp [h, h']
theorem leP_total (p q : Mv × List Int) : leP p q ∨ leP q p := by
  by_cases h : ltP q p
  · right
    rcases h with h | ⟨h, h'⟩
    · exact .inl h
    · exact .inr ⟨h, List.le_of_lt h'⟩
  · exact .inl (leP_not.mpr h)
theorem leP_trans {p q r : Mv × List Int} : leP p q → leP q r → leP p r := by
  rintro (h | ⟨h, h'⟩) (g | ⟨g, g'⟩)
  · exact .inl (List.lt_trans h g)
  · exact .inl (by rw [← g]; exact h)
  · exact .inl (by rw [h]; exact g)
  · exact .inr ⟨h.trans g, List.le_trans h' g'⟩
def sortP (l : List (Mv × List Int)) : List (Mv × List Int) := l.mergeSort fun p q => decide (leP p q)
def sortM (l : List Mv) : List Mv := l.mergeSort leM
theorem sortL_mv (l : List Mv) : sortL (l.map mvD) = (sortM l).map mvD := by
  unfold sortL sortM
  exact (PySem.W.sort_maps (r := leM) mvD (fun a _ b _ => (le_mv a b).symm)).symm
theorem sortL_pm (l : List (Mv × List Int)) : sortL (l.map pmD) = (sortP l).map pmD := by
  unfold sortL sortP
  exact (PySem.W.sort_maps (r := fun p q => decide (leP p q)) pmD (fun a _ b _ => (le_pm a b).symm)).symm
theorem sort_fst (l : List (Mv × List Int)) : (sortP l).map (·.1) = sortM (l.map (·.1)) := by
  have h1 : (sortP l).Pairwise fun p q => leP p q := (List.pairwise_mergeSort (le := fun p q => decide (leP p q)) (fun a b c h g => decide_eq_true (leP_trans (of_decide_eq_true h) (of_decide_eq_true g))) (fun a b => by
    rcases leP_total a b with h | h
    · rw [decide_eq_true h]; rfl
    · rw [decide_eq_true h, Bool.or_true]) l).imp fun h => of_decide_eq_true h
  have h2 : ((sortP l).map (·.1)).Pairwise fun p q => mvK p ≤ mvK q := by
    rw [List.pairwise_map]
    exact h1.imp fun h => by
      rcases h with h | ⟨h, _⟩
      · exact List.le_of_lt h
      · rw [h]; exact List.le_refl _
  have h3' : (sortM (l.map (·.1))).Pairwise fun p q => leM p q = true := List.pairwise_mergeSort (le := leM) (fun a b c h g => by
    unfold leM at h g ⊢
    exact decide_eq_true (List.le_trans (of_decide_eq_true h) (of_decide_eq_true g))) (fun a b => by
    unfold leM
    rcases List.le_total (mvK a) (mvK b) with h | h
    · rw [decide_eq_true h]; rfl
    · rw [decide_eq_true h, Bool.or_true]) _
  have h3 : (sortM (l.map (·.1))).Pairwise fun p q => mvK p ≤ mvK q := h3'.imp fun h => by
    unfold leM at h
    exact of_decide_eq_true h
  have hp : ((sortP l).map (·.1)).Perm (sortM (l.map (·.1))) := ((List.mergeSort_perm l _).map _).trans (List.mergeSort_perm _ _).symm
  exact hp.eq_of_pairwise (fun x y _ _ h h' => mvK_inj (List.le_antisymm h h')) h2 h3
theorem noDict_mv (m : Mv) : noDict (mvD m) = true := by
  unfold mvD noDict noDicts
  rw [(nice_all (k := 0) (xs := m.2.map PyData.int) fun x hx => by
    obtain ⟨i, _, rfl⟩ := List.mem_map.mp hx
    exact nice_int i).2.1]
  unfold noDict
  rfl
theorem depth_mv (m : Mv) : (mvD m).depth ≤ 1 := by
  unfold mvD PyData.depth PyData.depthAll
  rw [PySem.W.depth_ints]
  unfold PyData.depth
  simp
theorem noDicts_of {α : Type} (f : α → D) (h : ∀ x, noDict (f x) = true) : ∀ l : List α, noDicts (l.map f) = true
  | [] => by unfold noDicts; rfl
  | x :: l => by
    rw [List.map_cons]
    unfold noDicts
    rw [h x, noDicts_of f h l]
    rfl
theorem sort_mv (l : List Mv) : sortedD [.list (l.map mvD)] = some (.list ((sortM l).map mvD)) := by
  have ok : SortOk (l.map mvD) := ⟨PySem.W.AllAlike.of (fun a b => alike_mv a b), .inl fun d hd => by
      obtain ⟨w, hw, rfl⟩ := List.mem_map.mp hd
      exact ⟨_, _, rfl⟩, fun d hd => by
      obtain ⟨w, hw, rfl⟩ := List.mem_map.mp hd
      have := depth_mv w
      omega, noDicts_of mvD noDict_mv l⟩
  unfold sortedD
  dsimp only
  rw [if_pos ok, sortL_mv]
theorem sort_pm (l : List (Mv × List Int)) : sortedD [.list (l.map pmD)] = some (.list ((sortP l).map pmD)) := by
  have ok : SortOk (l.map pmD) := ⟨PySem.W.AllAlike.of (fun a b => by
      unfold pmD PySem.W.alike PySem.W.alikeAll
      rw [alike_mv]
      unfold PySem.W.alikeAll
      rw [alike_csD]
      unfold PySem.W.alikeAll
      rfl), .inl fun d hd => by
      obtain ⟨w, hw, rfl⟩ := List.mem_map.mp hd
      exact ⟨_, _, rfl⟩, fun d hd => by
      obtain ⟨w, hw, rfl⟩ := List.mem_map.mp hd
      have h1 := depth_mv w.1
      have h2 : (csD w.2).depth ≤ 1 := (nice_intsT w.2).dep
      unfold pmD PyData.depth PyData.depthAll PyData.depthAll PyData.depthAll
      omega, noDicts_of pmD (fun p => by
      unfold pmD noDict noDicts
      rw [noDict_mv]
      unfold noDicts
      rw [show noDict (csD p.2) = true from (nice_intsT p.2).dic]
      unfold noDicts
      rfl) l⟩
  unfold sortedD
  dsimp only
  rw [if_pos ok, sortL_pm]
end
end DD

namespace DD
noncomputable section
open PySem PySem.Spec PyProof.Rows L2
/-! ### parts of walks -/
theorem path_app {b : Bld} : ∀ (xs ys : List Int) (s : Int), b.path s (xs ++ ys) = (b.path s xs).bind fun r => b.path r ys
  | [], ys, s => rfl
  | x :: xs, ys, s => by
    show (match b.step s x with | some r' => b.path r' (xs ++ ys) | none => none) = (match b.step s x with | some r' => b.path r' xs | none => none).bind _
    cases b.step s x with
    | none => rfl
    | some r => exact path_app xs ys r
theorem path_then {b : Bld} {xs ys : List Int} {s r e : Int} (h1 : b.path s xs = some r) (h2 : b.path r ys = some e) : b.path s (xs ++ ys) = some e := by
  rw [path_app, h1]
  exact h2
def rmAt (b : Bld) (s : Int) (ns : List Int) (i : Nat) : Int := (rmW b s ns).getD i 0
theorem rm_path {b : Bld} : ∀ {ns : List Int} {s e : Int}, b.path s ns = some e → ∀ i ≤ ns.length, b.path s (ns.take i) = some (rmAt b s ns i)
  | ns, s, e, h, 0, _ => by
    obtain ⟨t, ht⟩ := rmW_cons b s ns
    unfold rmAt
    rw [ht, List.take_zero]
    rfl
  | [], s, e, h, i + 1, hi => by simp at hi
  | n :: ns, s, e, h, i + 1, hi => by
    have h' : (match b.step s n with | some r' => b.path r' ns | none => none) = some e := h
    cases e1 : b.step s n with
    | none => rw [e1] at h'; cases h'
    | some r =>
      rw [e1] at h'
      have ih := rm_path h' i (by simpa using hi)
      unfold rmAt rmW
      rw [e1, List.take_succ_cons]
      show (match b.step s n with | some r' => b.path r' (ns.take i) | none => none) = _
      rw [e1]
      dsimp only
      rw [ih]
      rfl
theorem take_part (ns : List Int) {i j : Nat} (h : i ≤ j) : ns.take j = ns.take i ++ partN ns i j := by
  unfold partN
  have := (List.take_append_drop i (ns.take j)).symm
  rwa [List.take_take, Nat.min_eq_left h] at this
theorem part_path {b : Bld} {ns : List Int} {s e : Int} (h : b.path s ns = some e) {i j : Nat} (hij : i ≤ j) (hj : j ≤ ns.length) : b.path (rmAt b s ns i) (partN ns i j) = some (rmAt b s ns j) := by
  have h1 := rm_path h i (by omega)
  have h2 := rm_path h j hj
  rw [take_part ns hij, path_app, h1] at h2
  exact h2
theorem tail_path {b : Bld} {ns : List Int} {s e : Int} (h : b.path s ns = some e) {j : Nat} (hj : j ≤ ns.length) : b.path (rmAt b s ns j) (ns.drop j) = some e := by
  have h1 := rm_path h j hj
  have h2 := h
  rw [← List.take_append_drop j ns, path_app, h1] at h2
  exact h2
def twoB (b : Bld) (k : Int) : Bool := match b.ds[k.toNat]? with
  | some x => x.two
  | none => true
theorem step_backP {b : Bld} (hb : b.ok) {r q n : Int} (ht : twoB b n = true) (h : b.step r n = some q) : b.step q n = some r := by
  unfold Bld.step at h ⊢
  split at h
  · rename_i h0
    rw [if_pos h0]
    unfold twoB at ht
    cases e : b.ds[n.toNat]? with
    | none => rw [e] at h; cases h
    | some x =>
      rw [e] at h ht
      exact side_back ht (hb.ne (List.mem_of_getElem? e)) h
  · cases h
theorem path_backP {b : Bld} (hb : b.ok) : ∀ {ns : List Int} {s e : Int}, ns.all (twoB b) = true → b.path s ns = some e → b.path e ns.reverse = some s
  | [], s, e, _, h => by
    have h : some s = some e := h
    cases h
    rfl
  | n :: ns, s, e, ht, h => by
    have h' : (match b.step s n with | some r' => b.path r' ns | none => none) = some e := h
    rw [List.all_cons, Bool.and_eq_true] at ht
    cases e1 : b.step s n with
    | none => rw [e1] at h'; cases h'
    | some r =>
      rw [e1] at h'
      rw [List.reverse_cons]
      exact path_snoc (path_backP hb ht.2 h') (step_backP hb ht.1 e1)
/-! ### the walks after moves -/
def revB (b : Bld) (s : Int) (ns : List Int) (f l : Nat) : Bool := decide (rmAt b s ns f = rmAt b s ns l) && (partN ns f l).all (twoB b)
def exB (b : Bld) (s : Int) (ns : List Int) (f l o e : Nat) : Bool := decide (rmAt b s ns f = rmAt b s ns o) && decide (rmAt b s ns l = rmAt b s ns e)
def revW (ns : List Int) (f l : Nat) : List Int := ns.take f ++ (partN ns f l).reverse ++ ns.drop l
def exW (ns : List Int) (f l o e : Nat) : List Int := ns.take f ++ (partN ns o e ++ partN ns l o ++ partN ns f l) ++ ns.drop e
theorem rev_walk {b : Bld} (hb : b.ok) {ns : List Int} {s e : Int} (h : b.path s ns = some e) {f l : Nat} (hfl : f ≤ l) (hl : l ≤ ns.length) (hr : revB b s ns f l = true) : b.path s (revW ns f l) = some e := by
  unfold revB at hr
  rw [Bool.and_eq_true] at hr
  have e1 := of_decide_eq_true hr.1
  have h1 := rm_path h f (by omega)
  have h2 := path_backP hb hr.2 (part_path h hfl hl)
  have h3 := tail_path h hl
  unfold revW
  rw [← e1] at h2 h3
  exact path_then (path_then h1 h2) h3
theorem ex_walk {b : Bld} {ns : List Int} {s e : Int} (h : b.path s ns = some e) {f l o q : Nat} (h1 : f ≤ l) (h2 : l ≤ o) (h3 : o ≤ q) (h4 : q ≤ ns.length) (hx : exB b s ns f l o q = true) : b.path s (exW ns f l o q) = some e := by
  unfold exB at hx
  rw [Bool.and_eq_true] at hx
  have e1 := of_decide_eq_true hx.1
  have e2 := of_decide_eq_true hx.2
  have p1 := rm_path h f (by omega)
  have p2 := part_path h h3 h4
  have p3 := part_path h h2 (by omega)
  have p4 := part_path h h1 (by omega)
  have p5 := tail_path h h4
  unfold exW
  rw [e1] at p1
  rw [← e2] at p2
  rw [← e1] at p3
  rw [← e2] at p5
  exact path_then (path_then p1 (path_then (path_then p2 p3) p4)) p5
theorem rev_perm (ns : List Int) {f l : Nat} (h : f ≤ l) : (revW ns f l).Perm ns := by
  unfold revW
  have e : ns = ns.take f ++ partN ns f l ++ ns.drop l := by
    rw [← take_part ns h, List.take_append_drop]
  conv => rhs; rw [e]
  exact ((List.Perm.refl _).append (List.reverse_perm _)).append_right _
theorem ex_perm (ns : List Int) {f l o q : Nat} (h1 : f ≤ l) (h2 : l ≤ o) (h3 : o ≤ q) : (exW ns f l o q).Perm ns := by
  unfold exW
  have e : ns = ns.take f ++ (partN ns f l ++ partN ns l o ++ partN ns o q) ++ ns.drop q := by
    have e1 : ns.take f ++ (partN ns f l ++ partN ns l o ++ partN ns o q) = ns.take q := by
      rw [take_part ns h3, take_part ns h2, take_part ns h1]
      simp -implicitDefEqProofs only [List.append_assoc]
    rw [e1, List.take_append_drop]
  conv => rhs; rw [e]
  refine List.Perm.append_right _ (List.Perm.append_left _ ?_)
  have a1 : (partN ns o q ++ partN ns l o ++ partN ns f l).Perm (partN ns f l ++ (partN ns o q ++ partN ns l o)) := List.perm_append_comm
  refine a1.trans ?_
  rw [List.append_assoc]
  exact List.Perm.append_left _ List.perm_append_comm
/-! ### all moves -/
def prs (m : Nat) : List (Nat × Nat) := (List.range m).flatMap fun f => (List.range' (f + 1) (m - (f + 1))).map fun l => (f, l)
theorem mem_prs {m : Nat} {p : Nat × Nat} : p ∈ prs m ↔ p.1 < p.2 ∧ p.2 < m := by
  unfold prs
  simp -implicitDefEqProofs only [List.mem_flatMap, List.mem_range, List.mem_map, List.mem_range'_1]
  constructor
  · rintro ⟨f, hf, l, hl, rfl⟩
    dsimp only
    omega
  · rintro ⟨h1, h2⟩
    exact ⟨p.1, by omega, p.2, by omega, rfl⟩
def rvE (b : Bld) (s : Int) (ns : List Int) (f l : Nat) : List (Mv × List Int) := if revB b s ns f l = true then [((true, [(f : Int), (l : Int)]), revW ns f l)] else []
def exE (ns : List Int) (f l o e : Nat) : Mv × List Int := ((false, [(f : Int), (l : Int), (o : Int), (e : Int)]), exW ns f l o e)
def exL (b : Bld) (s : Int) (ns : List Int) (m f l : Nat) : List (Mv × List Int) := ((prs m).filter fun q => decide (l ≤ q.1) && exB b s ns f l q.1 q.2).map fun q => exE ns f l q.1 q.2
def fnd (b : Bld) (s : Int) (ns : List Int) : List (Mv × List Int) := (prs (ns.length + 1)).flatMap fun p => rvE b s ns p.1 p.2 ++ exL b s ns (ns.length + 1) p.1 p.2
theorem range_split {l m : Nat} (h : l ≤ m) : List.range m = List.range' 0 l ++ List.range' l (m - l) := by
  rw [List.range_eq_range']
  have := List.range'_append (s := 0) (m := l) (n := m - l) (step := 1)
  rw [show 0 + 1 * l = l by omega, show l + (m - l) = m by omega] at this
  exact this.symm
theorem flt_flat {α β : Type} (p : β → Bool) (f : α → List β) : ∀ l : List α, (l.flatMap f).filter p = l.flatMap fun a => (f a).filter p
  | [] => rfl
  | a :: l => by rw [List.flatMap_cons, List.filter_append, flt_flat p f l, List.flatMap_cons]
theorem flat_nil {α β : Type} (f : α → List β) : ∀ l : List α, (∀ x ∈ l, f x = []) → l.flatMap f = []
  | [], _ => rfl
  | a :: l, h => by rw [List.flatMap_cons, h a List.mem_cons_self, flat_nil f l fun x hx => h x (List.mem_cons_of_mem _ hx)]; rfl
theorem flat_congr {α β : Type} {f g : α → List β} : ∀ {l : List α}, (∀ x ∈ l, f x = g x) → l.flatMap f = l.flatMap g
  | [], _ => rfl
  | a :: l, h => by rw [List.flatMap_cons, List.flatMap_cons, h a List.mem_cons_self, flat_congr fun x hx => h x (List.mem_cons_of_mem _ hx)]
/-- the same by loops, as the law's text finds them -/
theorem exL_loop (b : Bld) (s : Int) (ns : List Int) (m f l : Nat) (h : l ≤ m) : exL b s ns m f l = (List.range' l (m - l)).flatMap fun o => ((List.range' (o + 1) (m - (o + 1))).filter fun e => exB b s ns f l o e).map fun e => exE ns f l o e := by
  unfold exL prs
  rw [flt_flat, range_split h, List.flatMap_append, flat_nil _ (List.range' 0 l), List.nil_append, List.map_flatMap]
  · refine flat_congr fun o ho => ?_
    rw [List.mem_range'_1] at ho
    rw [List.filter_map, List.map_map]
    have : List.filter ((fun q : Nat × Nat => decide (l ≤ q.1) && exB b s ns f l q.1 q.2) ∘ fun l => (o, l)) (List.range' (o + 1) (m - (o + 1))) = List.filter (fun e => exB b s ns f l o e) (List.range' (o + 1) (m - (o + 1))) := by
      apply List.filter_congr
      intro e _
      show (decide (l ≤ o) && exB b s ns f l o e) = _
      rw [decide_eq_true ho.1, Bool.true_and]
    rw [this]
    rfl
  · intro o ho
    rw [List.mem_range'_1] at ho
    rw [List.filter_map, List.map_eq_nil_iff, List.filter_eq_nil_iff]
    intro e _
    show ¬ (decide (l ≤ o) && exB b s ns f l o e) = true
    rw [decide_eq_false (by omega)]
    simp
theorem fnd_loop (b : Bld) (s : Int) (ns : List Int) : fnd b s ns = (List.range (ns.length + 1)).flatMap fun f => (List.range' (f + 1) (ns.length + 1 - (f + 1))).flatMap fun l => rvE b s ns f l ++ exL b s ns (ns.length + 1) f l := by
  unfold fnd prs
  rw [List.flatMap_assoc]
  refine flat_congr fun f hf => ?_
  rw [List.flatMap_map]
/-- each leads to a walk, by a move that is allowed -/
inductive MvOk (b : Bld) (s : Int) (ns : List Int) : Mv × List Int → Prop
  | rev {f l : Nat} : f < l → l ≤ ns.length → revB b s ns f l = true → MvOk b s ns ((true, [(f : Int), (l : Int)]), revW ns f l)
  | ex {f l o e : Nat} : f < l → l ≤ o → o < e → e ≤ ns.length → exB b s ns f l o e = true → MvOk b s ns (exE ns f l o e)
theorem mem_fnd {b : Bld} {s : Int} {ns : List Int} {x : Mv × List Int} : x ∈ fnd b s ns ↔ MvOk b s ns x := by
  unfold fnd
  simp -implicitDefEqProofs only [List.mem_flatMap, List.mem_append]
  constructor
  · rintro ⟨p, hp, h⟩
    obtain ⟨h1, h2⟩ := mem_prs.mp hp
    rcases h with h | h
    · unfold rvE at h
      split at h
      · rename_i hr
        rw [List.mem_singleton] at h
        subst h
        exact .rev h1 (by omega) hr
      · cases h
    · unfold exL at h
      obtain ⟨q, hq, rfl⟩ := List.mem_map.mp h
      obtain ⟨hq1, hq2⟩ := List.mem_filter.mp hq
      obtain ⟨h3, h4⟩ := mem_prs.mp hq1
      rw [Bool.and_eq_true] at hq2
      exact .ex h1 (of_decide_eq_true hq2.1) h3 (by omega) hq2.2
  · intro h
    cases h with
    | rev h1 h2 h3 =>
      rename_i f l
      refine ⟨(f, l), mem_prs.mpr ⟨h1, by dsimp only; omega⟩, .inl ?_⟩
      unfold rvE
      rw [if_pos h3]
      exact List.mem_singleton.mpr rfl
    | ex h1 h2 h3 h4 h5 =>
      rename_i f l o e
      refine ⟨(f, l), mem_prs.mpr ⟨h1, by dsimp only; omega⟩, .inr ?_⟩
      unfold exL
      refine List.mem_map.mpr ⟨(o, e), List.mem_filter.mpr ⟨mem_prs.mpr ⟨h3, by dsimp only; omega⟩, ?_⟩, rfl⟩
      dsimp only
      rw [decide_eq_true h2, h5]
      rfl
theorem MvOk.walk {b : Bld} (hb : b.ok) {s e : Int} {ns : List Int} (h : b.path s ns = some e) {x : Mv × List Int} (hx : MvOk b s ns x) : b.path s x.2 = some e ∧ x.2.Perm ns := by
  cases hx with
  | rev h1 h2 h3 => exact ⟨rev_walk hb h (by omega) h2 h3, rev_perm ns (by omega)⟩
  | ex h1 h2 h3 h4 h5 => exact ⟨ex_walk h (by omega) h2 (by omega) h4 h5, ex_perm ns (by omega) h2 (by omega)⟩
end
end DD

namespace DD
noncomputable section
open PySem PySem.Spec PyProof.Rows L2
/-! ### a comprehension with two generators -/
theorem comp2_map {α : Type} (f : α → D) (g : α → List D) {bb : D → Rho → Option Rho} {mt : Rho → Option ResB} {mi1 : Rho → Option ResL} {vs1 : List Nat} {b1 : D → Rho → Option Rho} {mt1 : Rho → Option ResB} {me : Rho → Option Res} {ρ : Rho} : ∀ (l : List α), (∀ x ∈ l, ∃ ρ1, bb (f x) ρ = some ρ1 ∧ noMut ρ1 = true ∧ mt ρ1 = some (.ok true) ∧ ∃ its, mi1 ρ1 = some (.ok its) ∧ compL b1 mt1 me (wipeR ρ1 vs1) its = some (g x)) →
    compL2 bb mt mi1 vs1 b1 mt1 me ρ (l.map f) = some (l.flatMap g)
  | [], _ => rfl
  | x :: l, h => by
    obtain ⟨ρ1, e1, e2, e3, its, e4, e5⟩ := h x List.mem_cons_self
    have ih := comp2_map f g l (fun y hy => h y (List.mem_cons_of_mem _ hy))
    rw [List.map_cons]
    unfold compL2
    rw [e1]
    dsimp only
    rw [e2, e3]
    dsimp only
    rw [e4]
    dsimp only
    rw [e5]
    dsimp only
    rw [ih, List.flatMap_cons]
    rfl
theorem ne_kind (t u : Bool) : neD (.str (kindS t)) (.str (kindS u)) = some (.bool (!(t == u))) := by
  cases t <;> cases u <;> kernel_rfl
theorem at_rm {b : Bld} {s e : Int} {ns : List Int} (h : b.path s ns = some e) {f : Nat} (hf : f ≤ ns.length) : atI ((rmW b s ns).map PyData.int) (f : Int) = some (.int (rmAt b s ns f)) := by
  have := at_room h (t := (f : Int)) (by omega) (by omega)
  rw [Int.toNat_natCast] at this
  exact this
theorem door_of {b : Bld} {s e : Int} {ns : List Int} (h : b.path s ns = some e) {k : Int} (hk : k ∈ ns) : ∃ x : Door, atI (b.ds.map Door.d) k = some x.d ∧ twoB b k = x.two := by
  obtain ⟨h0, h1⟩ := path_mem h k hk
  have hl : k.toNat < b.ds.length := by omega
  have hg := List.getElem?_eq_getElem hl
  refine ⟨b.ds[k.toNat], ?_, ?_⟩
  · have := at_door hg
    rwa [show ((k.toNat : Nat) : Int) = k by omega] at this
  · unfold twoB
    rw [hg]
theorem part_mem {ns : List Int} {i j : Nat} {k : Int} (h : k ∈ partN ns i j) : k ∈ ns := List.mem_of_mem_take (List.mem_of_mem_drop h)
theorem all_not {α : Type} (p : α → Bool) (l : List α) : (l.filter fun q => !p q).isEmpty = l.all p := by
  induction l with
  | nil => rfl
  | cons a l ih =>
    rw [List.filter_cons, List.all_cons]
    cases e : p a with
    | true => rw [if_neg (by decide), ih]; rfl
    | false => rw [if_pos (by decide)]; rfl
/-! ### may_reverse, may_exchange, after -/
def MayR (G : Gb) (c : Nat) : Prop := ∀ (b : Bld) (s e : Int) (ns : List Int) (f l : Nat), b.ok → b.path s ns = some e → f ≤ ns.length → l ≤ ns.length → G.phi c [b.d, wkD s ns, iL (rmW b s ns), .int (f : Int), .int (l : Int)] = some (.ok (.bool (decide (f < l) && revB b s ns f l)))
theorem mayr_sem (G : Gb) (g : Nat) (hg : ∃ z, G.csts[g]? = some (z, .str "two-way")) (b : Bld) (s e : Int) (ns : List Int) (f l : Nat) (hb : b.ok) (hp : b.path s ns = some e) (hf : f ≤ ns.length) (hl : l ≤ ns.length) (fuel : Nat) (nw : Bool) : runF G fuel nw (b_may_reverse g) 6 [b.d, wkD s ns, iL (rmW b s ns), .int (f : Int), .int (l : Int)] = some (.ok (.bool (decide (f < l) && revB b s ns f l))) := by
  obtain ⟨z, hg⟩ := hg
  refine run_ret [some (.bor, b.d), some (.bor, wkD s ns), some (.bor, iL (rmW b s ns)), some (.bor, .int (f : Int)), some (.bor, .int (l : Int)), none] rfl ?_
  have e1 : (PyData.str "two-way") = .str (kindS true) := rfl
  have h0 : ((0 : Int) ≤ (f : Int)) = True := eq_true (by omega)
  have h2 : ((l : Int) < ((rmW b s ns).length : Int)) = True := eq_true (by rw [rmW_len hp]; push_cast; omega)
  have a1 := at_rm hp hf
  have a2 := at_rm hp hl
  by_cases hfl : f < l
  · have h1 : ((f : Int) < (l : Int)) = True := eq_true (by omega)
    rw [decide_eq_true hfl, Bool.true_and]
    unfold revB
    by_cases hr : rmAt b s ns f = rmAt b s ns l
    · have hr' := eq_true hr
      have hc := cutM ns (i := f) (j := l) (by omega)
      simp -implicitDefEqProofs only [b_may_reverse, execSs, execS, seqS, thenS, retS, retNS, retV, mutL, mutD, keepX, ixD2, inD2, itemsOf, seqOf, zipI, enumI, cntV, popK, takeOff, extK, dputS, dct1, dkey, dinD, parK, bindX, ioV, nxK, retIO, callT, newA, evalT, evalX, evalZ, keepB, isDict, Bool.true_or, Bool.or_true, Bool.false_or, Bool.or_false, Bool.true_and, Bool.and_true, Bool.false_and, Bool.and_false, datK, ownK, tgK, appK, evalE, evalK, evalA, evalAnd, evalOr, evalO, evalF, evalI, evalC, keep, keepV, slotVal, lift1, lift2, liftA, consA, callF, notV, andT, orT, ifV, tstB, DD.ifS, DD.forS, compV, seqI, rngI, E.src, sem2, semC, semB, Ty.nm, Cst.d, boolRes, truth_bool, truth_none, truth_int, truth_list, truth_tuple, isi_int, isi_bool, isi_tuple, isi_list, isi_str, addD, subD, mul_int, fdiv_int, mod_int, ltD, leD, gtD, geD, lenD, isNone, negD, tg_one, tg_many, tgs_nil, tgs_cons, flatRoot, okSize, List.getElem?_cons_zero, List.getElem?_cons_succ, List.set_cons_zero, List.set_cons_succ, List.length_cons, List.length_nil, Option.map_some, Option.map_none, Nat.zero_add, if_true, if_false, Bool.not_true, Bool.not_false, reduceCtorEq, or_true, true_or, or_false, false_or, Nat.reduceAdd, Nat.reduceLeDiff, decide_true, decide_false, Bool.false_eq_true, wipeR, List.map_cons, List.map_nil, wkD, csD, iL, linkC, lastC, List.length_map, h0, h1, h2, ixD, a1, a2, ne_int, hr', at_c1, slcV, partV, hc]
      rw [comp_map (fun k : Int => PyData.int k) (fun k => !twoB b k) (fun k => .int k)]
      · simp -implicitDefEqProofs only [execSs, execS, seqS, thenS, retS, retNS, retV, mutL, mutD, keepX, ixD2, inD2, itemsOf, seqOf, zipI, enumI, cntV, popK, takeOff, extK, dputS, dct1, dkey, dinD, parK, bindX, ioV, nxK, retIO, callT, newA, evalT, evalX, evalZ, keepB, isDict, Bool.true_or, Bool.or_true, Bool.false_or, Bool.or_false, Bool.true_and, Bool.and_true, Bool.false_and, Bool.and_false, datK, ownK, tgK, appK, evalE, evalK, evalA, evalAnd, evalOr, evalO, evalF, evalI, evalC, keep, keepV, slotVal, lift1, lift2, liftA, consA, callF, notV, andT, orT, ifV, tstB, DD.ifS, DD.forS, compV, seqI, rngI, E.src, sem2, semC, semB, Ty.nm, Cst.d, boolRes, truth_bool, truth_none, truth_int, truth_list, truth_tuple, isi_int, isi_bool, isi_tuple, isi_list, isi_str, addD, subD, mul_int, fdiv_int, mod_int, ltD, leD, gtD, geD, lenD, isNone, negD, tg_one, tg_many, tgs_nil, tgs_cons, flatRoot, okSize, List.getElem?_cons_zero, List.getElem?_cons_succ, List.set_cons_zero, List.set_cons_succ, List.length_cons, List.length_nil, Option.map_some, Option.map_none, Nat.zero_add, if_true, if_false, Bool.not_true, Bool.not_false, reduceCtorEq, or_true, true_or, or_false, false_or, Nat.reduceAdd, Nat.reduceLeDiff, decide_true, decide_false, Bool.false_eq_true, List.isEmpty_map, Bool.not_not, all_not]
      · intro k hk
        obtain ⟨x, hx1, hx2⟩ := door_of hp (part_mem hk)
        refine ⟨_, rfl, ?_, fun _ => ?_⟩
        · simp -implicitDefEqProofs only [execSs, execS, seqS, thenS, retS, retNS, retV, mutL, mutD, keepX, ixD2, inD2, itemsOf, seqOf, zipI, enumI, cntV, popK, takeOff, extK, dputS, dct1, dkey, dinD, parK, bindX, ioV, nxK, retIO, callT, newA, evalT, evalX, evalZ, keepB, isDict, Bool.true_or, Bool.or_true, Bool.false_or, Bool.or_false, Bool.true_and, Bool.and_true, Bool.false_and, Bool.and_false, datK, ownK, tgK, appK, evalE, evalK, evalA, evalAnd, evalOr, evalO, evalF, evalI, evalC, keep, keepV, slotVal, lift1, lift2, liftA, consA, callF, notV, andT, orT, ifV, tstB, DD.ifS, DD.forS, compV, seqI, rngI, E.src, sem2, semC, semB, Ty.nm, Cst.d, boolRes, truth_bool, truth_none, truth_int, truth_list, truth_tuple, isi_int, isi_bool, isi_tuple, isi_list, isi_str, addD, subD, mul_int, fdiv_int, mod_int, ltD, leD, gtD, geD, lenD, isNone, negD, tg_one, tg_many, tgs_nil, tgs_cons, flatRoot, okSize, List.getElem?_cons_zero, List.getElem?_cons_succ, List.set_cons_zero, List.set_cons_succ, List.length_cons, List.length_nil, Option.map_some, Option.map_none, Nat.zero_add, if_true, if_false, Bool.not_true, Bool.not_false, reduceCtorEq, or_true, true_or, or_false, false_or, Nat.reduceAdd, Nat.reduceLeDiff, decide_true, decide_false, Bool.false_eq_true, Bld.d, ixD, at_c1, at_c2, hx1, Door.d, hg]
          rw [e1, ne_kind, hx2]
          cases x.two <;> rfl
        · simp -implicitDefEqProofs only [execSs, execS, seqS, thenS, retS, retNS, retV, mutL, mutD, keepX, ixD2, inD2, itemsOf, seqOf, zipI, enumI, cntV, popK, takeOff, extK, dputS, dct1, dkey, dinD, parK, bindX, ioV, nxK, retIO, callT, newA, evalT, evalX, evalZ, keepB, isDict, Bool.true_or, Bool.or_true, Bool.false_or, Bool.or_false, Bool.true_and, Bool.and_true, Bool.false_and, Bool.and_false, datK, ownK, tgK, appK, evalE, evalK, evalA, evalAnd, evalOr, evalO, evalF, evalI, evalC, keep, keepV, slotVal, lift1, lift2, liftA, consA, callF, notV, andT, orT, ifV, tstB, DD.ifS, DD.forS, compV, seqI, rngI, E.src, sem2, semC, semB, Ty.nm, Cst.d, boolRes, truth_bool, truth_none, truth_int, truth_list, truth_tuple, isi_int, isi_bool, isi_tuple, isi_list, isi_str, addD, subD, mul_int, fdiv_int, mod_int, ltD, leD, gtD, geD, lenD, isNone, negD, tg_one, tg_many, tgs_nil, tgs_cons, flatRoot, okSize, List.getElem?_cons_zero, List.getElem?_cons_succ, List.set_cons_zero, List.set_cons_succ, List.length_cons, List.length_nil, Option.map_some, Option.map_none, Nat.zero_add, if_true, if_false, Bool.not_true, Bool.not_false, reduceCtorEq, or_true, true_or, or_false, false_or, Nat.reduceAdd, Nat.reduceLeDiff, decide_true, decide_false, Bool.false_eq_true]
    · have hr' := eq_false hr
      simp -implicitDefEqProofs only [b_may_reverse, execSs, execS, seqS, thenS, retS, retNS, retV, mutL, mutD, keepX, ixD2, inD2, itemsOf, seqOf, zipI, enumI, cntV, popK, takeOff, extK, dputS, dct1, dkey, dinD, parK, bindX, ioV, nxK, retIO, callT, newA, evalT, evalX, evalZ, keepB, isDict, Bool.true_or, Bool.or_true, Bool.false_or, Bool.or_false, Bool.true_and, Bool.and_true, Bool.false_and, Bool.and_false, datK, ownK, tgK, appK, evalE, evalK, evalA, evalAnd, evalOr, evalO, evalF, evalI, evalC, keep, keepV, slotVal, lift1, lift2, liftA, consA, callF, notV, andT, orT, ifV, tstB, DD.ifS, DD.forS, compV, seqI, rngI, E.src, sem2, semC, semB, Ty.nm, Cst.d, boolRes, truth_bool, truth_none, truth_int, truth_list, truth_tuple, isi_int, isi_bool, isi_tuple, isi_list, isi_str, addD, subD, mul_int, fdiv_int, mod_int, ltD, leD, gtD, geD, lenD, isNone, negD, tg_one, tg_many, tgs_nil, tgs_cons, flatRoot, okSize, List.getElem?_cons_zero, List.getElem?_cons_succ, List.set_cons_zero, List.set_cons_succ, List.length_cons, List.length_nil, Option.map_some, Option.map_none, Nat.zero_add, if_true, if_false, Bool.not_true, Bool.not_false, reduceCtorEq, or_true, true_or, or_false, false_or, Nat.reduceAdd, Nat.reduceLeDiff, decide_true, decide_false, Bool.false_eq_true, wkD, csD, iL, linkC, lastC, List.length_map, h0, h1, h2, ixD, a1, a2, ne_int, hr']
  · have h1 : ((f : Int) < (l : Int)) = False := eq_false (by omega)
    rw [decide_eq_false hfl, Bool.false_and]
    simp -implicitDefEqProofs only [b_may_reverse, execSs, execS, seqS, thenS, retS, retNS, retV, mutL, mutD, keepX, ixD2, inD2, itemsOf, seqOf, zipI, enumI, cntV, popK, takeOff, extK, dputS, dct1, dkey, dinD, parK, bindX, ioV, nxK, retIO, callT, newA, evalT, evalX, evalZ, keepB, isDict, Bool.true_or, Bool.or_true, Bool.false_or, Bool.or_false, Bool.true_and, Bool.and_true, Bool.false_and, Bool.and_false, datK, ownK, tgK, appK, evalE, evalK, evalA, evalAnd, evalOr, evalO, evalF, evalI, evalC, keep, keepV, slotVal, lift1, lift2, liftA, consA, callF, notV, andT, orT, ifV, tstB, DD.ifS, DD.forS, compV, seqI, rngI, E.src, sem2, semC, semB, Ty.nm, Cst.d, boolRes, truth_bool, truth_none, truth_int, truth_list, truth_tuple, isi_int, isi_bool, isi_tuple, isi_list, isi_str, addD, subD, mul_int, fdiv_int, mod_int, ltD, leD, gtD, geD, lenD, isNone, negD, tg_one, tg_many, tgs_nil, tgs_cons, flatRoot, okSize, List.getElem?_cons_zero, List.getElem?_cons_succ, List.set_cons_zero, List.set_cons_succ, List.length_cons, List.length_nil, Option.map_some, Option.map_none, Nat.zero_add, if_true, if_false, Bool.not_true, Bool.not_false, reduceCtorEq, or_true, true_or, or_false, false_or, Nat.reduceAdd, Nat.reduceLeDiff, decide_true, decide_false, Bool.false_eq_true, wkD, csD, iL, linkC, lastC, List.length_map, h0, h1]
def quad (f l o e : Nat) : D := .tuple [.int (f : Int), .int (l : Int), .int (o : Int), .int (e : Int)]
def MayX (G : Gb) (c : Nat) : Prop := ∀ (b : Bld) (s e : Int) (ns : List Int) (f l o q : Nat), b.path s ns = some e → f ≤ ns.length → l ≤ ns.length → o ≤ ns.length → q ≤ ns.length → G.phi c [iL (rmW b s ns), quad f l o q] = some (.ok (.bool ((decide (f < l) && decide (l ≤ o) && decide (o < q)) && exB b s ns f l o q)))
theorem mayx_sem (G : Gb) (b : Bld) (s e : Int) (ns : List Int) (f l o q : Nat) (hp : b.path s ns = some e) (hf : f ≤ ns.length) (hl : l ≤ ns.length) (ho : o ≤ ns.length) (hq : q ≤ ns.length) (fuel : Nat) (nw : Bool) : runF G fuel nw b_may_exchange 6 [iL (rmW b s ns), quad f l o q] = some (.ok (.bool ((decide (f < l) && decide (l ≤ o) && decide (o < q)) && exB b s ns f l o q))) := by
  refine run_ret [some (.bor, iL (rmW b s ns)), some (.bor, quad f l o q), none, none, none, none] rfl ?_
  have h0 : ((0 : Int) ≤ (f : Int)) = True := eq_true (by omega)
  have h2 : ((q : Int) < ((rmW b s ns).length : Int)) = True := eq_true (by rw [rmW_len hp]; push_cast; omega)
  have a1 := at_rm hp hf
  have a2 := at_rm hp hl
  have a3 := at_rm hp ho
  have a4 := at_rm hp hq
  have c1 : ((f : Int) < (l : Int)) = (f < l) := by apply propext; omega
  have c2 : ((l : Int) ≤ (o : Int)) = (l ≤ o) := by apply propext; omega
  have c3 : ((o : Int) < (q : Int)) = (o < q) := by apply propext; omega
  by_cases q1 : f < l
  · by_cases q2 : l ≤ o
    · by_cases q3 : o < q
      · rw [decide_eq_true q1, decide_eq_true q2, decide_eq_true q3]
        unfold exB
        by_cases r1 : rmAt b s ns f = rmAt b s ns o
        · have r1' := eq_true r1
          simp -implicitDefEqProofs only [b_may_exchange, execSs, execS, seqS, thenS, retS, retNS, retV, mutL, mutD, keepX, ixD2, inD2, itemsOf, seqOf, zipI, enumI, cntV, popK, takeOff, extK, dputS, dct1, dkey, dinD, parK, bindX, ioV, nxK, retIO, callT, newA, evalT, evalX, evalZ, keepB, isDict, Bool.true_or, Bool.or_true, Bool.false_or, Bool.or_false, Bool.true_and, Bool.and_true, Bool.false_and, Bool.and_false, datK, ownK, tgK, appK, evalE, evalK, evalA, evalAnd, evalOr, evalO, evalF, evalI, evalC, keep, keepV, slotVal, lift1, lift2, liftA, consA, callF, notV, andT, orT, ifV, tstB, DD.ifS, DD.forS, compV, seqI, rngI, E.src, sem2, semC, semB, Ty.nm, Cst.d, boolRes, truth_bool, truth_none, truth_int, truth_list, truth_tuple, isi_int, isi_bool, isi_tuple, isi_list, isi_str, addD, subD, mul_int, fdiv_int, mod_int, ltD, leD, gtD, geD, lenD, isNone, negD, tg_one, tg_many, tgs_nil, tgs_cons, flatRoot, okSize, List.getElem?_cons_zero, List.getElem?_cons_succ, List.set_cons_zero, List.set_cons_succ, List.length_cons, List.length_nil, Option.map_some, Option.map_none, Nat.zero_add, if_true, if_false, Bool.not_true, Bool.not_false, reduceCtorEq, or_true, true_or, or_false, false_or, Nat.reduceAdd, Nat.reduceLeDiff, decide_true, decide_false, Bool.false_eq_true, quad, iL, linkC, lastC, List.length_map, h0, h2, c1, c2, c3, q1, q2, q3, ixD, a1, a2, a3, a4, eq_int, r1']
        · have r1' := eq_false r1
          simp -implicitDefEqProofs only [b_may_exchange, execSs, execS, seqS, thenS, retS, retNS, retV, mutL, mutD, keepX, ixD2, inD2, itemsOf, seqOf, zipI, enumI, cntV, popK, takeOff, extK, dputS, dct1, dkey, dinD, parK, bindX, ioV, nxK, retIO, callT, newA, evalT, evalX, evalZ, keepB, isDict, Bool.true_or, Bool.or_true, Bool.false_or, Bool.or_false, Bool.true_and, Bool.and_true, Bool.false_and, Bool.and_false, datK, ownK, tgK, appK, evalE, evalK, evalA, evalAnd, evalOr, evalO, evalF, evalI, evalC, keep, keepV, slotVal, lift1, lift2, liftA, consA, callF, notV, andT, orT, ifV, tstB, DD.ifS, DD.forS, compV, seqI, rngI, E.src, sem2, semC, semB, Ty.nm, Cst.d, boolRes, truth_bool, truth_none, truth_int, truth_list, truth_tuple, isi_int, isi_bool, isi_tuple, isi_list, isi_str, addD, subD, mul_int, fdiv_int, mod_int, ltD, leD, gtD, geD, lenD, isNone, negD, tg_one, tg_many, tgs_nil, tgs_cons, flatRoot, okSize, List.getElem?_cons_zero, List.getElem?_cons_succ, List.set_cons_zero, List.set_cons_succ, List.length_cons, List.length_nil, Option.map_some, Option.map_none, Nat.zero_add, if_true, if_false, Bool.not_true, Bool.not_false, reduceCtorEq, or_true, true_or, or_false, false_or, Nat.reduceAdd, Nat.reduceLeDiff, decide_true, decide_false, Bool.false_eq_true, quad, iL, linkC, lastC, List.length_map, h0, h2, c1, c2, c3, q1, q2, q3, ixD, a1, a2, a3, a4, eq_int, r1']
      · rw [decide_eq_false q3, Bool.and_false, Bool.false_and]
        simp -implicitDefEqProofs only [b_may_exchange, execSs, execS, seqS, thenS, retS, retNS, retV, mutL, mutD, keepX, ixD2, inD2, itemsOf, seqOf, zipI, enumI, cntV, popK, takeOff, extK, dputS, dct1, dkey, dinD, parK, bindX, ioV, nxK, retIO, callT, newA, evalT, evalX, evalZ, keepB, isDict, Bool.true_or, Bool.or_true, Bool.false_or, Bool.or_false, Bool.true_and, Bool.and_true, Bool.false_and, Bool.and_false, datK, ownK, tgK, appK, evalE, evalK, evalA, evalAnd, evalOr, evalO, evalF, evalI, evalC, keep, keepV, slotVal, lift1, lift2, liftA, consA, callF, notV, andT, orT, ifV, tstB, DD.ifS, DD.forS, compV, seqI, rngI, E.src, sem2, semC, semB, Ty.nm, Cst.d, boolRes, truth_bool, truth_none, truth_int, truth_list, truth_tuple, isi_int, isi_bool, isi_tuple, isi_list, isi_str, addD, subD, mul_int, fdiv_int, mod_int, ltD, leD, gtD, geD, lenD, isNone, negD, tg_one, tg_many, tgs_nil, tgs_cons, flatRoot, okSize, List.getElem?_cons_zero, List.getElem?_cons_succ, List.set_cons_zero, List.set_cons_succ, List.length_cons, List.length_nil, Option.map_some, Option.map_none, Nat.zero_add, if_true, if_false, Bool.not_true, Bool.not_false, reduceCtorEq, or_true, true_or, or_false, false_or, Nat.reduceAdd, Nat.reduceLeDiff, decide_true, decide_false, Bool.false_eq_true, quad, iL, linkC, lastC, List.length_map, h0, h2, c1, c2, c3, q1, q2, q3]
    · rw [decide_eq_false q2, Bool.and_false, Bool.false_and, Bool.false_and]
      simp -implicitDefEqProofs only [b_may_exchange, execSs, execS, seqS, thenS, retS, retNS, retV, mutL, mutD, keepX, ixD2, inD2, itemsOf, seqOf, zipI, enumI, cntV, popK, takeOff, extK, dputS, dct1, dkey, dinD, parK, bindX, ioV, nxK, retIO, callT, newA, evalT, evalX, evalZ, keepB, isDict, Bool.true_or, Bool.or_true, Bool.false_or, Bool.or_false, Bool.true_and, Bool.and_true, Bool.false_and, Bool.and_false, datK, ownK, tgK, appK, evalE, evalK, evalA, evalAnd, evalOr, evalO, evalF, evalI, evalC, keep, keepV, slotVal, lift1, lift2, liftA, consA, callF, notV, andT, orT, ifV, tstB, DD.ifS, DD.forS, compV, seqI, rngI, E.src, sem2, semC, semB, Ty.nm, Cst.d, boolRes, truth_bool, truth_none, truth_int, truth_list, truth_tuple, isi_int, isi_bool, isi_tuple, isi_list, isi_str, addD, subD, mul_int, fdiv_int, mod_int, ltD, leD, gtD, geD, lenD, isNone, negD, tg_one, tg_many, tgs_nil, tgs_cons, flatRoot, okSize, List.getElem?_cons_zero, List.getElem?_cons_succ, List.set_cons_zero, List.set_cons_succ, List.length_cons, List.length_nil, Option.map_some, Option.map_none, Nat.zero_add, if_true, if_false, Bool.not_true, Bool.not_false, reduceCtorEq, or_true, true_or, or_false, false_or, Nat.reduceAdd, Nat.reduceLeDiff, decide_true, decide_false, Bool.false_eq_true, quad, iL, linkC, lastC, List.length_map, h0, h2, c1, c2, c3, q1, q2]
  · rw [decide_eq_false q1, Bool.false_and, Bool.false_and, Bool.false_and]
    simp -implicitDefEqProofs only [b_may_exchange, execSs, execS, seqS, thenS, retS, retNS, retV, mutL, mutD, keepX, ixD2, inD2, itemsOf, seqOf, zipI, enumI, cntV, popK, takeOff, extK, dputS, dct1, dkey, dinD, parK, bindX, ioV, nxK, retIO, callT, newA, evalT, evalX, evalZ, keepB, isDict, Bool.true_or, Bool.or_true, Bool.false_or, Bool.or_false, Bool.true_and, Bool.and_true, Bool.false_and, Bool.and_false, datK, ownK, tgK, appK, evalE, evalK, evalA, evalAnd, evalOr, evalO, evalF, evalI, evalC, keep, keepV, slotVal, lift1, lift2, liftA, consA, callF, notV, andT, orT, ifV, tstB, DD.ifS, DD.forS, compV, seqI, rngI, E.src, sem2, semC, semB, Ty.nm, Cst.d, boolRes, truth_bool, truth_none, truth_int, truth_list, truth_tuple, isi_int, isi_bool, isi_tuple, isi_list, isi_str, addD, subD, mul_int, fdiv_int, mod_int, ltD, leD, gtD, geD, lenD, isNone, negD, tg_one, tg_many, tgs_nil, tgs_cons, flatRoot, okSize, List.getElem?_cons_zero, List.getElem?_cons_succ, List.set_cons_zero, List.set_cons_succ, List.length_cons, List.length_nil, Option.map_some, Option.map_none, Nat.zero_add, if_true, if_false, Bool.not_true, Bool.not_false, reduceCtorEq, or_true, true_or, or_false, false_or, Nat.reduceAdd, Nat.reduceLeDiff, decide_true, decide_false, Bool.false_eq_true, quad, iL, linkC, lastC, List.length_map, h0, h2, c1, c2, c3, q1]
theorem add_cs {xs ys : List Int} (h : xs.length + ys.length ≤ 16777216) : addD (csD xs) (csD ys) = some (csD (xs ++ ys)) := by
  show (if (xs.map PyData.int).length + (ys.map PyData.int).length ≤ 16777216 then some (PyData.tuple (xs.map PyData.int ++ ys.map PyData.int)) else none) = _
  rw [List.length_map, List.length_map, if_pos h, ← List.map_append]
  rfl
theorem cutMc (ns : List Int) {i j : Nat} (h : i ≤ j) : slcD (csD ns) (some (i : Int)) (some (j : Int)) = some (csD (partN ns i j)) := cutM ns h
theorem cutLc (ns : List Int) (k : Nat) : slcD (csD ns) none (some (k : Int)) = some (csD (ns.take k)) := cutL ns k
theorem cutHc (ns : List Int) (k : Nat) : slcD (csD ns) (some (k : Int)) none = some (csD (ns.drop k)) := cutH ns k
theorem rev_cs (xs : List Int) : revD (csD xs) = some (csD xs.reverse) := by
  unfold csD revD
  rw [List.map_reverse]
theorem eq_rev (t : Bool) : eqD (.str (mvS t)) (.str "reverse") = some (.bool t) := by cases t <;> kernel_rfl
theorem eq_exc (t : Bool) : eqD (.str (mvS t)) (.str "exchange") = some (.bool (!t)) := by cases t <;> kernel_rfl
theorem cut_tail (x : D) (xs : List D) : slcD (.tuple (x :: xs)) (some 1) none = some (.tuple xs) := cut_hi (x :: xs) 1
def AfterOk (G : Gb) (c : Nat) : Prop := ∀ (b : Bld) (s : Int) (ns : List Int) (x : Mv × List Int), MvOk b s ns x → ns.length ≤ 72 → G.phi c [wkD s ns, mvD x.1] = some (.ok (wkD s x.2))
theorem after_sem (G : Gb) (b : Bld) (s : Int) (ns : List Int) (x : Mv × List Int) (hx : MvOk b s ns x) (hl : ns.length ≤ 72) (fuel : Nat) (nw : Bool) : runF G fuel nw b_after 8 [wkD s ns, mvD x.1] = some (.ok (wkD s x.2)) := by
  have pl := part_len ns
  have tl : ∀ k, (ns.take k).length ≤ ns.length := fun k => by rw [List.length_take]; omega
  have dl : ∀ k, (ns.drop k).length ≤ ns.length := fun k => by rw [List.length_drop]; omega
  cases hx with
  | rev h1 h2 h3 =>
    rename_i f l
    refine run_ret [some (.bor, wkD s ns), some (.bor, mvD (true, [(f : Int), (l : Int)])), none, none, none, none, none, none] rfl ?_
    have c1 := cutLc ns f
    have c2 := cutMc ns (i := f) (j := l) (by omega)
    have c3 := cutHc ns l
    have r1 := rev_cs (partN ns f l)
    have s1 := add_cs (xs := ns.take f) (ys := (partN ns f l).reverse) (by have := pl f l; have := tl f; rw [List.length_reverse]; omega)
    have s2 := add_cs (xs := ns.take f ++ (partN ns f l).reverse) (ys := ns.drop l) (by have := pl f l; have := tl f; have := dl l; rw [List.length_append, List.length_reverse]; omega)
    have er := eq_rev true
    simp -implicitDefEqProofs only [b_after, execSs, execS, seqS, thenS, retS, retNS, retV, mutL, mutD, keepX, ixD2, inD2, itemsOf, seqOf, zipI, enumI, cntV, popK, takeOff, extK, dputS, dct1, dkey, dinD, parK, bindX, ioV, nxK, retIO, callT, newA, evalT, evalX, evalZ, keepB, isDict, Bool.true_or, Bool.or_true, Bool.false_or, Bool.or_false, Bool.true_and, Bool.and_true, Bool.false_and, Bool.and_false, datK, ownK, tgK, appK, evalE, evalK, evalA, evalAnd, evalOr, evalO, evalF, evalI, evalC, keep, keepV, slotVal, lift1, lift2, liftA, consA, callF, notV, andT, orT, ifV, tstB, DD.ifS, DD.forS, compV, seqI, rngI, E.src, sem2, semC, semB, Ty.nm, Cst.d, boolRes, truth_bool, truth_none, truth_int, truth_list, truth_tuple, isi_int, isi_bool, isi_tuple, isi_list, isi_str, subD, mul_int, fdiv_int, mod_int, ltD, leD, gtD, geD, lenD, isNone, negD, tg_one, tg_many, tgs_nil, tgs_cons, flatRoot, okSize, List.getElem?_cons_zero, List.getElem?_cons_succ, List.set_cons_zero, List.set_cons_succ, List.length_cons, List.length_nil, Option.map_some, Option.map_none, Nat.zero_add, if_true, if_false, Bool.not_true, Bool.not_false, reduceCtorEq, or_true, true_or, or_false, false_or, Nat.reduceAdd, Nat.reduceLeDiff, decide_true, decide_false, Bool.false_eq_true, wkD, mvD, List.map_cons, List.map_nil, ixD, at_c0, at_c1, at_c2, er, slcV, partV, revV, c1, c2, c3, r1, s1, s2]
    rfl
  | ex h1 h2 h3 h4 h5 =>
    rename_i f l o e
    unfold exE
    refine run_ret [some (.bor, wkD s ns), some (.bor, mvD (false, [(f : Int), (l : Int), (o : Int), (e : Int)])), none, none, none, none, none, none] rfl ?_
    have c1 := cutLc ns f
    have c2 := cutMc ns (i := f) (j := l) (by omega)
    have c3 := cutMc ns (i := l) (j := o) (by omega)
    have c4 := cutMc ns (i := o) (j := e) (by omega)
    have c5 := cutHc ns e
    have s1 := add_cs (xs := partN ns o e) (ys := partN ns l o) (by have := pl o e; have := pl l o; omega)
    have s2 := add_cs (xs := partN ns o e ++ partN ns l o) (ys := partN ns f l) (by have := pl o e; have := pl l o; have := pl f l; rw [List.length_append]; omega)
    have s3 := add_cs (xs := ns.take f) (ys := partN ns o e ++ partN ns l o ++ partN ns f l) (by have := tl f; have := pl o e; have := pl l o; have := pl f l; rw [List.length_append, List.length_append]; omega)
    have s4 := add_cs (xs := ns.take f ++ (partN ns o e ++ partN ns l o ++ partN ns f l)) (ys := ns.drop e) (by have := tl f; have := dl e; have := pl o e; have := pl l o; have := pl f l; rw [List.length_append, List.length_append, List.length_append]; omega)
    have er := eq_rev false
    simp -implicitDefEqProofs only [b_after, execSs, execS, seqS, thenS, retS, retNS, retV, mutL, mutD, keepX, ixD2, inD2, itemsOf, seqOf, zipI, enumI, cntV, popK, takeOff, extK, dputS, dct1, dkey, dinD, parK, bindX, ioV, nxK, retIO, callT, newA, evalT, evalX, evalZ, keepB, isDict, Bool.true_or, Bool.or_true, Bool.false_or, Bool.or_false, Bool.true_and, Bool.and_true, Bool.false_and, Bool.and_false, datK, ownK, tgK, appK, evalE, evalK, evalA, evalAnd, evalOr, evalO, evalF, evalI, evalC, keep, keepV, slotVal, lift1, lift2, liftA, consA, callF, notV, andT, orT, ifV, tstB, DD.ifS, DD.forS, compV, seqI, rngI, E.src, sem2, semC, semB, Ty.nm, Cst.d, boolRes, truth_bool, truth_none, truth_int, truth_list, truth_tuple, isi_int, isi_bool, isi_tuple, isi_list, isi_str, subD, mul_int, fdiv_int, mod_int, ltD, leD, gtD, geD, lenD, isNone, negD, tg_one, tg_many, tgs_nil, tgs_cons, flatRoot, okSize, List.getElem?_cons_zero, List.getElem?_cons_succ, List.set_cons_zero, List.set_cons_succ, List.length_cons, List.length_nil, Option.map_some, Option.map_none, Nat.zero_add, if_true, if_false, Bool.not_true, Bool.not_false, reduceCtorEq, or_true, true_or, or_false, false_or, Nat.reduceAdd, Nat.reduceLeDiff, decide_true, decide_false, Bool.false_eq_true, wkD, mvD, List.map_cons, List.map_nil, ixD, at_c0, at_c1, at_c2, er, slcV, partV, revV, cut_tail, c1, c2, c3, c4, c5, s1, s2, s3, s4]
    rfl
end
end DD

namespace DD
noncomputable section
open PySem PySem.Spec PyProof.Rows L2
/-! ### moves_of -/
def nI (k : Nat) : D := .int (k : Int)
def prD (p : Nat × Nat) : D := .tuple [.int (p.1 : Int), .int (p.2 : Int)]
theorem rng_above {f m : Nat} (h : f < m) : ((List.range m).filter fun l => decide (f < l)) = List.range' (f + 1) (m - (f + 1)) := by
  rw [range_split (l := f + 1) (m := m) (by omega), List.filter_append]
  have h1 : ((List.range' 0 (f + 1)).filter fun l => decide (f < l)) = [] := by
    rw [List.filter_eq_nil_iff]
    intro x hx
    rw [List.mem_range'_1] at hx
    simp
    omega
  have h2 : ((List.range' (f + 1) (m - (f + 1))).filter fun l => decide (f < l)) = List.range' (f + 1) (m - (f + 1)) := by
    rw [List.filter_eq_self]
    intro x hx
    rw [List.mem_range'_1] at hx
    exact decide_eq_true (by omega)
  rw [h1, h2, List.nil_append]
theorem prs_data (m : Nat) : ((List.range m).flatMap fun f => ((List.range m).filter fun l => decide (f < l)).map fun l => prD (f, l)) = (prs m).map prD := by
  unfold prs
  rw [List.map_flatMap]
  refine flat_congr fun f hf => ?_
  rw [rng_above (List.mem_range.mp hf), List.map_map]
  rfl
theorem prs_len {m : Nat} (h : m ≤ 11) : (prs m).length ≤ 121 := by
  unfold prs
  have := flat_few (m := m) (List.range m) (f := fun f => (List.range' (f + 1) (m - (f + 1))).map fun l => (f, l)) fun x hx => by
    rw [List.length_map, List.length_range']
    omega
  rw [List.length_range] at this
  have h2 : m * m ≤ 11 * 11 := Nat.mul_le_mul h h
  omega
def rvM (b : Bld) (s : Int) (ns : List Int) (f l : Nat) : List Mv := if revB b s ns f l = true then [(true, [(f : Int), (l : Int)])] else []
def exM (b : Bld) (s : Int) (ns : List Int) (f l : Nat) (qs : List (Nat × Nat)) : List Mv := (qs.filter fun q => decide (l ≤ q.1) && exB b s ns f l q.1 q.2).map fun q => (false, [(f : Int), (l : Int), (q.1 : Int), (q.2 : Int)])
theorem rvE_fst (b : Bld) (s : Int) (ns : List Int) (f l : Nat) : (rvE b s ns f l).map (·.1) = rvM b s ns f l := by
  unfold rvE rvM
  split <;> rfl
theorem exL_fst (b : Bld) (s : Int) (ns : List Int) (m f l : Nat) : (exL b s ns m f l).map (·.1) = exM b s ns f l (prs m) := by
  unfold exL exM
  rw [List.map_map]
  rfl
theorem fnd_fst (b : Bld) (s : Int) (ns : List Int) : (fnd b s ns).map (·.1) = (prs (ns.length + 1)).flatMap fun p => rvM b s ns p.1 p.2 ++ exM b s ns p.1 p.2 (prs (ns.length + 1)) := by
  unfold fnd
  rw [List.map_flatMap]
  refine flat_congr fun p _ => ?_
  rw [List.map_append, rvE_fst, exL_fst]
theorem take_flat {α β : Type} (f : α → List β) {l : List α} {k : Nat} {x : α} (h : l[k]? = some x) : (l.take (k + 1)).flatMap f = (l.take k).flatMap f ++ f x := by
  rw [List.take_add_one, h, List.flatMap_append]
  simp
theorem exM_take (b : Bld) (s : Int) (ns : List Int) (f l : Nat) {qs : List (Nat × Nat)} {j : Nat} {q : Nat × Nat} (h : qs[j]? = some q) : exM b s ns f l (qs.take (j + 1)) = exM b s ns f l (qs.take j) ++ (if (decide (l ≤ q.1) && exB b s ns f l q.1 q.2) = true then [(false, [(f : Int), (l : Int), (q.1 : Int), (q.2 : Int)])] else []) := by
  unfold exM
  rw [List.take_add_one, h, List.filter_append, List.map_append]
  congr 1
  show List.map _ (List.filter _ [q]) = _
  rw [List.filter_cons]
  split <;> simp
theorem exM_len (b : Bld) (s : Int) (ns : List Int) (f l : Nat) (qs : List (Nat × Nat)) : (exM b s ns f l qs).length ≤ qs.length := by
  unfold exM
  rw [List.length_map]
  exact List.length_filter_le _ _
def moR (b : Bld) (s : Int) (ns : List Int) (os : List Mv) (o6 o7 o8 o9 : Option (Fl × D)) : Rho := [some (.bor, b.d), some (.bor, wkD s ns), some (.bor, iL (rmW b s ns)), some (.dat, .list ((List.range (ns.length + 1)).map nI)), some (.dat, .list ((prs (ns.length + 1)).map prD)), some (.own, .list (os.map mvD)), o6, o7, o8, o9]
def MovesF (G : Gb) (c : Nat) : Prop := ∀ (b : Bld) (s e : Int) (ns : List Int), b.ok → b.path s ns = some e → ns.length ≤ 10 → G.phi c [b.d, wkD s ns, iL (rmW b s ns)] = some (.ok (.list ((sortM ((fnd b s ns).map (·.1))).map mvD)))
theorem moves_sem (G : Gb) (c : Nat) (k1 : MayR G c) (b : Bld) (hb : b.ok) (s e : Int) (ns : List Int) (hp : b.path s ns = some e) (hl : ns.length ≤ 10) (fuel : Nat) : runF G fuel true (b_moves_of c) 10 [b.d, wkD s ns, iL (rmW b s ns)] = some (.ok (.list ((sortM ((fnd b s ns).map (·.1))).map mvD))) := by
  refine run_wp [some (.bor, b.d), some (.bor, wkD s ns), some (.bor, iL (rmW b s ns)), none, none, none, none, none, none, none] rfl ?_
  unfold b_moves_of
  have hrl : (rmW b s ns).length = ns.length + 1 := rmW_len hp
  have hlr : lrngD (.int ((ns.length + 1 : Nat) : Int)) = some (.list ((List.range (ns.length + 1)).map nI)) := by
    show (if rngOk 0 ((ns.length + 1 : Nat) : Int) = true then some (PyData.list (rngL 0 ((ns.length + 1 : Nat) : Int))) else none) = _
    rw [if_pos (rng_ok (by omega) (by omega) (by omega) (by omega) (by omega)), rng_map]
    rfl
  have hpl := prs_len (m := ns.length + 1) (by omega)
  refine wp_step [some (.bor, b.d), some (.bor, wkD s ns), some (.bor, iL (rmW b s ns)), some (.dat, .list ((List.range (ns.length + 1)).map nI)), none, none, none, none, none, none] (by simp -implicitDefEqProofs only [execSs, execS, seqS, thenS, retS, retNS, retV, mutL, mutD, keepX, ixD2, inD2, itemsOf, seqOf, zipI, enumI, cntV, popK, takeOff, extK, dputS, dct1, dkey, dinD, parK, bindX, ioV, nxK, retIO, callT, newA, evalT, evalX, evalZ, keepB, isDict, Bool.true_or, Bool.or_true, Bool.false_or, Bool.or_false, Bool.true_and, Bool.and_true, Bool.false_and, Bool.and_false, datK, ownK, tgK, appK, evalE, evalK, evalA, evalAnd, evalOr, evalO, evalF, evalI, evalC, keep, keepV, slotVal, lift1, lift2, liftA, consA, callF, notV, andT, orT, ifV, tstB, DD.ifS, DD.forS, compV, seqI, rngI, E.src, sem2, semC, semB, Ty.nm, Cst.d, boolRes, truth_bool, truth_none, truth_int, truth_list, truth_tuple, isi_int, isi_bool, isi_tuple, isi_list, isi_str, addD, subD, mul_int, fdiv_int, mod_int, ltD, leD, gtD, geD, lenD, isNone, negD, tg_one, tg_many, tgs_nil, tgs_cons, flatRoot, okSize, List.getElem?_cons_zero, List.getElem?_cons_succ, List.set_cons_zero, List.set_cons_succ, List.length_cons, List.length_nil, Option.map_some, Option.map_none, Nat.zero_add, if_true, if_false, Bool.not_true, Bool.not_false, reduceCtorEq, or_true, true_or, or_false, false_or, Nat.reduceAdd, Nat.reduceLeDiff, decide_true, decide_false, Bool.false_eq_true, iL, List.length_map, hrl, hlr]) ?_
  refine wp_step [some (.bor, b.d), some (.bor, wkD s ns), some (.bor, iL (rmW b s ns)), some (.dat, .list ((List.range (ns.length + 1)).map nI)), some (.dat, .list ((prs (ns.length + 1)).map prD)), none, none, none, none, none] ?_ ?_
  · have hz : ((prs (ns.length + 1)).length ≤ 4096) = True := eq_true (by omega)
    simp -implicitDefEqProofs only [execSs, execS, seqS, thenS, retS, retNS, retV, mutL, mutD, keepX, ixD2, inD2, itemsOf, seqOf, zipI, enumI, cntV, popK, takeOff, extK, dputS, dct1, dkey, dinD, parK, bindX, ioV, nxK, retIO, callT, newA, evalT, evalX, evalZ, keepB, isDict, Bool.true_or, Bool.or_true, Bool.false_or, Bool.or_false, Bool.true_and, Bool.and_true, Bool.false_and, Bool.and_false, datK, ownK, tgK, appK, evalE, evalK, evalA, evalAnd, evalOr, evalO, evalF, evalI, evalC, keep, keepV, slotVal, lift1, lift2, liftA, consA, callF, notV, andT, orT, ifV, tstB, DD.ifS, DD.forS, compV, seqI, rngI, E.src, sem2, semC, semB, Ty.nm, Cst.d, boolRes, truth_bool, truth_none, truth_int, truth_list, truth_tuple, isi_int, isi_bool, isi_tuple, isi_list, isi_str, addD, subD, mul_int, fdiv_int, mod_int, ltD, leD, gtD, geD, lenD, isNone, negD, tg_one, tg_many, tgs_nil, tgs_cons, flatRoot, okSize, List.getElem?_cons_zero, List.getElem?_cons_succ, List.set_cons_zero, List.set_cons_succ, List.length_cons, List.length_nil, Option.map_some, Option.map_none, Nat.zero_add, if_true, if_false, Bool.not_true, Bool.not_false, reduceCtorEq, or_true, true_or, or_false, false_or, Nat.reduceAdd, Nat.reduceLeDiff, decide_true, decide_false, Bool.false_eq_true, wipeR, List.map_cons, List.map_nil, compV2, Tg.slots]
    rw [comp2_map nI (fun f => ((List.range (ns.length + 1)).filter fun l => decide (f < l)).map fun l => prD (f, l)), prs_data]
    · simp -implicitDefEqProofs only [execSs, execS, seqS, thenS, retS, retNS, retV, mutL, mutD, keepX, ixD2, inD2, itemsOf, seqOf, zipI, enumI, cntV, popK, takeOff, extK, dputS, dct1, dkey, dinD, parK, bindX, ioV, nxK, retIO, callT, newA, evalT, evalX, evalZ, keepB, isDict, Bool.true_or, Bool.or_true, Bool.false_or, Bool.or_false, Bool.true_and, Bool.and_true, Bool.false_and, Bool.and_false, datK, ownK, tgK, appK, evalE, evalK, evalA, evalAnd, evalOr, evalO, evalF, evalI, evalC, keep, keepV, slotVal, lift1, lift2, liftA, consA, callF, notV, andT, orT, ifV, tstB, DD.ifS, DD.forS, compV, seqI, rngI, E.src, sem2, semC, semB, Ty.nm, Cst.d, boolRes, truth_bool, truth_none, truth_int, truth_list, truth_tuple, isi_int, isi_bool, isi_tuple, isi_list, isi_str, addD, subD, mul_int, fdiv_int, mod_int, ltD, leD, gtD, geD, lenD, isNone, negD, tg_one, tg_many, tgs_nil, tgs_cons, flatRoot, okSize, List.getElem?_cons_zero, List.getElem?_cons_succ, List.set_cons_zero, List.set_cons_succ, List.length_cons, List.length_nil, Option.map_some, Option.map_none, Nat.zero_add, if_true, if_false, Bool.not_true, Bool.not_false, reduceCtorEq, or_true, true_or, or_false, false_or, Nat.reduceAdd, Nat.reduceLeDiff, decide_true, decide_false, Bool.false_eq_true, List.length_map, hz]
    · intro f hf
      refine ⟨_, rfl, rfl, rfl, _, rfl, ?_⟩
      simp -implicitDefEqProofs only [execSs, execS, seqS, thenS, retS, retNS, retV, mutL, mutD, keepX, ixD2, inD2, itemsOf, seqOf, zipI, enumI, cntV, popK, takeOff, extK, dputS, dct1, dkey, dinD, parK, bindX, ioV, nxK, retIO, callT, newA, evalT, evalX, evalZ, keepB, isDict, Bool.true_or, Bool.or_true, Bool.false_or, Bool.or_false, Bool.true_and, Bool.and_true, Bool.false_and, Bool.and_false, datK, ownK, tgK, appK, evalE, evalK, evalA, evalAnd, evalOr, evalO, evalF, evalI, evalC, keep, keepV, slotVal, lift1, lift2, liftA, consA, callF, notV, andT, orT, ifV, tstB, DD.ifS, DD.forS, compV, seqI, rngI, E.src, sem2, semC, semB, Ty.nm, Cst.d, boolRes, truth_bool, truth_none, truth_int, truth_list, truth_tuple, isi_int, isi_bool, isi_tuple, isi_list, isi_str, addD, subD, mul_int, fdiv_int, mod_int, ltD, leD, gtD, geD, lenD, isNone, negD, tg_one, tg_many, tgs_nil, tgs_cons, flatRoot, okSize, List.getElem?_cons_zero, List.getElem?_cons_succ, List.set_cons_zero, List.set_cons_succ, List.length_cons, List.length_nil, Option.map_some, Option.map_none, Nat.zero_add, if_true, if_false, Bool.not_true, Bool.not_false, reduceCtorEq, or_true, true_or, or_false, false_or, Nat.reduceAdd, Nat.reduceLeDiff, decide_true, decide_false, Bool.false_eq_true, wipeR, List.map_cons, List.map_nil, nI]
      rw [comp_map nI (fun l => decide (f < l)) (fun l => prD (f, l))]
      intro l hlm
      have hc : ((f : Int) < (l : Int)) = (f < l) := by apply propext; omega
      refine ⟨_, rfl, ?_, fun _ => ?_⟩
      · simp -implicitDefEqProofs only [execSs, execS, seqS, thenS, retS, retNS, retV, mutL, mutD, keepX, ixD2, inD2, itemsOf, seqOf, zipI, enumI, cntV, popK, takeOff, extK, dputS, dct1, dkey, dinD, parK, bindX, ioV, nxK, retIO, callT, newA, evalT, evalX, evalZ, keepB, isDict, Bool.true_or, Bool.or_true, Bool.false_or, Bool.or_false, Bool.true_and, Bool.and_true, Bool.false_and, Bool.and_false, datK, ownK, tgK, appK, evalE, evalK, evalA, evalAnd, evalOr, evalO, evalF, evalI, evalC, keep, keepV, slotVal, lift1, lift2, liftA, consA, callF, notV, andT, orT, ifV, tstB, DD.ifS, DD.forS, compV, seqI, rngI, E.src, sem2, semC, semB, Ty.nm, Cst.d, boolRes, truth_bool, truth_none, truth_int, truth_list, truth_tuple, isi_int, isi_bool, isi_tuple, isi_list, isi_str, addD, subD, mul_int, fdiv_int, mod_int, ltD, leD, gtD, geD, lenD, isNone, negD, tg_one, tg_many, tgs_nil, tgs_cons, flatRoot, okSize, List.getElem?_cons_zero, List.getElem?_cons_succ, List.set_cons_zero, List.set_cons_succ, List.length_cons, List.length_nil, Option.map_some, Option.map_none, Nat.zero_add, if_true, if_false, Bool.not_true, Bool.not_false, reduceCtorEq, or_true, true_or, or_false, false_or, Nat.reduceAdd, Nat.reduceLeDiff, decide_true, decide_false, Bool.false_eq_true, nI, hc]
      · simp -implicitDefEqProofs only [execSs, execS, seqS, thenS, retS, retNS, retV, mutL, mutD, keepX, ixD2, inD2, itemsOf, seqOf, zipI, enumI, cntV, popK, takeOff, extK, dputS, dct1, dkey, dinD, parK, bindX, ioV, nxK, retIO, callT, newA, evalT, evalX, evalZ, keepB, isDict, Bool.true_or, Bool.or_true, Bool.false_or, Bool.or_false, Bool.true_and, Bool.and_true, Bool.false_and, Bool.and_false, datK, ownK, tgK, appK, evalE, evalK, evalA, evalAnd, evalOr, evalO, evalF, evalI, evalC, keep, keepV, slotVal, lift1, lift2, liftA, consA, callF, notV, andT, orT, ifV, tstB, DD.ifS, DD.forS, compV, seqI, rngI, E.src, sem2, semC, semB, Ty.nm, Cst.d, boolRes, truth_bool, truth_none, truth_int, truth_list, truth_tuple, isi_int, isi_bool, isi_tuple, isi_list, isi_str, addD, subD, mul_int, fdiv_int, mod_int, ltD, leD, gtD, geD, lenD, isNone, negD, tg_one, tg_many, tgs_nil, tgs_cons, flatRoot, okSize, List.getElem?_cons_zero, List.getElem?_cons_succ, List.set_cons_zero, List.set_cons_succ, List.length_cons, List.length_nil, Option.map_some, Option.map_none, Nat.zero_add, if_true, if_false, Bool.not_true, Bool.not_false, reduceCtorEq, or_true, true_or, or_false, false_or, Nat.reduceAdd, Nat.reduceLeDiff, decide_true, decide_false, Bool.false_eq_true, nI, prD]
  refine wp_step (moR b s ns [] none none none none) (by simp -implicitDefEqProofs only [execSs, execS, seqS, thenS, retS, retNS, retV, mutL, mutD, keepX, ixD2, inD2, itemsOf, seqOf, zipI, enumI, cntV, popK, takeOff, extK, dputS, dct1, dkey, dinD, parK, bindX, ioV, nxK, retIO, callT, newA, evalT, evalX, evalZ, keepB, isDict, Bool.true_or, Bool.or_true, Bool.false_or, Bool.or_false, Bool.true_and, Bool.and_true, Bool.false_and, Bool.and_false, datK, ownK, tgK, appK, evalE, evalK, evalA, evalAnd, evalOr, evalO, evalF, evalI, evalC, keep, keepV, slotVal, lift1, lift2, liftA, consA, callF, notV, andT, orT, ifV, tstB, DD.ifS, DD.forS, compV, seqI, rngI, E.src, sem2, semC, semB, Ty.nm, Cst.d, boolRes, truth_bool, truth_none, truth_int, truth_list, truth_tuple, isi_int, isi_bool, isi_tuple, isi_list, isi_str, addD, subD, mul_int, fdiv_int, mod_int, ltD, leD, gtD, geD, lenD, isNone, negD, tg_one, tg_many, tgs_nil, tgs_cons, flatRoot, okSize, List.getElem?_cons_zero, List.getElem?_cons_succ, List.set_cons_zero, List.set_cons_succ, List.length_cons, List.length_nil, Option.map_some, Option.map_none, Nat.zero_add, if_true, if_false, Bool.not_true, Bool.not_false, reduceCtorEq, or_true, true_or, or_false, false_or, Nat.reduceAdd, Nat.reduceLeDiff, decide_true, decide_false, Bool.false_eq_true, moR, List.map_nil]) ?_
  refine wp_cons ?_
  refine wp_forS prD (fun k ρ => ∃ o6 o7 o8 o9, ρ = moR b s ns (((prs (ns.length + 1)).take k).flatMap fun p => rvM b s ns p.1 p.2 ++ exM b s ns p.1 p.2 (prs (ns.length + 1))) o6 o7 o8 o9 ∧ (((prs (ns.length + 1)).take k).flatMap fun p => rvM b s ns p.1 p.2 ++ exM b s ns p.1 p.2 (prs (ns.length + 1))).length ≤ k * 122) (prs (ns.length + 1)) (by simp -implicitDefEqProofs only [execSs, execS, seqS, thenS, retS, retNS, retV, mutL, mutD, keepX, ixD2, inD2, itemsOf, seqOf, zipI, enumI, cntV, popK, takeOff, extK, dputS, dct1, dkey, dinD, parK, bindX, ioV, nxK, retIO, callT, newA, evalT, evalX, evalZ, keepB, isDict, Bool.true_or, Bool.or_true, Bool.false_or, Bool.or_false, Bool.true_and, Bool.and_true, Bool.false_and, Bool.and_false, datK, ownK, tgK, appK, evalE, evalK, evalA, evalAnd, evalOr, evalO, evalF, evalI, evalC, keep, keepV, slotVal, lift1, lift2, liftA, consA, callF, notV, andT, orT, ifV, tstB, DD.ifS, DD.forS, compV, seqI, rngI, E.src, sem2, semC, semB, Ty.nm, Cst.d, boolRes, truth_bool, truth_none, truth_int, truth_list, truth_tuple, isi_int, isi_bool, isi_tuple, isi_list, isi_str, addD, subD, mul_int, fdiv_int, mod_int, ltD, leD, gtD, geD, lenD, isNone, negD, tg_one, tg_many, tgs_nil, tgs_cons, flatRoot, okSize, List.getElem?_cons_zero, List.getElem?_cons_succ, List.set_cons_zero, List.set_cons_succ, List.length_cons, List.length_nil, Option.map_some, Option.map_none, Nat.zero_add, if_true, if_false, Bool.not_true, Bool.not_false, reduceCtorEq, or_true, true_or, or_false, false_or, Nat.reduceAdd, Nat.reduceLeDiff, decide_true, decide_false, Bool.false_eq_true, moR]) ⟨none, none, none, none, rfl, by simp⟩ ?_ ?_
  · rintro k ⟨f, l⟩ ρ hk ⟨o6, o7, o8, o9, rfl, hlen⟩
    have hmem := mem_prs.mp (List.mem_of_getElem? hk)
    dsimp only at hmem
    have hkl : k < 121 := by
      have := (List.getElem?_eq_some_iff.mp hk).1
      omega
    rw [take_flat _ hk]
    generalize ((prs (ns.length + 1)).take k).flatMap (fun p => rvM b s ns p.1 p.2 ++ exM b s ns p.1 p.2 (prs (ns.length + 1))) = os at hlen ⊢
    refine ⟨moR b s ns os (some (.dat, .int (f : Int))) (some (.dat, .int (l : Int))) o8 o9, by simp -implicitDefEqProofs only [execSs, execS, seqS, thenS, retS, retNS, retV, mutL, mutD, keepX, ixD2, inD2, itemsOf, seqOf, zipI, enumI, cntV, popK, takeOff, extK, dputS, dct1, dkey, dinD, parK, bindX, ioV, nxK, retIO, callT, newA, evalT, evalX, evalZ, keepB, isDict, Bool.true_or, Bool.or_true, Bool.false_or, Bool.or_false, Bool.true_and, Bool.and_true, Bool.false_and, Bool.and_false, datK, ownK, tgK, appK, evalE, evalK, evalA, evalAnd, evalOr, evalO, evalF, evalI, evalC, keep, keepV, slotVal, lift1, lift2, liftA, consA, callF, notV, andT, orT, ifV, tstB, DD.ifS, DD.forS, compV, seqI, rngI, E.src, sem2, semC, semB, Ty.nm, Cst.d, boolRes, truth_bool, truth_none, truth_int, truth_list, truth_tuple, isi_int, isi_bool, isi_tuple, isi_list, isi_str, addD, subD, mul_int, fdiv_int, mod_int, ltD, leD, gtD, geD, lenD, isNone, negD, tg_one, tg_many, tgs_nil, tgs_cons, flatRoot, okSize, List.getElem?_cons_zero, List.getElem?_cons_succ, List.set_cons_zero, List.set_cons_succ, List.length_cons, List.length_nil, Option.map_some, Option.map_none, Nat.zero_add, if_true, if_false, Bool.not_true, Bool.not_false, reduceCtorEq, or_true, true_or, or_false, false_or, Nat.reduceAdd, Nat.reduceLeDiff, decide_true, decide_false, Bool.false_eq_true, moR, prD], ?_⟩
    have gr := k1 b s e ns f l hb hp (by omega) (by omega)
    rw [decide_eq_true hmem.1, Bool.true_and] at gr
    have inner : ∀ os1 : List Mv, os1.length ≤ k * 122 + 1 → os1 = os ++ rvM b s ns f l → WP (execSs G fuel ⟨true, none⟩ (.cons (.forS (.many (.cons (.one 8) (.cons (.one 9) .nil))) (.seq (.var 4)) (.cons (.ifS (.and (.cons (.cmp .le (.var 7) (.var 8)) (.cons (.cmp .eq (.idx (.var 2) (.var 6)) (.idx (.var 2) (.var 8))) (.cons (.cmp .eq (.idx (.var 2) (.var 7)) (.idx (.var 2) (.var 9))) .nil)))) (.cons (.app 5 (.tup (.cons (.cst (.str "exchange")) (.cons (.var 6) (.cons (.var 7) (.cons (.var 8) (.cons (.var 9) .nil))))))) .nil) .nil) .nil)) .nil) (moR b s ns os1 (some (.dat, .int (f : Int))) (some (.dat, .int (l : Int))) o8 o9)) (fun ρ => ∃ o6 o7 o8 o9, ρ = moR b s ns (os ++ (rvM b s ns f l ++ exM b s ns f l (prs (ns.length + 1)))) o6 o7 o8 o9 ∧ (os ++ (rvM b s ns f l ++ exM b s ns f l (prs (ns.length + 1)))).length ≤ (k + 1) * 122) (fun d => d = .list ((sortM ((fnd b s ns).map (·.1))).map mvD)) (fun _ => False) := by
      intro os1 hos1 eos1
      refine wp_cons ?_
      refine wp_forS prD (fun j ρ => ∃ o8 o9, ρ = moR b s ns (os1 ++ exM b s ns f l ((prs (ns.length + 1)).take j)) (some (.dat, .int (f : Int))) (some (.dat, .int (l : Int))) o8 o9) (prs (ns.length + 1)) (by simp -implicitDefEqProofs only [execSs, execS, seqS, thenS, retS, retNS, retV, mutL, mutD, keepX, ixD2, inD2, itemsOf, seqOf, zipI, enumI, cntV, popK, takeOff, extK, dputS, dct1, dkey, dinD, parK, bindX, ioV, nxK, retIO, callT, newA, evalT, evalX, evalZ, keepB, isDict, Bool.true_or, Bool.or_true, Bool.false_or, Bool.or_false, Bool.true_and, Bool.and_true, Bool.false_and, Bool.and_false, datK, ownK, tgK, appK, evalE, evalK, evalA, evalAnd, evalOr, evalO, evalF, evalI, evalC, keep, keepV, slotVal, lift1, lift2, liftA, consA, callF, notV, andT, orT, ifV, tstB, DD.ifS, DD.forS, compV, seqI, rngI, E.src, sem2, semC, semB, Ty.nm, Cst.d, boolRes, truth_bool, truth_none, truth_int, truth_list, truth_tuple, isi_int, isi_bool, isi_tuple, isi_list, isi_str, addD, subD, mul_int, fdiv_int, mod_int, ltD, leD, gtD, geD, lenD, isNone, negD, tg_one, tg_many, tgs_nil, tgs_cons, flatRoot, okSize, List.getElem?_cons_zero, List.getElem?_cons_succ, List.set_cons_zero, List.set_cons_succ, List.length_cons, List.length_nil, Option.map_some, Option.map_none, Nat.zero_add, if_true, if_false, Bool.not_true, Bool.not_false, reduceCtorEq, or_true, true_or, or_false, false_or, Nat.reduceAdd, Nat.reduceLeDiff, decide_true, decide_false, Bool.false_eq_true, moR]) ⟨o8, o9, by simp [exM]⟩ ?_ ?_
      · rintro j ⟨o, q⟩ ρ hj ⟨p8, p9, rfl⟩
        have hm2 := mem_prs.mp (List.mem_of_getElem? hj)
        dsimp only at hm2
        refine ⟨moR b s ns (os1 ++ exM b s ns f l ((prs (ns.length + 1)).take j)) (some (.dat, .int (f : Int))) (some (.dat, .int (l : Int))) (some (.dat, .int (o : Int))) (some (.dat, .int (q : Int))), by simp -implicitDefEqProofs only [execSs, execS, seqS, thenS, retS, retNS, retV, mutL, mutD, keepX, ixD2, inD2, itemsOf, seqOf, zipI, enumI, cntV, popK, takeOff, extK, dputS, dct1, dkey, dinD, parK, bindX, ioV, nxK, retIO, callT, newA, evalT, evalX, evalZ, keepB, isDict, Bool.true_or, Bool.or_true, Bool.false_or, Bool.or_false, Bool.true_and, Bool.and_true, Bool.false_and, Bool.and_false, datK, ownK, tgK, appK, evalE, evalK, evalA, evalAnd, evalOr, evalO, evalF, evalI, evalC, keep, keepV, slotVal, lift1, lift2, liftA, consA, callF, notV, andT, orT, ifV, tstB, DD.ifS, DD.forS, compV, seqI, rngI, E.src, sem2, semC, semB, Ty.nm, Cst.d, boolRes, truth_bool, truth_none, truth_int, truth_list, truth_tuple, isi_int, isi_bool, isi_tuple, isi_list, isi_str, addD, subD, mul_int, fdiv_int, mod_int, ltD, leD, gtD, geD, lenD, isNone, negD, tg_one, tg_many, tgs_nil, tgs_cons, flatRoot, okSize, List.getElem?_cons_zero, List.getElem?_cons_succ, List.set_cons_zero, List.set_cons_succ, List.length_cons, List.length_nil, Option.map_some, Option.map_none, Nat.zero_add, if_true, if_false, Bool.not_true, Bool.not_false, reduceCtorEq, or_true, true_or, or_false, false_or, Nat.reduceAdd, Nat.reduceLeDiff, decide_true, decide_false, Bool.false_eq_true, moR, prD], ?_⟩
        rw [exM_take b s ns f l hj]
        have hel := exM_len b s ns f l ((prs (ns.length + 1)).take j)
        rw [List.length_take] at hel
        generalize exM b s ns f l ((prs (ns.length + 1)).take j) = es at hel ⊢
        have a1 := at_rm hp (f := f) (by omega)
        have a2 := at_rm hp (f := l) (by omega)
        have a3 := at_rm hp (f := o) (by omega)
        have a4 := at_rm hp (f := q) (by omega)
        have hc : ((l : Int) ≤ (o : Int)) = (l ≤ o) := by apply propext; omega
        dsimp only
        refine wp_cons (wp_if (decide (l ≤ o) && exB b s ns f l o q) ?_ (fun hv => ?_) (fun hv => wp_nil (wp_nil ?_)))
        · unfold exB
          by_cases q1 : l ≤ o
          · have q1' := eq_true q1
            by_cases q2 : rmAt b s ns f = rmAt b s ns o
            · have q2' := eq_true q2
              simp -implicitDefEqProofs only [execSs, execS, seqS, thenS, retS, retNS, retV, mutL, mutD, keepX, ixD2, inD2, itemsOf, seqOf, zipI, enumI, cntV, popK, takeOff, extK, dputS, dct1, dkey, dinD, parK, bindX, ioV, nxK, retIO, callT, newA, evalT, evalX, evalZ, keepB, isDict, Bool.true_or, Bool.or_true, Bool.false_or, Bool.or_false, Bool.true_and, Bool.and_true, Bool.false_and, Bool.and_false, datK, ownK, tgK, appK, evalE, evalK, evalA, evalAnd, evalOr, evalO, evalF, evalI, evalC, keep, keepV, slotVal, lift1, lift2, liftA, consA, callF, notV, andT, orT, ifV, tstB, DD.ifS, DD.forS, compV, seqI, rngI, E.src, sem2, semC, semB, Ty.nm, Cst.d, boolRes, truth_bool, truth_none, truth_int, truth_list, truth_tuple, isi_int, isi_bool, isi_tuple, isi_list, isi_str, addD, subD, mul_int, fdiv_int, mod_int, ltD, leD, gtD, geD, lenD, isNone, negD, tg_one, tg_many, tgs_nil, tgs_cons, flatRoot, okSize, List.getElem?_cons_zero, List.getElem?_cons_succ, List.set_cons_zero, List.set_cons_succ, List.length_cons, List.length_nil, Option.map_some, Option.map_none, Nat.zero_add, if_true, if_false, Bool.not_true, Bool.not_false, reduceCtorEq, or_true, true_or, or_false, false_or, Nat.reduceAdd, Nat.reduceLeDiff, decide_true, decide_false, Bool.false_eq_true, moR, iL, hc, q1', ixD, a1, a2, a3, a4, eq_int, q2']
            · have q2' := eq_false q2
              simp -implicitDefEqProofs only [execSs, execS, seqS, thenS, retS, retNS, retV, mutL, mutD, keepX, ixD2, inD2, itemsOf, seqOf, zipI, enumI, cntV, popK, takeOff, extK, dputS, dct1, dkey, dinD, parK, bindX, ioV, nxK, retIO, callT, newA, evalT, evalX, evalZ, keepB, isDict, Bool.true_or, Bool.or_true, Bool.false_or, Bool.or_false, Bool.true_and, Bool.and_true, Bool.false_and, Bool.and_false, datK, ownK, tgK, appK, evalE, evalK, evalA, evalAnd, evalOr, evalO, evalF, evalI, evalC, keep, keepV, slotVal, lift1, lift2, liftA, consA, callF, notV, andT, orT, ifV, tstB, DD.ifS, DD.forS, compV, seqI, rngI, E.src, sem2, semC, semB, Ty.nm, Cst.d, boolRes, truth_bool, truth_none, truth_int, truth_list, truth_tuple, isi_int, isi_bool, isi_tuple, isi_list, isi_str, addD, subD, mul_int, fdiv_int, mod_int, ltD, leD, gtD, geD, lenD, isNone, negD, tg_one, tg_many, tgs_nil, tgs_cons, flatRoot, okSize, List.getElem?_cons_zero, List.getElem?_cons_succ, List.set_cons_zero, List.set_cons_succ, List.length_cons, List.length_nil, Option.map_some, Option.map_none, Nat.zero_add, if_true, if_false, Bool.not_true, Bool.not_false, reduceCtorEq, or_true, true_or, or_false, false_or, Nat.reduceAdd, Nat.reduceLeDiff, decide_true, decide_false, Bool.false_eq_true, moR, iL, hc, q1', ixD, a1, a2, a3, a4, eq_int, q2']
          · have q1' := eq_false q1
            simp -implicitDefEqProofs only [execSs, execS, seqS, thenS, retS, retNS, retV, mutL, mutD, keepX, ixD2, inD2, itemsOf, seqOf, zipI, enumI, cntV, popK, takeOff, extK, dputS, dct1, dkey, dinD, parK, bindX, ioV, nxK, retIO, callT, newA, evalT, evalX, evalZ, keepB, isDict, Bool.true_or, Bool.or_true, Bool.false_or, Bool.or_false, Bool.true_and, Bool.and_true, Bool.false_and, Bool.and_false, datK, ownK, tgK, appK, evalE, evalK, evalA, evalAnd, evalOr, evalO, evalF, evalI, evalC, keep, keepV, slotVal, lift1, lift2, liftA, consA, callF, notV, andT, orT, ifV, tstB, DD.ifS, DD.forS, compV, seqI, rngI, E.src, sem2, semC, semB, Ty.nm, Cst.d, boolRes, truth_bool, truth_none, truth_int, truth_list, truth_tuple, isi_int, isi_bool, isi_tuple, isi_list, isi_str, addD, subD, mul_int, fdiv_int, mod_int, ltD, leD, gtD, geD, lenD, isNone, negD, tg_one, tg_many, tgs_nil, tgs_cons, flatRoot, okSize, List.getElem?_cons_zero, List.getElem?_cons_succ, List.set_cons_zero, List.set_cons_succ, List.length_cons, List.length_nil, Option.map_some, Option.map_none, Nat.zero_add, if_true, if_false, Bool.not_true, Bool.not_false, reduceCtorEq, or_true, true_or, or_false, false_or, Nat.reduceAdd, Nat.reduceLeDiff, decide_true, decide_false, Bool.false_eq_true, moR, iL, hc, q1']
        · rw [if_pos hv]
          have hz : (os1.length + es.length < 16777216) = True := eq_true (by omega)
          refine wp_step (moR b s ns ((os1 ++ es) ++ [(false, [(f : Int), (l : Int), (o : Int), (q : Int)])]) (some (.dat, .int (f : Int))) (some (.dat, .int (l : Int))) (some (.dat, .int (o : Int))) (some (.dat, .int (q : Int)))) ?_ (wp_nil (wp_nil ⟨_, _, by rw [List.append_assoc]⟩))
          simp -implicitDefEqProofs only [execSs, execS, seqS, thenS, retS, retNS, retV, mutL, mutD, keepX, ixD2, inD2, itemsOf, seqOf, zipI, enumI, cntV, popK, takeOff, extK, dputS, dct1, dkey, dinD, parK, bindX, ioV, nxK, retIO, callT, newA, evalT, evalX, evalZ, keepB, isDict, Bool.true_or, Bool.or_true, Bool.false_or, Bool.or_false, Bool.true_and, Bool.and_true, Bool.false_and, Bool.and_false, datK, ownK, tgK, appK, evalE, evalK, evalA, evalAnd, evalOr, evalO, evalF, evalI, evalC, keep, keepV, slotVal, lift1, lift2, liftA, consA, callF, notV, andT, orT, ifV, tstB, DD.ifS, DD.forS, compV, seqI, rngI, E.src, sem2, semC, semB, Ty.nm, Cst.d, boolRes, truth_bool, truth_none, truth_int, truth_list, truth_tuple, isi_int, isi_bool, isi_tuple, isi_list, isi_str, addD, subD, mul_int, fdiv_int, mod_int, ltD, leD, gtD, geD, lenD, isNone, negD, tg_one, tg_many, tgs_nil, tgs_cons, flatRoot, okSize, List.getElem?_cons_zero, List.getElem?_cons_succ, List.set_cons_zero, List.set_cons_succ, List.length_cons, List.length_nil, Option.map_some, Option.map_none, Nat.zero_add, if_true, if_false, Bool.not_true, Bool.not_false, reduceCtorEq, or_true, true_or, or_false, false_or, Nat.reduceAdd, Nat.reduceLeDiff, decide_true, decide_false, Bool.false_eq_true, moR, List.length_map, List.length_append, hz, List.map_append, List.map_cons, List.map_nil]
          rfl
        · rw [if_neg (by rw [hv]; exact Bool.false_ne_true), List.append_nil]
          exact ⟨_, _, rfl⟩
      · rintro ρ ⟨p8, p9, rfl⟩
        rw [List.take_length]
        refine wp_nil ⟨_, _, p8, p9, by rw [eos1, List.append_assoc], ?_⟩
        have h1 := exM_len b s ns f l (prs (ns.length + 1))
        rw [← List.append_assoc, ← eos1, List.length_append]
        omega
    refine wp_cons (wp_if (revB b s ns f l) (by simp -implicitDefEqProofs only [execSs, execS, seqS, thenS, retS, retNS, retV, mutL, mutD, keepX, ixD2, inD2, itemsOf, seqOf, zipI, enumI, cntV, popK, takeOff, extK, dputS, dct1, dkey, dinD, parK, bindX, ioV, nxK, retIO, callT, newA, evalT, evalX, evalZ, keepB, isDict, Bool.true_or, Bool.or_true, Bool.false_or, Bool.or_false, Bool.true_and, Bool.and_true, Bool.false_and, Bool.and_false, datK, ownK, tgK, appK, evalE, evalK, evalA, evalAnd, evalOr, evalO, evalF, evalI, evalC, keep, keepV, slotVal, lift1, lift2, liftA, consA, callF, notV, andT, orT, ifV, tstB, DD.ifS, DD.forS, compV, seqI, rngI, E.src, sem2, semC, semB, Ty.nm, Cst.d, boolRes, truth_bool, truth_none, truth_int, truth_list, truth_tuple, isi_int, isi_bool, isi_tuple, isi_list, isi_str, addD, subD, mul_int, fdiv_int, mod_int, ltD, leD, gtD, geD, lenD, isNone, negD, tg_one, tg_many, tgs_nil, tgs_cons, flatRoot, okSize, List.getElem?_cons_zero, List.getElem?_cons_succ, List.set_cons_zero, List.set_cons_succ, List.length_cons, List.length_nil, Option.map_some, Option.map_none, Nat.zero_add, if_true, if_false, Bool.not_true, Bool.not_false, reduceCtorEq, or_true, true_or, or_false, false_or, Nat.reduceAdd, Nat.reduceLeDiff, decide_true, decide_false, Bool.false_eq_true, moR, gr]) (fun hv => ?_) (fun hv => wp_nil ?_))
    · have hz : (os.length < 16777216) = True := eq_true (by omega)
      refine wp_step (moR b s ns (os ++ [(true, [(f : Int), (l : Int)])]) (some (.dat, .int (f : Int))) (some (.dat, .int (l : Int))) o8 o9) ?_ (wp_nil (inner _ (by rw [List.length_append, List.length_singleton]; omega) (by unfold rvM; rw [if_pos hv])))
      simp -implicitDefEqProofs only [execSs, execS, seqS, thenS, retS, retNS, retV, mutL, mutD, keepX, ixD2, inD2, itemsOf, seqOf, zipI, enumI, cntV, popK, takeOff, extK, dputS, dct1, dkey, dinD, parK, bindX, ioV, nxK, retIO, callT, newA, evalT, evalX, evalZ, keepB, isDict, Bool.true_or, Bool.or_true, Bool.false_or, Bool.or_false, Bool.true_and, Bool.and_true, Bool.false_and, Bool.and_false, datK, ownK, tgK, appK, evalE, evalK, evalA, evalAnd, evalOr, evalO, evalF, evalI, evalC, keep, keepV, slotVal, lift1, lift2, liftA, consA, callF, notV, andT, orT, ifV, tstB, DD.ifS, DD.forS, compV, seqI, rngI, E.src, sem2, semC, semB, Ty.nm, Cst.d, boolRes, truth_bool, truth_none, truth_int, truth_list, truth_tuple, isi_int, isi_bool, isi_tuple, isi_list, isi_str, addD, subD, mul_int, fdiv_int, mod_int, ltD, leD, gtD, geD, lenD, isNone, negD, tg_one, tg_many, tgs_nil, tgs_cons, flatRoot, okSize, List.getElem?_cons_zero, List.getElem?_cons_succ, List.set_cons_zero, List.set_cons_succ, List.length_cons, List.length_nil, Option.map_some, Option.map_none, Nat.zero_add, if_true, if_false, Bool.not_true, Bool.not_false, reduceCtorEq, or_true, true_or, or_false, false_or, Nat.reduceAdd, Nat.reduceLeDiff, decide_true, decide_false, Bool.false_eq_true, moR, List.length_map, hz, List.map_append, List.map_cons, List.map_nil]
      rfl
    · exact inner os (by omega) (by unfold rvM; rw [if_neg (by rw [hv]; exact Bool.false_ne_true), List.append_nil])
  · rintro ρ ⟨o6, o7, o8, o9, rfl, hlen⟩
    rw [List.take_length, ← fnd_fst]
    have hs := sort_mv ((fnd b s ns).map (·.1))
    simp -implicitDefEqProofs only [execSs, execS, seqS, thenS, retS, retNS, retV, mutL, mutD, keepX, ixD2, inD2, itemsOf, seqOf, zipI, enumI, cntV, popK, takeOff, extK, dputS, dct1, dkey, dinD, parK, bindX, ioV, nxK, retIO, callT, newA, evalT, evalX, evalZ, keepB, isDict, Bool.true_or, Bool.or_true, Bool.false_or, Bool.or_false, Bool.true_and, Bool.and_true, Bool.false_and, Bool.and_false, datK, ownK, tgK, appK, evalE, evalK, evalA, evalAnd, evalOr, evalO, evalF, evalI, evalC, keep, keepV, slotVal, lift1, lift2, liftA, consA, callF, notV, andT, orT, ifV, tstB, DD.ifS, DD.forS, compV, seqI, rngI, E.src, sem2, semC, semB, Ty.nm, Cst.d, boolRes, truth_bool, truth_none, truth_int, truth_list, truth_tuple, isi_int, isi_bool, isi_tuple, isi_list, isi_str, addD, subD, mul_int, fdiv_int, mod_int, ltD, leD, gtD, geD, lenD, isNone, negD, tg_one, tg_many, tgs_nil, tgs_cons, flatRoot, okSize, List.getElem?_cons_zero, List.getElem?_cons_succ, List.set_cons_zero, List.set_cons_succ, List.length_cons, List.length_nil, Option.map_some, Option.map_none, Nat.zero_add, if_true, if_false, Bool.not_true, Bool.not_false, reduceCtorEq, or_true, true_or, or_false, false_or, Nat.reduceAdd, Nat.reduceLeDiff, decide_true, decide_false, Bool.false_eq_true, moR, hs]
    exact rfl
end
end DD

namespace DD
noncomputable section
open PySem PySem.Spec PyProof.Rows L2
/-! ### allowed, moved, moves -/
theorem inR_nat {k m : Nat} (h : k ≤ m) : inR (.int (k : Int)) 0 (m : Int) = true := by
  unfold inR
  simp
  omega
def AllowOk (G : Gb) (c : Nat) : Prop := ∀ (b : Bld) (s e : Int) (ns : List Int) (x : Mv × List Int), b.ok → b.path s ns = some e → MvOk b s ns x → G.phi c [b.d, wkD s ns, iL (rmW b s ns), mvD x.1] = some (.ok (.bool true))
theorem allow_sem (G : Gb) (ci c1 c2 : Nat) (hi : InOk G ci) (k1 : MayR G c1) (k2 : MayX G c2) (b : Bld) (hb : b.ok) (s e : Int) (ns : List Int) (hp : b.path s ns = some e) (x : Mv × List Int) (hx : MvOk b s ns x) (fuel : Nat) (nw : Bool) : runF G fuel nw (b_allowed ci c1 c2) 5 [b.d, wkD s ns, iL (rmW b s ns), mvD x.1] = some (.ok (.bool true)) := by
  refine run_ret [some (.bor, b.d), some (.bor, wkD s ns), some (.bor, iL (rmW b s ns)), some (.bor, mvD x.1), none] rfl ?_
  have hrl : (((rmW b s ns).length : Nat) : Int) - 1 = (ns.length : Int) := by rw [rmW_len hp]; push_cast; omega
  have side : ∀ (ks : List Nat), (∀ k ∈ ks, k ≤ ns.length) → ∀ k ∈ ks, G.phi ci [.int (k : Int), .int 0, .int (ns.length : Int)] = some (.ok (.bool true)) := by
    intro ks hks k hk
    have g := hi (nI k) 0 (ns.length : Int)
    unfold nI at g
    rw [inR_nat (hks k hk)] at g
    exact g
  cases hx with
  | rev h1 h2 h3 =>
    rename_i f l
    have g := k1 b s e ns f l hb hp (by omega) h2
    rw [decide_eq_true h1, h3] at g
    have g' : G.phi c1 [b.d, wkD s ns, iL (rmW b s ns), PyData.int (f : Int), PyData.int (l : Int)] = some (.ok (.bool true)) := g
    have sd := side [f, l] (by simp; omega)
    have ht : isTup (mvD (true, [(f : Int), (l : Int)])) = true := rfl
    have hc : slcD (mvD (true, [(f : Int), (l : Int)])) (some 1) none = some (.tuple ([f, l].map nI)) := cut_tail _ _
    have er := eq_rev true
    simp -implicitDefEqProofs only [b_allowed, execSs, execS, seqS, thenS, retS, retNS, retV, mutL, mutD, keepX, ixD2, inD2, itemsOf, seqOf, zipI, enumI, cntV, popK, takeOff, extK, dputS, dct1, dkey, dinD, parK, bindX, ioV, nxK, retIO, callT, newA, evalT, evalX, evalZ, keepB, isDict, Bool.true_or, Bool.or_true, Bool.false_or, Bool.or_false, Bool.true_and, Bool.and_true, Bool.false_and, Bool.and_false, datK, ownK, tgK, appK, evalE, evalK, evalA, evalAnd, evalOr, evalO, evalF, evalI, evalC, keep, keepV, slotVal, lift1, lift2, liftA, consA, callF, notV, andT, orT, ifV, tstB, DD.ifS, DD.forS, compV, seqI, rngI, E.src, sem2, semC, semB, Ty.nm, Cst.d, boolRes, truth_bool, truth_none, truth_int, truth_list, truth_tuple, isi_int, isi_bool, isi_tuple, isi_list, isi_str, addD, subD, mul_int, fdiv_int, mod_int, ltD, leD, gtD, geD, lenD, isNone, negD, tg_one, tg_many, tgs_nil, tgs_cons, flatRoot, okSize, List.getElem?_cons_zero, List.getElem?_cons_succ, List.set_cons_zero, List.set_cons_succ, List.length_cons, List.length_nil, Option.map_some, Option.map_none, Nat.zero_add, if_true, if_false, Bool.not_true, Bool.not_false, reduceCtorEq, or_true, true_or, or_false, false_or, Nat.reduceAdd, Nat.reduceLeDiff, decide_true, decide_false, Bool.false_eq_true, wipeR, List.map_cons, List.map_nil, ht, slcV, partV, hc]
    rw [show [nI f, nI l] = [f, l].map nI from rfl, comp_map nI (fun _ => false) nI]
    · have hm : mvD (true, [(f : Int), (l : Int)]) = .tuple [.str (mvS true), .int (f : Int), .int (l : Int)] := rfl
      have e0 : List.filter (fun _ => false) [f, l] = [] := by simp
      simp -implicitDefEqProofs only [execSs, execS, seqS, thenS, retS, retNS, retV, mutL, mutD, keepX, ixD2, inD2, itemsOf, seqOf, zipI, enumI, cntV, popK, takeOff, extK, dputS, dct1, dkey, dinD, parK, bindX, ioV, nxK, retIO, callT, newA, evalT, evalX, evalZ, keepB, isDict, Bool.true_or, Bool.or_true, Bool.false_or, Bool.or_false, Bool.true_and, Bool.and_true, Bool.false_and, Bool.and_false, datK, ownK, tgK, appK, evalE, evalK, evalA, evalAnd, evalOr, evalO, evalF, evalI, evalC, keep, keepV, slotVal, lift1, lift2, liftA, consA, callF, notV, andT, orT, ifV, tstB, DD.ifS, DD.forS, compV, seqI, rngI, E.src, sem2, semC, semB, Ty.nm, Cst.d, boolRes, truth_bool, truth_none, truth_int, truth_list, truth_tuple, isi_int, isi_bool, isi_tuple, isi_list, isi_str, addD, subD, mul_int, fdiv_int, mod_int, ltD, leD, gtD, geD, lenD, isNone, negD, tg_one, tg_many, tgs_nil, tgs_cons, flatRoot, okSize, List.getElem?_cons_zero, List.getElem?_cons_succ, List.set_cons_zero, List.set_cons_succ, List.length_cons, List.length_nil, Option.map_some, Option.map_none, Nat.zero_add, if_true, if_false, Bool.not_true, Bool.not_false, reduceCtorEq, or_true, true_or, or_false, false_or, Nat.reduceAdd, Nat.reduceLeDiff, decide_true, decide_false, Bool.false_eq_true, e0, List.map_nil, List.isEmpty_nil, hm, eq_int, ixD, at_c0, at_c1, at_c2, er, g']
      rfl
    · intro k hk
      refine ⟨_, rfl, ?_, fun z => nomatch z⟩
      have g := sd k hk
      simp -implicitDefEqProofs only [execSs, execS, seqS, thenS, retS, retNS, retV, mutL, mutD, keepX, ixD2, inD2, itemsOf, seqOf, zipI, enumI, cntV, popK, takeOff, extK, dputS, dct1, dkey, dinD, parK, bindX, ioV, nxK, retIO, callT, newA, evalT, evalX, evalZ, keepB, isDict, Bool.true_or, Bool.or_true, Bool.false_or, Bool.or_false, Bool.true_and, Bool.and_true, Bool.false_and, Bool.and_false, datK, ownK, tgK, appK, evalE, evalK, evalA, evalAnd, evalOr, evalO, evalF, evalI, evalC, keep, keepV, slotVal, lift1, lift2, liftA, consA, callF, notV, andT, orT, ifV, tstB, DD.ifS, DD.forS, compV, seqI, rngI, E.src, sem2, semC, semB, Ty.nm, Cst.d, boolRes, truth_bool, truth_none, truth_int, truth_list, truth_tuple, isi_int, isi_bool, isi_tuple, isi_list, isi_str, addD, subD, mul_int, fdiv_int, mod_int, ltD, leD, gtD, geD, lenD, isNone, negD, tg_one, tg_many, tgs_nil, tgs_cons, flatRoot, okSize, List.getElem?_cons_zero, List.getElem?_cons_succ, List.set_cons_zero, List.set_cons_succ, List.length_cons, List.length_nil, Option.map_some, Option.map_none, Nat.zero_add, if_true, if_false, Bool.not_true, Bool.not_false, reduceCtorEq, or_true, true_or, or_false, false_or, Nat.reduceAdd, Nat.reduceLeDiff, decide_true, decide_false, Bool.false_eq_true, nI, iL, List.length_map, hrl, g]
  | ex h1 h2 h3 h4 h5 =>
    rename_i f l o q
    have g := k2 b s e ns f l o q hp (by omega) (by omega) (by omega) h4
    rw [decide_eq_true h1, decide_eq_true h2, decide_eq_true h3, h5] at g
    have g' : G.phi c2 [iL (rmW b s ns), .tuple [nI f, nI l, nI o, nI q]] = some (.ok (.bool true)) := g
    have sd := side [f, l, o, q] (by simp; omega)
    have ht : isTup (mvD (exE ns f l o q).1) = true := rfl
    have hc : slcD (mvD (exE ns f l o q).1) (some 1) none = some (.tuple ([f, l, o, q].map nI)) := cut_tail _ _
    have er := eq_exc false
    have hn : lenD [mvD (exE ns f l o q).1] = some (.int 5) := rfl
    have hx0 : ixD (mvD (exE ns f l o q).1) (.int 0) = some (.str (mvS false)) := at_c0 _ _
    simp -implicitDefEqProofs only [b_allowed, execSs, execS, seqS, thenS, retS, retNS, retV, mutL, mutD, keepX, ixD2, inD2, itemsOf, seqOf, zipI, enumI, cntV, popK, takeOff, extK, dputS, dct1, dkey, dinD, parK, bindX, ioV, nxK, retIO, callT, newA, evalT, evalX, evalZ, keepB, isDict, Bool.true_or, Bool.or_true, Bool.false_or, Bool.or_false, Bool.true_and, Bool.and_true, Bool.false_and, Bool.and_false, datK, ownK, tgK, appK, evalE, evalK, evalA, evalAnd, evalOr, evalO, evalF, evalI, evalC, keep, keepV, slotVal, lift1, lift2, liftA, consA, callF, notV, andT, orT, ifV, tstB, DD.ifS, DD.forS, compV, seqI, rngI, E.src, sem2, semC, semB, Ty.nm, Cst.d, boolRes, truth_bool, truth_none, truth_int, truth_list, truth_tuple, isi_int, isi_bool, isi_tuple, isi_list, isi_str, addD, subD, mul_int, fdiv_int, mod_int, ltD, leD, gtD, geD, lenD, isNone, negD, tg_one, tg_many, tgs_nil, tgs_cons, flatRoot, okSize, List.getElem?_cons_zero, List.getElem?_cons_succ, List.set_cons_zero, List.set_cons_succ, List.length_cons, List.length_nil, Option.map_some, Option.map_none, Nat.zero_add, if_true, if_false, Bool.not_true, Bool.not_false, reduceCtorEq, or_true, true_or, or_false, false_or, Nat.reduceAdd, Nat.reduceLeDiff, decide_true, decide_false, Bool.false_eq_true, wipeR, List.map_cons, List.map_nil, ht, slcV, partV, hc]
    rw [show [nI f, nI l, nI o, nI q] = [f, l, o, q].map nI from rfl, comp_map nI (fun _ => false) nI]
    · have e0 : List.filter (fun _ => false) [f, l, o, q] = [] := by simp
      simp -implicitDefEqProofs only [execSs, execS, seqS, thenS, retS, retNS, retV, mutL, mutD, keepX, ixD2, inD2, itemsOf, seqOf, zipI, enumI, cntV, popK, takeOff, extK, dputS, dct1, dkey, dinD, parK, bindX, ioV, nxK, retIO, callT, newA, evalT, evalX, evalZ, keepB, isDict, Bool.true_or, Bool.or_true, Bool.false_or, Bool.or_false, Bool.true_and, Bool.and_true, Bool.false_and, Bool.and_false, datK, ownK, tgK, appK, evalE, evalK, evalA, evalAnd, evalOr, evalO, evalF, evalI, evalC, keep, keepV, slotVal, lift1, lift2, liftA, consA, callF, notV, andT, orT, ifV, tstB, DD.ifS, DD.forS, compV, seqI, rngI, E.src, sem2, semC, semB, Ty.nm, Cst.d, boolRes, truth_bool, truth_none, truth_int, truth_list, truth_tuple, isi_int, isi_bool, isi_tuple, isi_list, isi_str, addD, subD, mul_int, fdiv_int, mod_int, ltD, leD, gtD, geD, lenD, isNone, negD, tg_one, tg_many, tgs_nil, tgs_cons, flatRoot, okSize, List.getElem?_cons_zero, List.getElem?_cons_succ, List.set_cons_zero, List.set_cons_succ, List.length_cons, List.length_nil, Option.map_some, Option.map_none, Nat.zero_add, if_true, if_false, Bool.not_true, Bool.not_false, reduceCtorEq, or_true, true_or, or_false, false_or, Nat.reduceAdd, Nat.reduceLeDiff, decide_true, decide_false, Bool.false_eq_true, e0, List.map_nil, List.isEmpty_nil]
      have hm : mvD (exE ns f l o q).1 = .tuple [.str (mvS false), .int (f : Int), .int (l : Int), .int (o : Int), .int (q : Int)] := rfl
      have n3 : (((5 : Nat) : Int) = 3) = False := eq_false (by omega)
      have n5 : (((5 : Nat) : Int) = 5) = True := eq_true (by omega)
      rw [hm] at hc ⊢
      simp -implicitDefEqProofs only [execSs, execS, seqS, thenS, retS, retNS, retV, mutL, mutD, keepX, ixD2, inD2, itemsOf, seqOf, zipI, enumI, cntV, popK, takeOff, extK, dputS, dct1, dkey, dinD, parK, bindX, ioV, nxK, retIO, callT, newA, evalT, evalX, evalZ, keepB, isDict, Bool.true_or, Bool.or_true, Bool.false_or, Bool.or_false, Bool.true_and, Bool.and_true, Bool.false_and, Bool.and_false, datK, ownK, tgK, appK, evalE, evalK, evalA, evalAnd, evalOr, evalO, evalF, evalI, evalC, keep, keepV, slotVal, lift1, lift2, liftA, consA, callF, notV, andT, orT, ifV, tstB, DD.ifS, DD.forS, compV, seqI, rngI, E.src, sem2, semC, semB, Ty.nm, Cst.d, boolRes, truth_bool, truth_none, truth_int, truth_list, truth_tuple, isi_int, isi_bool, isi_tuple, isi_list, isi_str, addD, subD, mul_int, fdiv_int, mod_int, ltD, leD, gtD, geD, lenD, isNone, negD, tg_one, tg_many, tgs_nil, tgs_cons, flatRoot, okSize, List.getElem?_cons_zero, List.getElem?_cons_succ, List.set_cons_zero, List.set_cons_succ, List.length_cons, List.length_nil, Option.map_some, Option.map_none, Nat.zero_add, if_true, if_false, Bool.not_true, Bool.not_false, reduceCtorEq, or_true, true_or, or_false, false_or, Nat.reduceAdd, Nat.reduceLeDiff, decide_true, decide_false, Bool.false_eq_true, eq_int, n3, n5, ixD, at_c0, er, slcV, partV, hc, List.map_cons, List.map_nil, g']
    · intro k hk
      refine ⟨_, rfl, ?_, fun z => nomatch z⟩
      have g := sd k hk
      simp -implicitDefEqProofs only [execSs, execS, seqS, thenS, retS, retNS, retV, mutL, mutD, keepX, ixD2, inD2, itemsOf, seqOf, zipI, enumI, cntV, popK, takeOff, extK, dputS, dct1, dkey, dinD, parK, bindX, ioV, nxK, retIO, callT, newA, evalT, evalX, evalZ, keepB, isDict, Bool.true_or, Bool.or_true, Bool.false_or, Bool.or_false, Bool.true_and, Bool.and_true, Bool.false_and, Bool.and_false, datK, ownK, tgK, appK, evalE, evalK, evalA, evalAnd, evalOr, evalO, evalF, evalI, evalC, keep, keepV, slotVal, lift1, lift2, liftA, consA, callF, notV, andT, orT, ifV, tstB, DD.ifS, DD.forS, compV, seqI, rngI, E.src, sem2, semC, semB, Ty.nm, Cst.d, boolRes, truth_bool, truth_none, truth_int, truth_list, truth_tuple, isi_int, isi_bool, isi_tuple, isi_list, isi_str, addD, subD, mul_int, fdiv_int, mod_int, ltD, leD, gtD, geD, lenD, isNone, negD, tg_one, tg_many, tgs_nil, tgs_cons, flatRoot, okSize, List.getElem?_cons_zero, List.getElem?_cons_succ, List.set_cons_zero, List.set_cons_succ, List.length_cons, List.length_nil, Option.map_some, Option.map_none, Nat.zero_add, if_true, if_false, Bool.not_true, Bool.not_false, reduceCtorEq, or_true, true_or, or_false, false_or, Nat.reduceAdd, Nat.reduceLeDiff, decide_true, decide_false, Bool.false_eq_true, nI, iL, List.length_map, hrl, g]
def MovedOk (G : Gb) (c : Nat) : Prop := ∀ (b : Bld) (s e : Int) (ns : List Int) (x : Mv × List Int), b.ok → 0 ≤ s → s < b.R → ns.length ≤ 72 → b.path s ns = some e → MvOk b s ns x → G.phi c [b.d, wkD s ns, mvD x.1] = some (.ok (wkD s x.2))
theorem moved_sem (G : Gb) (c1 c2 c3 xm c4 xw : Nat) (k1 : ChkOk G c1) (k2 : CheckedOk G c2 xw) (k3 : AllowOk G c3) (k4 : AfterOk G c4) (b : Bld) (hb : b.ok) (s e : Int) (s0 : 0 ≤ s) (s1 : s < b.R) (ns : List Int) (hl : ns.length ≤ 72) (hp : b.path s ns = some e) (x : Mv × List Int) (hx : MvOk b s ns x) (fuel : Nat) (nw : Bool) : runF G fuel nw (b_moved_v2 c1 c2 c3 xm c4) 4 [b.d, wkD s ns, mvD x.1] = some (.ok (wkD s x.2)) := by
  refine run_ret [some (.bor, b.d), some (.bor, wkD s ns), some (.bor, mvD x.1), none] rfl ?_
  have g1 := k1 b hb
  have g2 := k2 b (wkD s ns) hb
  rw [trace_rooms s0 s1 hl hp] at g2
  have g2' : G.phi c2 [b.d, wkD s ns] = some (.ok (iL (rmW b s ns))) := g2
  have g3 := k3 b s e ns x hb hp hx
  have g4 := k4 b s ns x hx hl
  simp -implicitDefEqProofs only [b_moved_v2, execSs, execS, seqS, thenS, retS, retNS, retV, mutL, mutD, keepX, ixD2, inD2, itemsOf, seqOf, zipI, enumI, cntV, popK, takeOff, extK, dputS, dct1, dkey, dinD, parK, bindX, ioV, nxK, retIO, callT, newA, evalT, evalX, evalZ, keepB, isDict, Bool.true_or, Bool.or_true, Bool.false_or, Bool.or_false, Bool.true_and, Bool.and_true, Bool.false_and, Bool.and_false, datK, ownK, tgK, appK, evalE, evalK, evalA, evalAnd, evalOr, evalO, evalF, evalI, evalC, keep, keepV, slotVal, lift1, lift2, liftA, consA, callF, notV, andT, orT, ifV, tstB, DD.ifS, DD.forS, compV, seqI, rngI, E.src, sem2, semC, semB, Ty.nm, Cst.d, boolRes, truth_bool, truth_none, truth_int, truth_list, truth_tuple, isi_int, isi_bool, isi_tuple, isi_list, isi_str, addD, subD, mul_int, fdiv_int, mod_int, ltD, leD, gtD, geD, lenD, isNone, negD, tg_one, tg_many, tgs_nil, tgs_cons, flatRoot, okSize, List.getElem?_cons_zero, List.getElem?_cons_succ, List.set_cons_zero, List.set_cons_succ, List.length_cons, List.length_nil, Option.map_some, Option.map_none, Nat.zero_add, if_true, if_false, Bool.not_true, Bool.not_false, reduceCtorEq, or_true, true_or, or_false, false_or, Nat.reduceAdd, Nat.reduceLeDiff, decide_true, decide_false, Bool.false_eq_true, g1, g2', g3, g4]
structure MovesM (m : List D → Option Res) (xt xw : Nat) : Prop where
  ok : ∀ (b : Bld) (s e : Int) (ns : List Int), b.ok → 0 ≤ s → s < b.R → b.path s ns = some e → ns.length ≤ 10 → m [b.d, wkD s ns] = some (.ok (.list ((sortM ((fnd b s ns).map (·.1))).map mvD)))
  many : ∀ (b : Bld) (s e : Int) (ns : List Int), b.ok → 0 ≤ s → s < b.R → b.path s ns = some e → 10 < ns.length → ns.length ≤ 72 → m [b.d, wkD s ns] = some (.exc xt none)
  bad : ∀ (b : Bld) (v : D), b.ok → traceD b v = .none → m [b.d, v] = some (.exc xw none)
theorem mvs_sem (G : Gb) (c1 c2 g xt c3 xw : Nat) (k1 : ChkOk G c1) (k2 : CheckedOk G c2 xw) (hg : CInt G g 10) (k3 : MovesF G c3) (fuel : Nat) (nw : Bool) : MovesM (runF G fuel nw (b_moves c1 c2 g xt c3) 3) xt xw := by
  obtain ⟨z, hg⟩ := hg
  refine ⟨fun b s e ns hb s0 s1 hp hl => ?_, fun b s e ns hb s0 s1 hp hl h72 => ?_, fun b v hb hv => ?_⟩
  · refine run_ret [some (.bor, b.d), some (.bor, wkD s ns), none] rfl ?_
    have g1 := k1 b hb
    have g2 := k2 b (wkD s ns) hb
    rw [trace_rooms s0 s1 (by omega) hp] at g2
    have g2' : G.phi c2 [b.d, wkD s ns] = some (.ok (iL (rmW b s ns))) := g2
    have g3 := k3 b s e ns hb hp hl
    have hc : (((rmW b s ns).length : Int) > 10 + 1) = False := eq_false (by rw [rmW_len hp]; push_cast; omega)
    simp -implicitDefEqProofs only [b_moves, execSs, execS, seqS, thenS, retS, retNS, retV, mutL, mutD, keepX, ixD2, inD2, itemsOf, seqOf, zipI, enumI, cntV, popK, takeOff, extK, dputS, dct1, dkey, dinD, parK, bindX, ioV, nxK, retIO, callT, newA, evalT, evalX, evalZ, keepB, isDict, Bool.true_or, Bool.or_true, Bool.false_or, Bool.or_false, Bool.true_and, Bool.and_true, Bool.false_and, Bool.and_false, datK, ownK, tgK, appK, evalE, evalK, evalA, evalAnd, evalOr, evalO, evalF, evalI, evalC, keep, keepV, slotVal, lift1, lift2, liftA, consA, callF, notV, andT, orT, ifV, tstB, DD.ifS, DD.forS, compV, seqI, rngI, E.src, sem2, semC, semB, Ty.nm, Cst.d, boolRes, truth_bool, truth_none, truth_int, truth_list, truth_tuple, isi_int, isi_bool, isi_tuple, isi_list, isi_str, addD, subD, mul_int, fdiv_int, mod_int, ltD, leD, gtD, geD, lenD, isNone, negD, tg_one, tg_many, tgs_nil, tgs_cons, flatRoot, okSize, List.getElem?_cons_zero, List.getElem?_cons_succ, List.set_cons_zero, List.set_cons_succ, List.length_cons, List.length_nil, Option.map_some, Option.map_none, Nat.zero_add, if_true, if_false, Bool.not_true, Bool.not_false, reduceCtorEq, or_true, true_or, or_false, false_or, Nat.reduceAdd, Nat.reduceLeDiff, decide_true, decide_false, Bool.false_eq_true, g1, g2']
    unfold iL at g3 ⊢
    simp -implicitDefEqProofs only [execSs, execS, seqS, thenS, retS, retNS, retV, mutL, mutD, keepX, ixD2, inD2, itemsOf, seqOf, zipI, enumI, cntV, popK, takeOff, extK, dputS, dct1, dkey, dinD, parK, bindX, ioV, nxK, retIO, callT, newA, evalT, evalX, evalZ, keepB, isDict, Bool.true_or, Bool.or_true, Bool.false_or, Bool.or_false, Bool.true_and, Bool.and_true, Bool.false_and, Bool.and_false, datK, ownK, tgK, appK, evalE, evalK, evalA, evalAnd, evalOr, evalO, evalF, evalI, evalC, keep, keepV, slotVal, lift1, lift2, liftA, consA, callF, notV, andT, orT, ifV, tstB, DD.ifS, DD.forS, compV, seqI, rngI, E.src, sem2, semC, semB, Ty.nm, Cst.d, boolRes, truth_bool, truth_none, truth_int, truth_list, truth_tuple, isi_int, isi_bool, isi_tuple, isi_list, isi_str, addD, subD, mul_int, fdiv_int, mod_int, ltD, leD, gtD, geD, lenD, isNone, negD, tg_one, tg_many, tgs_nil, tgs_cons, flatRoot, okSize, List.getElem?_cons_zero, List.getElem?_cons_succ, List.set_cons_zero, List.set_cons_succ, List.length_cons, List.length_nil, Option.map_some, Option.map_none, Nat.zero_add, if_true, if_false, Bool.not_true, Bool.not_false, reduceCtorEq, or_true, true_or, or_false, false_or, Nat.reduceAdd, Nat.reduceLeDiff, decide_true, decide_false, Bool.false_eq_true, hg, List.length_map, hc, g3]
  · refine run_exc [some (.bor, b.d), some (.bor, wkD s ns), none] rfl ?_
    have g1 := k1 b hb
    have g2 := k2 b (wkD s ns) hb
    rw [trace_rooms s0 s1 h72 hp] at g2
    have g2' : G.phi c2 [b.d, wkD s ns] = some (.ok (iL (rmW b s ns))) := g2
    have hc : (((rmW b s ns).length : Int) > 10 + 1) = True := eq_true (by rw [rmW_len hp]; push_cast; omega)
    simp -implicitDefEqProofs only [b_moves, execSs, execS, seqS, thenS, retS, retNS, retV, mutL, mutD, keepX, ixD2, inD2, itemsOf, seqOf, zipI, enumI, cntV, popK, takeOff, extK, dputS, dct1, dkey, dinD, parK, bindX, ioV, nxK, retIO, callT, newA, evalT, evalX, evalZ, keepB, isDict, Bool.true_or, Bool.or_true, Bool.false_or, Bool.or_false, Bool.true_and, Bool.and_true, Bool.false_and, Bool.and_false, datK, ownK, tgK, appK, evalE, evalK, evalA, evalAnd, evalOr, evalO, evalF, evalI, evalC, keep, keepV, slotVal, lift1, lift2, liftA, consA, callF, notV, andT, orT, ifV, tstB, DD.ifS, DD.forS, compV, seqI, rngI, E.src, sem2, semC, semB, Ty.nm, Cst.d, boolRes, truth_bool, truth_none, truth_int, truth_list, truth_tuple, isi_int, isi_bool, isi_tuple, isi_list, isi_str, addD, subD, mul_int, fdiv_int, mod_int, ltD, leD, gtD, geD, lenD, isNone, negD, tg_one, tg_many, tgs_nil, tgs_cons, flatRoot, okSize, List.getElem?_cons_zero, List.getElem?_cons_succ, List.set_cons_zero, List.set_cons_succ, List.length_cons, List.length_nil, Option.map_some, Option.map_none, Nat.zero_add, if_true, if_false, Bool.not_true, Bool.not_false, reduceCtorEq, or_true, true_or, or_false, false_or, Nat.reduceAdd, Nat.reduceLeDiff, decide_true, decide_false, Bool.false_eq_true, g1, g2']
    unfold iL
    simp -implicitDefEqProofs only [execSs, execS, seqS, thenS, retS, retNS, retV, mutL, mutD, keepX, ixD2, inD2, itemsOf, seqOf, zipI, enumI, cntV, popK, takeOff, extK, dputS, dct1, dkey, dinD, parK, bindX, ioV, nxK, retIO, callT, newA, evalT, evalX, evalZ, keepB, isDict, Bool.true_or, Bool.or_true, Bool.false_or, Bool.or_false, Bool.true_and, Bool.and_true, Bool.false_and, Bool.and_false, datK, ownK, tgK, appK, evalE, evalK, evalA, evalAnd, evalOr, evalO, evalF, evalI, evalC, keep, keepV, slotVal, lift1, lift2, liftA, consA, callF, notV, andT, orT, ifV, tstB, DD.ifS, DD.forS, compV, seqI, rngI, E.src, sem2, semC, semB, Ty.nm, Cst.d, boolRes, truth_bool, truth_none, truth_int, truth_list, truth_tuple, isi_int, isi_bool, isi_tuple, isi_list, isi_str, addD, subD, mul_int, fdiv_int, mod_int, ltD, leD, gtD, geD, lenD, isNone, negD, tg_one, tg_many, tgs_nil, tgs_cons, flatRoot, okSize, List.getElem?_cons_zero, List.getElem?_cons_succ, List.set_cons_zero, List.set_cons_succ, List.length_cons, List.length_nil, Option.map_some, Option.map_none, Nat.zero_add, if_true, if_false, Bool.not_true, Bool.not_false, reduceCtorEq, or_true, true_or, or_false, false_or, Nat.reduceAdd, Nat.reduceLeDiff, decide_true, decide_false, Bool.false_eq_true, hg, List.length_map, hc]
  · refine run_exc [some (.bor, b.d), some (.bor, v), none] rfl ?_
    have g1 := k1 b hb
    have g2 := k2 b v hb
    rw [hv] at g2
    have g2' : G.phi c2 [b.d, v] = some (.exc xw none) := g2
    simp -implicitDefEqProofs only [b_moves, execSs, execS, seqS, thenS, retS, retNS, retV, mutL, mutD, keepX, ixD2, inD2, itemsOf, seqOf, zipI, enumI, cntV, popK, takeOff, extK, dputS, dct1, dkey, dinD, parK, bindX, ioV, nxK, retIO, callT, newA, evalT, evalX, evalZ, keepB, isDict, Bool.true_or, Bool.or_true, Bool.false_or, Bool.or_false, Bool.true_and, Bool.and_true, Bool.false_and, Bool.and_false, datK, ownK, tgK, appK, evalE, evalK, evalA, evalAnd, evalOr, evalO, evalF, evalI, evalC, keep, keepV, slotVal, lift1, lift2, liftA, consA, callF, notV, andT, orT, ifV, tstB, DD.ifS, DD.forS, compV, seqI, rngI, E.src, sem2, semC, semB, Ty.nm, Cst.d, boolRes, truth_bool, truth_none, truth_int, truth_list, truth_tuple, isi_int, isi_bool, isi_tuple, isi_list, isi_str, addD, subD, mul_int, fdiv_int, mod_int, ltD, leD, gtD, geD, lenD, isNone, negD, tg_one, tg_many, tgs_nil, tgs_cons, flatRoot, okSize, List.getElem?_cons_zero, List.getElem?_cons_succ, List.set_cons_zero, List.set_cons_succ, List.length_cons, List.length_nil, Option.map_some, Option.map_none, Nat.zero_add, if_true, if_false, Bool.not_true, Bool.not_false, reduceCtorEq, or_true, true_or, or_false, false_or, Nat.reduceAdd, Nat.reduceLeDiff, decide_true, decide_false, Bool.false_eq_true, g1, g2']
end
end DD

namespace DD
noncomputable section
open PySem PySem.Spec PyProof.Rows L2
/-! ### _law_moves -/
def lm9 : S := (.forS (.one 9) (.rng (.cons (.op .add (.var 8) (.cst (.int 1))) (.cons (.blt .len (.cons (.var 4) .nil)) .nil))) (.cons (.ifS (.and (.cons (.cmp .eq (.idx (.var 4) (.var 3)) (.idx (.var 4) (.var 8))) (.cons (.cmp .eq (.idx (.var 4) (.var 6)) (.idx (.var 4) (.var 9))) .nil))) (.cons (.dat 10 (.op .add (.op .add (.slc (.var 5) (.yes (.var 8)) (.yes (.var 9))) (.slc (.var 5) (.yes (.var 6)) (.yes (.var 8)))) (.var 7))) (.cons (.app 2 (.tup (.cons (.tup (.cons (.cst (.str "exchange")) (.cons (.var 3) (.cons (.var 6) (.cons (.var 8) (.cons (.var 9) .nil)))))) (.cons (.op .add (.op .add (.slc (.var 5) .no (.yes (.var 3))) (.var 10)) (.slc (.var 5) (.yes (.var 9)) .no)) .nil)))) .nil)) .nil) .nil))
def lm8 : S := (.forS (.one 8) (.rng (.cons (.var 6) (.cons (.blt .len (.cons (.var 4) .nil)) .nil))) (.cons lm9 .nil))
def lm6 : S := (.forS (.one 6) (.rng (.cons (.op .add (.var 3) (.cst (.int 1))) (.cons (.blt .len (.cons (.var 4) .nil)) .nil))) (.cons (.dat 7 (.slc (.var 5) (.yes (.var 3)) (.yes (.var 6)))) (.cons (.ifS (.and (.cons (.cmp .eq (.idx (.var 4) (.var 3)) (.idx (.var 4) (.var 6))) (.cons (.cmp .eq (.comp (.var 11) (.one 11) (.seq (.var 7)) (.yes (.cmp .eq (.idx (.idx (.idx (.var 0) (.cst (.int 1))) (.var 11)) (.cst (.int 2))) (.cst (.str "one-way")))) [("one", 11)]) (.lst .nil)) .nil))) (.cons (.app 2 (.tup (.cons (.tup (.cons (.cst (.str "reverse")) (.cons (.var 3) (.cons (.var 6) .nil)))) (.cons (.op .add (.op .add (.slc (.var 5) .no (.yes (.var 3))) (.rev (.var 7))) (.slc (.var 5) (.yes (.var 6)) .no)) .nil)))) .nil) .nil) (.cons lm8 .nil))))
def lm3 : S := (.forS (.one 3) (.rng (.cons (.blt .len (.cons (.var 4) .nil)) .nil)) (.cons lm6 .nil))
theorem lm_eq (c : Nat) : b_law_moves c = (.cons (.par false 4 (.call c (.cons (.var 0) (.cons (.var 1) .nil))) false 5 (.idx (.var 1) (.cst (.int 1)))) (.cons (.own 2 (.lst .nil)) (.cons lm3 (.cons (.ret (.blt .sorted (.cons (.var 2) .nil))) .nil)))) := rfl
theorem rng_from (a m : Nat) : rngL (a : Int) (m : Int) = (List.range' a (m - a)).map nI := by
  unfold rngL
  rw [show ((m : Int) - (a : Int)).toNat = m - a by omega, List.range'_eq_map_range, List.map_map]
  apply List.map_congr_left
  intro i _
  simp [nI]
theorem rng_succ (a m : Nat) : rngL ((a : Int) + 1) (m : Int) = (List.range' (a + 1) (m - (a + 1))).map nI := by
  rw [← rng_from]
  push_cast
  rfl
def exK (b : Bld) (s : Int) (ns : List Int) (f l o : Nat) (qs : List Nat) : List (Mv × List Int) := (qs.filter fun e => exB b s ns f l o e).map fun e => exE ns f l o e
theorem exK_take (b : Bld) (s : Int) (ns : List Int) (f l o : Nat) {qs : List Nat} {j : Nat} {e : Nat} (h : qs[j]? = some e) : exK b s ns f l o (qs.take (j + 1)) = exK b s ns f l o (qs.take j) ++ (if exB b s ns f l o e = true then [exE ns f l o e] else []) := by
  unfold exK
  rw [List.take_add_one, h, List.filter_append, List.map_append]
  congr 1
  show List.map _ (List.filter _ [e]) = _
  rw [List.filter_cons]
  split <;> simp
theorem exK_len (b : Bld) (s : Int) (ns : List Int) (f l o : Nat) (qs : List Nat) : (exK b s ns f l o qs).length ≤ qs.length := by
  unfold exK
  rw [List.length_map]
  exact List.length_filter_le _ _
def lmR (b : Bld) (s : Int) (ns : List Int) (os : List (Mv × List Int)) (o3 o6 o7 o8 o9 o10 : Option (Fl × D)) : Rho := [some (.bor, b.d), some (.bor, wkD s ns), some (.own, .list (os.map pmD)), o3, some (.dat, iL (rmW b s ns)), some (.dat, csD ns), o6, o7, o8, o9, o10, none]
section
variable (G : Gb) (b : Bld) (hb : b.ok) (s e : Int) (ns : List Int) (hp : b.path s ns = some e) (hl : ns.length ≤ 10) (fuel : Nat) (mo : Mo)
include hp hl
theorem lm9_sem (os : List (Mv × List Int)) (f l o : Nat) (h1 : f < l) (h2 : l ≤ o) (h3 : o ≤ ns.length) (hos : os.length ≤ 16000) (o9 o10 : Option (Fl × D)) {T : D → Prop} {E' : Nat → Prop} :
    WP (execS G fuel mo lm9 (lmR b s ns os (some (.dat, .int (f : Int))) (some (.dat, .int (l : Int))) (some (.dat, csD (partN ns f l))) (some (.dat, .int (o : Int))) o9 o10)) (fun ρ => ∃ o9 o10, ρ = lmR b s ns (os ++ exK b s ns f l o (List.range' (o + 1) (ns.length + 1 - (o + 1)))) (some (.dat, .int (f : Int))) (some (.dat, .int (l : Int))) (some (.dat, csD (partN ns f l))) (some (.dat, .int (o : Int))) o9 o10) T E' := by
  have hrl : (rmW b s ns).length = ns.length + 1 := rmW_len hp
  have hro : rngOk ((o : Int) + 1) ((ns.length + 1 : Nat) : Int) = true := rng_ok (by omega) (by omega) (by omega) (by omega) (by omega)
  have hrg := rng_succ o (ns.length + 1)
  unfold lm9
  refine wp_forS nI (fun j ρ => ∃ o9 o10, ρ = lmR b s ns (os ++ exK b s ns f l o ((List.range' (o + 1) (ns.length + 1 - (o + 1))).take j)) (some (.dat, .int (f : Int))) (some (.dat, .int (l : Int))) (some (.dat, csD (partN ns f l))) (some (.dat, .int (o : Int))) o9 o10) (List.range' (o + 1) (ns.length + 1 - (o + 1))) (by simp -implicitDefEqProofs only [execSs, execS, seqS, thenS, retS, retNS, retV, mutL, mutD, keepX, ixD2, inD2, itemsOf, seqOf, zipI, enumI, cntV, popK, takeOff, extK, dputS, dct1, dkey, dinD, parK, bindX, ioV, nxK, retIO, callT, newA, evalT, evalX, evalZ, keepB, isDict, Bool.true_or, Bool.or_true, Bool.false_or, Bool.or_false, Bool.true_and, Bool.and_true, Bool.false_and, Bool.and_false, datK, ownK, tgK, appK, evalE, evalK, evalA, evalAnd, evalOr, evalO, evalF, evalI, evalC, keep, keepV, slotVal, lift1, lift2, liftA, consA, callF, notV, andT, orT, ifV, tstB, DD.ifS, DD.forS, compV, seqI, rngI, E.src, sem2, semC, semB, Ty.nm, Cst.d, boolRes, truth_bool, truth_none, truth_int, truth_list, truth_tuple, isi_int, isi_bool, isi_tuple, isi_list, isi_str, addD, subD, mul_int, fdiv_int, mod_int, ltD, leD, gtD, geD, lenD, isNone, negD, tg_one, tg_many, tgs_nil, tgs_cons, flatRoot, okSize, List.getElem?_cons_zero, List.getElem?_cons_succ, List.set_cons_zero, List.set_cons_succ, List.length_cons, List.length_nil, Option.map_some, Option.map_none, Nat.zero_add, if_true, if_false, Bool.not_true, Bool.not_false, reduceCtorEq, or_true, true_or, or_false, false_or, Nat.reduceAdd, Nat.reduceLeDiff, decide_true, decide_false, Bool.false_eq_true, lmR, iL, List.length_map, hrl, hro, hrg]) ⟨o9, o10, by simp [exK]⟩ ?_ ?_
  · rintro j q ρ hj ⟨p9, p10, rfl⟩
    have hm := List.mem_of_getElem? hj
    rw [List.mem_range'_1] at hm
    refine ⟨lmR b s ns (os ++ exK b s ns f l o ((List.range' (o + 1) (ns.length + 1 - (o + 1))).take j)) (some (.dat, .int (f : Int))) (some (.dat, .int (l : Int))) (some (.dat, csD (partN ns f l))) (some (.dat, .int (o : Int))) (some (.dat, .int (q : Int))) p10, by simp -implicitDefEqProofs only [execSs, execS, seqS, thenS, retS, retNS, retV, mutL, mutD, keepX, ixD2, inD2, itemsOf, seqOf, zipI, enumI, cntV, popK, takeOff, extK, dputS, dct1, dkey, dinD, parK, bindX, ioV, nxK, retIO, callT, newA, evalT, evalX, evalZ, keepB, isDict, Bool.true_or, Bool.or_true, Bool.false_or, Bool.or_false, Bool.true_and, Bool.and_true, Bool.false_and, Bool.and_false, datK, ownK, tgK, appK, evalE, evalK, evalA, evalAnd, evalOr, evalO, evalF, evalI, evalC, keep, keepV, slotVal, lift1, lift2, liftA, consA, callF, notV, andT, orT, ifV, tstB, DD.ifS, DD.forS, compV, seqI, rngI, E.src, sem2, semC, semB, Ty.nm, Cst.d, boolRes, truth_bool, truth_none, truth_int, truth_list, truth_tuple, isi_int, isi_bool, isi_tuple, isi_list, isi_str, addD, subD, mul_int, fdiv_int, mod_int, ltD, leD, gtD, geD, lenD, isNone, negD, tg_one, tg_many, tgs_nil, tgs_cons, flatRoot, okSize, List.getElem?_cons_zero, List.getElem?_cons_succ, List.set_cons_zero, List.set_cons_succ, List.length_cons, List.length_nil, Option.map_some, Option.map_none, Nat.zero_add, if_true, if_false, Bool.not_true, Bool.not_false, reduceCtorEq, or_true, true_or, or_false, false_or, Nat.reduceAdd, Nat.reduceLeDiff, decide_true, decide_false, Bool.false_eq_true, lmR, nI], ?_⟩
    rw [exK_take b s ns f l o hj]
    have hel := exK_len b s ns f l o ((List.range' (o + 1) (ns.length + 1 - (o + 1))).take j)
    rw [List.length_take, List.length_range'] at hel
    generalize exK b s ns f l o ((List.range' (o + 1) (ns.length + 1 - (o + 1))).take j) = es at hel ⊢
    have a1 := at_rm hp (f := f) (by omega)
    have a2 := at_rm hp (f := l) (by omega)
    have a3 := at_rm hp (f := o) (by omega)
    have a4 := at_rm hp (f := q) (by omega)
    refine wp_cons (wp_if (exB b s ns f l o q) ?_ (fun hv => ?_) (fun hv => wp_nil (wp_nil ?_)))
    · unfold exB
      by_cases q2 : rmAt b s ns f = rmAt b s ns o
      · have q2' := eq_true q2
        simp -implicitDefEqProofs only [execSs, execS, seqS, thenS, retS, retNS, retV, mutL, mutD, keepX, ixD2, inD2, itemsOf, seqOf, zipI, enumI, cntV, popK, takeOff, extK, dputS, dct1, dkey, dinD, parK, bindX, ioV, nxK, retIO, callT, newA, evalT, evalX, evalZ, keepB, isDict, Bool.true_or, Bool.or_true, Bool.false_or, Bool.or_false, Bool.true_and, Bool.and_true, Bool.false_and, Bool.and_false, datK, ownK, tgK, appK, evalE, evalK, evalA, evalAnd, evalOr, evalO, evalF, evalI, evalC, keep, keepV, slotVal, lift1, lift2, liftA, consA, callF, notV, andT, orT, ifV, tstB, DD.ifS, DD.forS, compV, seqI, rngI, E.src, sem2, semC, semB, Ty.nm, Cst.d, boolRes, truth_bool, truth_none, truth_int, truth_list, truth_tuple, isi_int, isi_bool, isi_tuple, isi_list, isi_str, addD, subD, mul_int, fdiv_int, mod_int, ltD, leD, gtD, geD, lenD, isNone, negD, tg_one, tg_many, tgs_nil, tgs_cons, flatRoot, okSize, List.getElem?_cons_zero, List.getElem?_cons_succ, List.set_cons_zero, List.set_cons_succ, List.length_cons, List.length_nil, Option.map_some, Option.map_none, Nat.zero_add, if_true, if_false, Bool.not_true, Bool.not_false, reduceCtorEq, or_true, true_or, or_false, false_or, Nat.reduceAdd, Nat.reduceLeDiff, decide_true, decide_false, Bool.false_eq_true, lmR, iL, ixD, a1, a2, a3, a4, eq_int, q2']
      · have q2' := eq_false q2
        simp -implicitDefEqProofs only [execSs, execS, seqS, thenS, retS, retNS, retV, mutL, mutD, keepX, ixD2, inD2, itemsOf, seqOf, zipI, enumI, cntV, popK, takeOff, extK, dputS, dct1, dkey, dinD, parK, bindX, ioV, nxK, retIO, callT, newA, evalT, evalX, evalZ, keepB, isDict, Bool.true_or, Bool.or_true, Bool.false_or, Bool.or_false, Bool.true_and, Bool.and_true, Bool.false_and, Bool.and_false, datK, ownK, tgK, appK, evalE, evalK, evalA, evalAnd, evalOr, evalO, evalF, evalI, evalC, keep, keepV, slotVal, lift1, lift2, liftA, consA, callF, notV, andT, orT, ifV, tstB, DD.ifS, DD.forS, compV, seqI, rngI, E.src, sem2, semC, semB, Ty.nm, Cst.d, boolRes, truth_bool, truth_none, truth_int, truth_list, truth_tuple, isi_int, isi_bool, isi_tuple, isi_list, isi_str, addD, subD, mul_int, fdiv_int, mod_int, ltD, leD, gtD, geD, lenD, isNone, negD, tg_one, tg_many, tgs_nil, tgs_cons, flatRoot, okSize, List.getElem?_cons_zero, List.getElem?_cons_succ, List.set_cons_zero, List.set_cons_succ, List.length_cons, List.length_nil, Option.map_some, Option.map_none, Nat.zero_add, if_true, if_false, Bool.not_true, Bool.not_false, reduceCtorEq, or_true, true_or, or_false, false_or, Nat.reduceAdd, Nat.reduceLeDiff, decide_true, decide_false, Bool.false_eq_true, lmR, iL, ixD, a1, a2, a3, a4, eq_int, q2']
    · rw [if_pos hv]
      have pl := part_len ns
      have tl : ∀ k, (ns.take k).length ≤ ns.length := fun k => by rw [List.length_take]; omega
      have dl : ∀ k, (ns.drop k).length ≤ ns.length := fun k => by rw [List.length_drop]; omega
      have c1 := cutLc ns f
      have c3 := cutMc ns (i := l) (j := o) (by omega)
      have c4 := cutMc ns (i := o) (j := q) (by omega)
      have c5 := cutHc ns q
      have s1 := add_cs (xs := partN ns o q) (ys := partN ns l o) (by have := pl o q; have := pl l o; omega)
      have s2 := add_cs (xs := partN ns o q ++ partN ns l o) (ys := partN ns f l) (by have := pl o q; have := pl l o; have := pl f l; rw [List.length_append]; omega)
      have s3 := add_cs (xs := ns.take f) (ys := partN ns o q ++ partN ns l o ++ partN ns f l) (by have := tl f; have := pl o q; have := pl l o; have := pl f l; rw [List.length_append, List.length_append]; omega)
      have s4 := add_cs (xs := ns.take f ++ (partN ns o q ++ partN ns l o ++ partN ns f l)) (ys := ns.drop q) (by have := tl f; have := dl q; have := pl o q; have := pl l o; have := pl f l; rw [List.length_append, List.length_append, List.length_append]; omega)
      refine wp_step (lmR b s ns (os ++ es) (some (.dat, .int (f : Int))) (some (.dat, .int (l : Int))) (some (.dat, csD (partN ns f l))) (some (.dat, .int (o : Int))) (some (.dat, .int (q : Int))) (some (.dat, csD (partN ns o q ++ partN ns l o ++ partN ns f l)))) (by simp -implicitDefEqProofs only [execSs, execS, seqS, thenS, retS, retNS, retV, mutL, mutD, keepX, ixD2, inD2, itemsOf, seqOf, zipI, enumI, cntV, popK, takeOff, extK, dputS, dct1, dkey, dinD, parK, bindX, ioV, nxK, retIO, callT, newA, evalT, evalX, evalZ, keepB, isDict, Bool.true_or, Bool.or_true, Bool.false_or, Bool.or_false, Bool.true_and, Bool.and_true, Bool.false_and, Bool.and_false, datK, ownK, tgK, appK, evalE, evalK, evalA, evalAnd, evalOr, evalO, evalF, evalI, evalC, keep, keepV, slotVal, lift1, lift2, liftA, consA, callF, notV, andT, orT, ifV, tstB, DD.ifS, DD.forS, compV, seqI, rngI, E.src, sem2, semC, semB, Ty.nm, Cst.d, boolRes, truth_bool, truth_none, truth_int, truth_list, truth_tuple, isi_int, isi_bool, isi_tuple, isi_list, isi_str, subD, mul_int, fdiv_int, mod_int, ltD, leD, gtD, geD, lenD, isNone, negD, tg_one, tg_many, tgs_nil, tgs_cons, flatRoot, okSize, List.getElem?_cons_zero, List.getElem?_cons_succ, List.set_cons_zero, List.set_cons_succ, List.length_cons, List.length_nil, Option.map_some, Option.map_none, Nat.zero_add, if_true, if_false, Bool.not_true, Bool.not_false, reduceCtorEq, or_true, true_or, or_false, false_or, Nat.reduceAdd, Nat.reduceLeDiff, decide_true, decide_false, Bool.false_eq_true, lmR, slcV, partV, c3, c4, s1, s2]) ?_
      have hz : (os.length + es.length < 16777216) = True := eq_true (by omega)
      refine wp_step (lmR b s ns ((os ++ es) ++ [exE ns f l o q]) (some (.dat, .int (f : Int))) (some (.dat, .int (l : Int))) (some (.dat, csD (partN ns f l))) (some (.dat, .int (o : Int))) (some (.dat, .int (q : Int))) (some (.dat, csD (partN ns o q ++ partN ns l o ++ partN ns f l)))) ?_ (wp_nil (wp_nil ⟨_, _, by rw [List.append_assoc]⟩))
      simp -implicitDefEqProofs only [execSs, execS, seqS, thenS, retS, retNS, retV, mutL, mutD, keepX, ixD2, inD2, itemsOf, seqOf, zipI, enumI, cntV, popK, takeOff, extK, dputS, dct1, dkey, dinD, parK, bindX, ioV, nxK, retIO, callT, newA, evalT, evalX, evalZ, keepB, isDict, Bool.true_or, Bool.or_true, Bool.false_or, Bool.or_false, Bool.true_and, Bool.and_true, Bool.false_and, Bool.and_false, datK, ownK, tgK, appK, evalE, evalK, evalA, evalAnd, evalOr, evalO, evalF, evalI, evalC, keep, keepV, slotVal, lift1, lift2, liftA, consA, callF, notV, andT, orT, ifV, tstB, DD.ifS, DD.forS, compV, seqI, rngI, E.src, sem2, semC, semB, Ty.nm, Cst.d, boolRes, truth_bool, truth_none, truth_int, truth_list, truth_tuple, isi_int, isi_bool, isi_tuple, isi_list, isi_str, subD, mul_int, fdiv_int, mod_int, ltD, leD, gtD, geD, lenD, isNone, negD, tg_one, tg_many, tgs_nil, tgs_cons, flatRoot, okSize, List.getElem?_cons_zero, List.getElem?_cons_succ, List.set_cons_zero, List.set_cons_succ, List.length_cons, List.length_nil, Option.map_some, Option.map_none, Nat.zero_add, if_true, if_false, Bool.not_true, Bool.not_false, reduceCtorEq, or_true, true_or, or_false, false_or, Nat.reduceAdd, Nat.reduceLeDiff, decide_true, decide_false, Bool.false_eq_true, lmR, slcV, partV, c1, c5, s3, s4, List.length_map, List.length_append, hz, List.map_append, List.map_cons, List.map_nil]
      rfl
    · rw [if_neg (by rw [hv]; exact Bool.false_ne_true), List.append_nil]
      exact ⟨_, _, rfl⟩
  · rintro ρ ⟨p9, p10, rfl⟩
    rw [List.take_length]
    exact ⟨p9, p10, rfl⟩
omit hp hl in
theorem exK_few (b : Bld) (s : Int) (ns : List Int) (hl : ns.length ≤ 10) (f l o : Nat) : (exK b s ns f l o (List.range' (o + 1) (ns.length + 1 - (o + 1)))).length ≤ 11 := by
  have := exK_len b s ns f l o (List.range' (o + 1) (ns.length + 1 - (o + 1)))
  rw [List.length_range'] at this
  omega
theorem lm8_sem (os : List (Mv × List Int)) (f l : Nat) (h1 : f < l) (h2 : l ≤ ns.length) (hos : os.length ≤ 15800) (o8 o9 o10 : Option (Fl × D)) {T : D → Prop} {E' : Nat → Prop} :
    WP (execS G fuel mo lm8 (lmR b s ns os (some (.dat, .int (f : Int))) (some (.dat, .int (l : Int))) (some (.dat, csD (partN ns f l))) o8 o9 o10)) (fun ρ => ∃ o8 o9 o10, ρ = lmR b s ns (os ++ exL b s ns (ns.length + 1) f l) (some (.dat, .int (f : Int))) (some (.dat, .int (l : Int))) (some (.dat, csD (partN ns f l))) o8 o9 o10) T E' := by
  have hrl : (rmW b s ns).length = ns.length + 1 := rmW_len hp
  have hro : rngOk (l : Int) ((ns.length + 1 : Nat) : Int) = true := rng_ok (by omega) (by omega) (by omega) (by omega) (by omega)
  have hrg := rng_from l (ns.length + 1)
  rw [exL_loop b s ns (ns.length + 1) f l (by omega)]
  unfold lm8
  refine wp_forS nI (fun j ρ => ∃ o8 o9 o10, ρ = lmR b s ns (os ++ ((List.range' l (ns.length + 1 - l)).take j).flatMap fun o => exK b s ns f l o (List.range' (o + 1) (ns.length + 1 - (o + 1)))) (some (.dat, .int (f : Int))) (some (.dat, .int (l : Int))) (some (.dat, csD (partN ns f l))) o8 o9 o10) (List.range' l (ns.length + 1 - l)) (by simp -implicitDefEqProofs only [execSs, execS, seqS, thenS, retS, retNS, retV, mutL, mutD, keepX, ixD2, inD2, itemsOf, seqOf, zipI, enumI, cntV, popK, takeOff, extK, dputS, dct1, dkey, dinD, parK, bindX, ioV, nxK, retIO, callT, newA, evalT, evalX, evalZ, keepB, isDict, Bool.true_or, Bool.or_true, Bool.false_or, Bool.or_false, Bool.true_and, Bool.and_true, Bool.false_and, Bool.and_false, datK, ownK, tgK, appK, evalE, evalK, evalA, evalAnd, evalOr, evalO, evalF, evalI, evalC, keep, keepV, slotVal, lift1, lift2, liftA, consA, callF, notV, andT, orT, ifV, tstB, DD.ifS, DD.forS, compV, seqI, rngI, E.src, sem2, semC, semB, Ty.nm, Cst.d, boolRes, truth_bool, truth_none, truth_int, truth_list, truth_tuple, isi_int, isi_bool, isi_tuple, isi_list, isi_str, addD, subD, mul_int, fdiv_int, mod_int, ltD, leD, gtD, geD, lenD, isNone, negD, tg_one, tg_many, tgs_nil, tgs_cons, flatRoot, okSize, List.getElem?_cons_zero, List.getElem?_cons_succ, List.set_cons_zero, List.set_cons_succ, List.length_cons, List.length_nil, Option.map_some, Option.map_none, Nat.zero_add, if_true, if_false, Bool.not_true, Bool.not_false, reduceCtorEq, or_true, true_or, or_false, false_or, Nat.reduceAdd, Nat.reduceLeDiff, decide_true, decide_false, Bool.false_eq_true, lmR, iL, List.length_map, hrl, hro, hrg]) ⟨o8, o9, o10, by simp⟩ ?_ ?_
  · rintro j o ρ hj ⟨p8, p9, p10, rfl⟩
    have hm := List.mem_of_getElem? hj
    rw [List.mem_range'_1] at hm
    have hjl : j < 11 := by
      have := (List.getElem?_eq_some_iff.mp hj).1
      rw [List.length_range'] at this
      omega
    refine ⟨lmR b s ns (os ++ ((List.range' l (ns.length + 1 - l)).take j).flatMap fun o => exK b s ns f l o (List.range' (o + 1) (ns.length + 1 - (o + 1)))) (some (.dat, .int (f : Int))) (some (.dat, .int (l : Int))) (some (.dat, csD (partN ns f l))) (some (.dat, .int (o : Int))) p9 p10, by simp -implicitDefEqProofs only [execSs, execS, seqS, thenS, retS, retNS, retV, mutL, mutD, keepX, ixD2, inD2, itemsOf, seqOf, zipI, enumI, cntV, popK, takeOff, extK, dputS, dct1, dkey, dinD, parK, bindX, ioV, nxK, retIO, callT, newA, evalT, evalX, evalZ, keepB, isDict, Bool.true_or, Bool.or_true, Bool.false_or, Bool.or_false, Bool.true_and, Bool.and_true, Bool.false_and, Bool.and_false, datK, ownK, tgK, appK, evalE, evalK, evalA, evalAnd, evalOr, evalO, evalF, evalI, evalC, keep, keepV, slotVal, lift1, lift2, liftA, consA, callF, notV, andT, orT, ifV, tstB, DD.ifS, DD.forS, compV, seqI, rngI, E.src, sem2, semC, semB, Ty.nm, Cst.d, boolRes, truth_bool, truth_none, truth_int, truth_list, truth_tuple, isi_int, isi_bool, isi_tuple, isi_list, isi_str, addD, subD, mul_int, fdiv_int, mod_int, ltD, leD, gtD, geD, lenD, isNone, negD, tg_one, tg_many, tgs_nil, tgs_cons, flatRoot, okSize, List.getElem?_cons_zero, List.getElem?_cons_succ, List.set_cons_zero, List.set_cons_succ, List.length_cons, List.length_nil, Option.map_some, Option.map_none, Nat.zero_add, if_true, if_false, Bool.not_true, Bool.not_false, reduceCtorEq, or_true, true_or, or_false, false_or, Nat.reduceAdd, Nat.reduceLeDiff, decide_true, decide_false, Bool.false_eq_true, lmR, nI], ?_⟩
    rw [take_flat _ hj]
    have hfl := flat_few (m := 11) ((List.range' l (ns.length + 1 - l)).take j) (f := fun o => exK b s ns f l o (List.range' (o + 1) (ns.length + 1 - (o + 1)))) fun x _ => exK_few b s ns hl f l x
    rw [List.length_take] at hfl
    generalize ((List.range' l (ns.length + 1 - l)).take j).flatMap (fun o => exK b s ns f l o (List.range' (o + 1) (ns.length + 1 - (o + 1)))) = es at hfl ⊢
    have hes : es.length ≤ 121 := by
      have : min j (List.range' l (ns.length + 1 - l)).length * 11 ≤ 11 * 11 := Nat.mul_le_mul_right 11 (by omega)
      omega
    refine wp_cons ((lm9_sem G b s e ns hp hl fuel mo (os ++ es) f l o h1 hm.1 (by omega) (by rw [List.length_append]; omega) p9 p10).mono (fun ρ h => ?_) (fun _ h => h) (fun _ h => h))
    obtain ⟨p9, p10, rfl⟩ := h
    exact wp_nil ⟨_, p9, p10, by rw [List.append_assoc]⟩
  · rintro ρ ⟨p8, p9, p10, rfl⟩
    rw [List.take_length]
    exact ⟨p8, p9, p10, rfl⟩
omit hp hl in
theorem eq_nilI (xs : List Int) : eqD (.list (xs.map PyData.int)) (.list []) = some (.bool xs.isEmpty) := by
  have h := eq_nice (nice_ints xs) (nice_ints []) (by omega) (by omega)
  rw [eqv_ints] at h
  rw [show ([] : List Int).map PyData.int = [] from rfl] at h
  rw [h]
  cases xs <;> rfl
omit hp in
theorem step_len (f l : Nat) : (rvE b s ns f l ++ exL b s ns (ns.length + 1) f l).length ≤ 122 := by
  have h1 : (rvE b s ns f l).length ≤ 1 := by unfold rvE; split <;> simp
  have h2 : (exL b s ns (ns.length + 1) f l).length ≤ (prs (ns.length + 1)).length := by
    unfold exL
    rw [List.length_map]
    exact List.length_filter_le _ _
  have h3 := prs_len (m := ns.length + 1) (by omega)
  rw [List.length_append]
  omega
include hb in
theorem lm6_sem (os : List (Mv × List Int)) (f : Nat) (h1 : f ≤ ns.length) (hos : os.length ≤ 14400) (o6 o7 o8 o9 o10 : Option (Fl × D)) {T : D → Prop} {E' : Nat → Prop} :
    WP (execS G fuel mo lm6 (lmR b s ns os (some (.dat, .int (f : Int))) o6 o7 o8 o9 o10)) (fun ρ => ∃ o6 o7 o8 o9 o10, ρ = lmR b s ns (os ++ (List.range' (f + 1) (ns.length + 1 - (f + 1))).flatMap fun l => rvE b s ns f l ++ exL b s ns (ns.length + 1) f l) (some (.dat, .int (f : Int))) o6 o7 o8 o9 o10) T E' := by
  have hrl : (rmW b s ns).length = ns.length + 1 := rmW_len hp
  have hro : rngOk ((f : Int) + 1) ((ns.length + 1 : Nat) : Int) = true := rng_ok (by omega) (by omega) (by omega) (by omega) (by omega)
  have hrg := rng_succ f (ns.length + 1)
  unfold lm6
  refine wp_forS nI (fun j ρ => ∃ o6 o7 o8 o9 o10, ρ = lmR b s ns (os ++ ((List.range' (f + 1) (ns.length + 1 - (f + 1))).take j).flatMap fun l => rvE b s ns f l ++ exL b s ns (ns.length + 1) f l) (some (.dat, .int (f : Int))) o6 o7 o8 o9 o10) (List.range' (f + 1) (ns.length + 1 - (f + 1))) (by simp -implicitDefEqProofs only [execSs, execS, seqS, thenS, retS, retNS, retV, mutL, mutD, keepX, ixD2, inD2, itemsOf, seqOf, zipI, enumI, cntV, popK, takeOff, extK, dputS, dct1, dkey, dinD, parK, bindX, ioV, nxK, retIO, callT, newA, evalT, evalX, evalZ, keepB, isDict, Bool.true_or, Bool.or_true, Bool.false_or, Bool.or_false, Bool.true_and, Bool.and_true, Bool.false_and, Bool.and_false, datK, ownK, tgK, appK, evalE, evalK, evalA, evalAnd, evalOr, evalO, evalF, evalI, evalC, keep, keepV, slotVal, lift1, lift2, liftA, consA, callF, notV, andT, orT, ifV, tstB, DD.ifS, DD.forS, compV, seqI, rngI, E.src, sem2, semC, semB, Ty.nm, Cst.d, boolRes, truth_bool, truth_none, truth_int, truth_list, truth_tuple, isi_int, isi_bool, isi_tuple, isi_list, isi_str, addD, subD, mul_int, fdiv_int, mod_int, ltD, leD, gtD, geD, lenD, isNone, negD, tg_one, tg_many, tgs_nil, tgs_cons, flatRoot, okSize, List.getElem?_cons_zero, List.getElem?_cons_succ, List.set_cons_zero, List.set_cons_succ, List.length_cons, List.length_nil, Option.map_some, Option.map_none, Nat.zero_add, if_true, if_false, Bool.not_true, Bool.not_false, reduceCtorEq, or_true, true_or, or_false, false_or, Nat.reduceAdd, Nat.reduceLeDiff, decide_true, decide_false, Bool.false_eq_true, lmR, iL, List.length_map, hrl, hro, hrg]) ⟨o6, o7, o8, o9, o10, by simp⟩ ?_ ?_
  · rintro j l ρ hj ⟨p6, p7, p8, p9, p10, rfl⟩
    have hm := List.mem_of_getElem? hj
    rw [List.mem_range'_1] at hm
    have hjl : j < 11 := by
      have := (List.getElem?_eq_some_iff.mp hj).1
      rw [List.length_range'] at this
      omega
    refine ⟨lmR b s ns (os ++ ((List.range' (f + 1) (ns.length + 1 - (f + 1))).take j).flatMap fun l => rvE b s ns f l ++ exL b s ns (ns.length + 1) f l) (some (.dat, .int (f : Int))) (some (.dat, .int (l : Int))) p7 p8 p9 p10, by simp -implicitDefEqProofs only [execSs, execS, seqS, thenS, retS, retNS, retV, mutL, mutD, keepX, ixD2, inD2, itemsOf, seqOf, zipI, enumI, cntV, popK, takeOff, extK, dputS, dct1, dkey, dinD, parK, bindX, ioV, nxK, retIO, callT, newA, evalT, evalX, evalZ, keepB, isDict, Bool.true_or, Bool.or_true, Bool.false_or, Bool.or_false, Bool.true_and, Bool.and_true, Bool.false_and, Bool.and_false, datK, ownK, tgK, appK, evalE, evalK, evalA, evalAnd, evalOr, evalO, evalF, evalI, evalC, keep, keepV, slotVal, lift1, lift2, liftA, consA, callF, notV, andT, orT, ifV, tstB, DD.ifS, DD.forS, compV, seqI, rngI, E.src, sem2, semC, semB, Ty.nm, Cst.d, boolRes, truth_bool, truth_none, truth_int, truth_list, truth_tuple, isi_int, isi_bool, isi_tuple, isi_list, isi_str, addD, subD, mul_int, fdiv_int, mod_int, ltD, leD, gtD, geD, lenD, isNone, negD, tg_one, tg_many, tgs_nil, tgs_cons, flatRoot, okSize, List.getElem?_cons_zero, List.getElem?_cons_succ, List.set_cons_zero, List.set_cons_succ, List.length_cons, List.length_nil, Option.map_some, Option.map_none, Nat.zero_add, if_true, if_false, Bool.not_true, Bool.not_false, reduceCtorEq, or_true, true_or, or_false, false_or, Nat.reduceAdd, Nat.reduceLeDiff, decide_true, decide_false, Bool.false_eq_true, lmR, nI], ?_⟩
    rw [take_flat _ hj]
    have hfl := flat_few (m := 122) ((List.range' (f + 1) (ns.length + 1 - (f + 1))).take j) (f := fun l => rvE b s ns f l ++ exL b s ns (ns.length + 1) f l) fun x _ => step_len b s ns hl f x
    rw [List.length_take] at hfl
    generalize ((List.range' (f + 1) (ns.length + 1 - (f + 1))).take j).flatMap (fun l => rvE b s ns f l ++ exL b s ns (ns.length + 1) f l) = es at hfl ⊢
    have hes : es.length ≤ 1342 := by
      have : min j (List.range' (f + 1) (ns.length + 1 - (f + 1))).length * 122 ≤ 11 * 122 := Nat.mul_le_mul_right 122 (by omega)
      omega
    have c2 := cutMc ns (i := f) (j := l) (by omega)
    refine wp_step (lmR b s ns (os ++ es) (some (.dat, .int (f : Int))) (some (.dat, .int (l : Int))) (some (.dat, csD (partN ns f l))) p8 p9 p10) (by simp -implicitDefEqProofs only [execSs, execS, seqS, thenS, retS, retNS, retV, mutL, mutD, keepX, ixD2, inD2, itemsOf, seqOf, zipI, enumI, cntV, popK, takeOff, extK, dputS, dct1, dkey, dinD, parK, bindX, ioV, nxK, retIO, callT, newA, evalT, evalX, evalZ, keepB, isDict, Bool.true_or, Bool.or_true, Bool.false_or, Bool.or_false, Bool.true_and, Bool.and_true, Bool.false_and, Bool.and_false, datK, ownK, tgK, appK, evalE, evalK, evalA, evalAnd, evalOr, evalO, evalF, evalI, evalC, keep, keepV, slotVal, lift1, lift2, liftA, consA, callF, notV, andT, orT, ifV, tstB, DD.ifS, DD.forS, compV, seqI, rngI, E.src, sem2, semC, semB, Ty.nm, Cst.d, boolRes, truth_bool, truth_none, truth_int, truth_list, truth_tuple, isi_int, isi_bool, isi_tuple, isi_list, isi_str, addD, subD, mul_int, fdiv_int, mod_int, ltD, leD, gtD, geD, lenD, isNone, negD, tg_one, tg_many, tgs_nil, tgs_cons, flatRoot, okSize, List.getElem?_cons_zero, List.getElem?_cons_succ, List.set_cons_zero, List.set_cons_succ, List.length_cons, List.length_nil, Option.map_some, Option.map_none, Nat.zero_add, if_true, if_false, Bool.not_true, Bool.not_false, reduceCtorEq, or_true, true_or, or_false, false_or, Nat.reduceAdd, Nat.reduceLeDiff, decide_true, decide_false, Bool.false_eq_true, lmR, slcV, partV, c2]) ?_
    have a1 := at_rm hp (f := f) (by omega)
    have a2 := at_rm hp (f := l) (by omega)
    have e1 : (PyData.str "one-way") = .str (kindS false) := rfl
    refine wp_cons ((show WP (execS G fuel mo _ _) (fun ρ => ρ = lmR b s ns ((os ++ es) ++ rvE b s ns f l) (some (.dat, .int (f : Int))) (some (.dat, .int (l : Int))) (some (.dat, csD (partN ns f l))) p8 p9 p10) T E' from wp_if (revB b s ns f l) ?_ (fun hv => ?_) (fun hv => wp_nil ?_)).mono (fun ρ h => ?_) (fun _ h => h) (fun _ h => h))
    · unfold revB
      by_cases q : rmAt b s ns f = rmAt b s ns l
      · have q' := eq_true q
        simp -implicitDefEqProofs only [execSs, execS, seqS, thenS, retS, retNS, retV, mutL, mutD, keepX, ixD2, inD2, itemsOf, seqOf, zipI, enumI, cntV, popK, takeOff, extK, dputS, dct1, dkey, dinD, parK, bindX, ioV, nxK, retIO, callT, newA, evalT, evalX, evalZ, keepB, isDict, Bool.true_or, Bool.or_true, Bool.false_or, Bool.or_false, Bool.true_and, Bool.and_true, Bool.false_and, Bool.and_false, datK, ownK, tgK, appK, evalE, evalK, evalA, evalAnd, evalOr, evalO, evalF, evalI, evalC, keep, keepV, slotVal, lift1, lift2, liftA, consA, callF, notV, andT, orT, ifV, tstB, DD.ifS, DD.forS, compV, seqI, rngI, E.src, sem2, semC, semB, Ty.nm, Cst.d, boolRes, truth_bool, truth_none, truth_int, truth_list, truth_tuple, isi_int, isi_bool, isi_tuple, isi_list, isi_str, addD, subD, mul_int, fdiv_int, mod_int, ltD, leD, gtD, geD, lenD, isNone, negD, tg_one, tg_many, tgs_nil, tgs_cons, flatRoot, okSize, List.getElem?_cons_zero, List.getElem?_cons_succ, List.set_cons_zero, List.set_cons_succ, List.length_cons, List.length_nil, Option.map_some, Option.map_none, Nat.zero_add, if_true, if_false, Bool.not_true, Bool.not_false, reduceCtorEq, or_true, true_or, or_false, false_or, Nat.reduceAdd, Nat.reduceLeDiff, decide_true, decide_false, Bool.false_eq_true, wipeR, List.map_cons, List.map_nil, lmR, iL, ixD, a1, a2, eq_int, q', csD]
        rw [comp_map (fun k : Int => PyData.int k) (fun k => !twoB b k) (fun k => .int k)]
        · simp -implicitDefEqProofs only [execSs, execS, seqS, thenS, retS, retNS, retV, mutL, mutD, keepX, ixD2, inD2, itemsOf, seqOf, zipI, enumI, cntV, popK, takeOff, extK, dputS, dct1, dkey, dinD, parK, bindX, ioV, nxK, retIO, callT, newA, evalT, evalX, evalZ, keepB, isDict, Bool.true_or, Bool.or_true, Bool.false_or, Bool.or_false, Bool.true_and, Bool.and_true, Bool.false_and, Bool.and_false, datK, ownK, tgK, appK, evalE, evalK, evalA, evalAnd, evalOr, evalO, evalF, evalI, evalC, keep, keepV, slotVal, lift1, lift2, liftA, consA, callF, notV, andT, orT, ifV, tstB, DD.ifS, DD.forS, compV, seqI, rngI, E.src, sem2, semC, semB, Ty.nm, Cst.d, boolRes, truth_bool, truth_none, truth_int, truth_list, truth_tuple, isi_int, isi_bool, isi_tuple, isi_list, isi_str, addD, subD, mul_int, fdiv_int, mod_int, ltD, leD, gtD, geD, lenD, isNone, negD, tg_one, tg_many, tgs_nil, tgs_cons, flatRoot, okSize, List.getElem?_cons_zero, List.getElem?_cons_succ, List.set_cons_zero, List.set_cons_succ, List.length_cons, List.length_nil, Option.map_some, Option.map_none, Nat.zero_add, if_true, if_false, Bool.not_true, Bool.not_false, reduceCtorEq, or_true, true_or, or_false, false_or, Nat.reduceAdd, Nat.reduceLeDiff, decide_true, decide_false, Bool.false_eq_true, eq_nilI, all_not]
        · intro k hk
          obtain ⟨x, hx1, hx2⟩ := door_of hp (part_mem hk)
          refine ⟨_, rfl, ?_, fun _ => ?_⟩
          · simp -implicitDefEqProofs only [execSs, execS, seqS, thenS, retS, retNS, retV, mutL, mutD, keepX, ixD2, inD2, itemsOf, seqOf, zipI, enumI, cntV, popK, takeOff, extK, dputS, dct1, dkey, dinD, parK, bindX, ioV, nxK, retIO, callT, newA, evalT, evalX, evalZ, keepB, isDict, Bool.true_or, Bool.or_true, Bool.false_or, Bool.or_false, Bool.true_and, Bool.and_true, Bool.false_and, Bool.and_false, datK, ownK, tgK, appK, evalE, evalK, evalA, evalAnd, evalOr, evalO, evalF, evalI, evalC, keep, keepV, slotVal, lift1, lift2, liftA, consA, callF, notV, andT, orT, ifV, tstB, DD.ifS, DD.forS, compV, seqI, rngI, E.src, sem2, semC, semB, Ty.nm, Cst.d, boolRes, truth_bool, truth_none, truth_int, truth_list, truth_tuple, isi_int, isi_bool, isi_tuple, isi_list, isi_str, addD, subD, mul_int, fdiv_int, mod_int, ltD, leD, gtD, geD, lenD, isNone, negD, tg_one, tg_many, tgs_nil, tgs_cons, flatRoot, okSize, List.getElem?_cons_zero, List.getElem?_cons_succ, List.set_cons_zero, List.set_cons_succ, List.length_cons, List.length_nil, Option.map_some, Option.map_none, Nat.zero_add, if_true, if_false, Bool.not_true, Bool.not_false, reduceCtorEq, or_true, true_or, or_false, false_or, Nat.reduceAdd, Nat.reduceLeDiff, decide_true, decide_false, Bool.false_eq_true, Bld.d, ixD, at_c1, at_c2, hx1, Door.d]
            rw [e1, eq_kind, hx2]
            cases x.two <;> rfl
          · simp -implicitDefEqProofs only [execSs, execS, seqS, thenS, retS, retNS, retV, mutL, mutD, keepX, ixD2, inD2, itemsOf, seqOf, zipI, enumI, cntV, popK, takeOff, extK, dputS, dct1, dkey, dinD, parK, bindX, ioV, nxK, retIO, callT, newA, evalT, evalX, evalZ, keepB, isDict, Bool.true_or, Bool.or_true, Bool.false_or, Bool.or_false, Bool.true_and, Bool.and_true, Bool.false_and, Bool.and_false, datK, ownK, tgK, appK, evalE, evalK, evalA, evalAnd, evalOr, evalO, evalF, evalI, evalC, keep, keepV, slotVal, lift1, lift2, liftA, consA, callF, notV, andT, orT, ifV, tstB, DD.ifS, DD.forS, compV, seqI, rngI, E.src, sem2, semC, semB, Ty.nm, Cst.d, boolRes, truth_bool, truth_none, truth_int, truth_list, truth_tuple, isi_int, isi_bool, isi_tuple, isi_list, isi_str, addD, subD, mul_int, fdiv_int, mod_int, ltD, leD, gtD, geD, lenD, isNone, negD, tg_one, tg_many, tgs_nil, tgs_cons, flatRoot, okSize, List.getElem?_cons_zero, List.getElem?_cons_succ, List.set_cons_zero, List.set_cons_succ, List.length_cons, List.length_nil, Option.map_some, Option.map_none, Nat.zero_add, if_true, if_false, Bool.not_true, Bool.not_false, reduceCtorEq, or_true, true_or, or_false, false_or, Nat.reduceAdd, Nat.reduceLeDiff, decide_true, decide_false, Bool.false_eq_true]
      · have q' := eq_false q
        simp -implicitDefEqProofs only [execSs, execS, seqS, thenS, retS, retNS, retV, mutL, mutD, keepX, ixD2, inD2, itemsOf, seqOf, zipI, enumI, cntV, popK, takeOff, extK, dputS, dct1, dkey, dinD, parK, bindX, ioV, nxK, retIO, callT, newA, evalT, evalX, evalZ, keepB, isDict, Bool.true_or, Bool.or_true, Bool.false_or, Bool.or_false, Bool.true_and, Bool.and_true, Bool.false_and, Bool.and_false, datK, ownK, tgK, appK, evalE, evalK, evalA, evalAnd, evalOr, evalO, evalF, evalI, evalC, keep, keepV, slotVal, lift1, lift2, liftA, consA, callF, notV, andT, orT, ifV, tstB, DD.ifS, DD.forS, compV, seqI, rngI, E.src, sem2, semC, semB, Ty.nm, Cst.d, boolRes, truth_bool, truth_none, truth_int, truth_list, truth_tuple, isi_int, isi_bool, isi_tuple, isi_list, isi_str, addD, subD, mul_int, fdiv_int, mod_int, ltD, leD, gtD, geD, lenD, isNone, negD, tg_one, tg_many, tgs_nil, tgs_cons, flatRoot, okSize, List.getElem?_cons_zero, List.getElem?_cons_succ, List.set_cons_zero, List.set_cons_succ, List.length_cons, List.length_nil, Option.map_some, Option.map_none, Nat.zero_add, if_true, if_false, Bool.not_true, Bool.not_false, reduceCtorEq, or_true, true_or, or_false, false_or, Nat.reduceAdd, Nat.reduceLeDiff, decide_true, decide_false, Bool.false_eq_true, lmR, iL, ixD, a1, a2, eq_int, q']
    · unfold rvE
      rw [if_pos hv]
      have pl := part_len ns
      have tl : ∀ k, (ns.take k).length ≤ ns.length := fun k => by rw [List.length_take]; omega
      have dl : ∀ k, (ns.drop k).length ≤ ns.length := fun k => by rw [List.length_drop]; omega
      have c1 := cutLc ns f
      have c3 := cutHc ns l
      have r1 := rev_cs (partN ns f l)
      have s1 := add_cs (xs := ns.take f) (ys := (partN ns f l).reverse) (by have := pl f l; have := tl f; rw [List.length_reverse]; omega)
      have s2 := add_cs (xs := ns.take f ++ (partN ns f l).reverse) (ys := ns.drop l) (by have := pl f l; have := tl f; have := dl l; rw [List.length_append, List.length_reverse]; omega)
      have hz : (os.length + es.length < 16777216) = True := eq_true (by omega)
      refine wp_step (lmR b s ns ((os ++ es) ++ [((true, [(f : Int), (l : Int)]), revW ns f l)]) (some (.dat, .int (f : Int))) (some (.dat, .int (l : Int))) (some (.dat, csD (partN ns f l))) p8 p9 p10) ?_ (wp_nil rfl)
      simp -implicitDefEqProofs only [execSs, execS, seqS, thenS, retS, retNS, retV, mutL, mutD, keepX, ixD2, inD2, itemsOf, seqOf, zipI, enumI, cntV, popK, takeOff, extK, dputS, dct1, dkey, dinD, parK, bindX, ioV, nxK, retIO, callT, newA, evalT, evalX, evalZ, keepB, isDict, Bool.true_or, Bool.or_true, Bool.false_or, Bool.or_false, Bool.true_and, Bool.and_true, Bool.false_and, Bool.and_false, datK, ownK, tgK, appK, evalE, evalK, evalA, evalAnd, evalOr, evalO, evalF, evalI, evalC, keep, keepV, slotVal, lift1, lift2, liftA, consA, callF, notV, andT, orT, ifV, tstB, DD.ifS, DD.forS, compV, seqI, rngI, E.src, sem2, semC, semB, Ty.nm, Cst.d, boolRes, truth_bool, truth_none, truth_int, truth_list, truth_tuple, isi_int, isi_bool, isi_tuple, isi_list, isi_str, subD, mul_int, fdiv_int, mod_int, ltD, leD, gtD, geD, lenD, isNone, negD, tg_one, tg_many, tgs_nil, tgs_cons, flatRoot, okSize, List.getElem?_cons_zero, List.getElem?_cons_succ, List.set_cons_zero, List.set_cons_succ, List.length_cons, List.length_nil, Option.map_some, Option.map_none, Nat.zero_add, if_true, if_false, Bool.not_true, Bool.not_false, reduceCtorEq, or_true, true_or, or_false, false_or, Nat.reduceAdd, Nat.reduceLeDiff, decide_true, decide_false, Bool.false_eq_true, lmR, slcV, partV, revV, c1, c3, r1, s1, s2, List.length_map, List.length_append, hz, List.map_append, List.map_cons, List.map_nil]
      rfl
    · unfold rvE
      rw [if_neg (by rw [hv]; exact Bool.false_ne_true), List.append_nil]
    · subst h
      have hrv : (rvE b s ns f l).length ≤ 1 := by unfold rvE; split <;> simp
      refine wp_cons ((lm8_sem G b s e ns hp hl fuel mo ((os ++ es) ++ rvE b s ns f l) f l (by omega) (by omega) (by rw [List.length_append, List.length_append]; omega) p8 p9 p10).mono (fun ρ h => ?_) (fun _ h => h) (fun _ h => h))
      obtain ⟨p8, p9, p10, rfl⟩ := h
      exact wp_nil ⟨some (.dat, .int (l : Int)), some (.dat, csD (partN ns f l)), p8, p9, p10, by rw [List.append_assoc, List.append_assoc]⟩
  · rintro ρ ⟨p6, p7, p8, p9, p10, rfl⟩
    rw [List.take_length]
    exact ⟨p6, p7, p8, p9, p10, rfl⟩
end
def LMovesOk (G : Gb) (c : Nat) : Prop := ∀ (b : Bld) (s e : Int) (ns : List Int), b.ok → 0 ≤ s → s < b.R → b.path s ns = some e → ns.length ≤ 10 → G.phi c [b.d, wkD s ns] = some (.ok (.list ((sortP (fnd b s ns)).map pmD)))
theorem lmoves_sem (G : Gb) (c : Nat) (k1 : TraceOk G c) (b : Bld) (hb : b.ok) (s e : Int) (s0 : 0 ≤ s) (s1 : s < b.R) (ns : List Int) (hp : b.path s ns = some e) (hl : ns.length ≤ 10) (fuel : Nat) : runF G fuel true (b_law_moves c) 12 [b.d, wkD s ns] = some (.ok (.list ((sortP (fnd b s ns)).map pmD))) := by
  rw [lm_eq]
  refine run_wp [some (.bor, b.d), some (.bor, wkD s ns), none, none, none, none, none, none, none, none, none, none] rfl ?_
  have g1 := k1 b (wkD s ns) hb
  rw [trace_rooms s0 s1 (by omega) hp] at g1
  have hrl : (rmW b s ns).length = ns.length + 1 := rmW_len hp
  refine wp_step [some (.bor, b.d), some (.bor, wkD s ns), none, none, some (.dat, iL (rmW b s ns)), some (.dat, csD ns), none, none, none, none, none, none] (by simp -implicitDefEqProofs only [execSs, execS, seqS, thenS, retS, retNS, retV, mutL, mutD, keepX, ixD2, inD2, itemsOf, seqOf, zipI, enumI, cntV, popK, takeOff, extK, dputS, dct1, dkey, dinD, parK, bindX, ioV, nxK, retIO, callT, newA, evalT, evalX, evalZ, keepB, isDict, Bool.true_or, Bool.or_true, Bool.false_or, Bool.or_false, Bool.true_and, Bool.and_true, Bool.false_and, Bool.and_false, datK, ownK, tgK, appK, evalE, evalK, evalA, evalAnd, evalOr, evalO, evalF, evalI, evalC, keep, keepV, slotVal, lift1, lift2, liftA, consA, callF, notV, andT, orT, ifV, tstB, DD.ifS, DD.forS, compV, seqI, rngI, E.src, sem2, semC, semB, Ty.nm, Cst.d, boolRes, truth_bool, truth_none, truth_int, truth_list, truth_tuple, isi_int, isi_bool, isi_tuple, isi_list, isi_str, addD, subD, mul_int, fdiv_int, mod_int, ltD, leD, gtD, geD, lenD, isNone, negD, tg_one, tg_many, tgs_nil, tgs_cons, flatRoot, okSize, List.getElem?_cons_zero, List.getElem?_cons_succ, List.set_cons_zero, List.set_cons_succ, List.length_cons, List.length_nil, Option.map_some, Option.map_none, Nat.zero_add, if_true, if_false, Bool.not_true, Bool.not_false, reduceCtorEq, or_true, true_or, or_false, false_or, Nat.reduceAdd, Nat.reduceLeDiff, decide_true, decide_false, Bool.false_eq_true, g1]; unfold wkD; simp -implicitDefEqProofs only [execSs, execS, seqS, thenS, retS, retNS, retV, mutL, mutD, keepX, ixD2, inD2, itemsOf, seqOf, zipI, enumI, cntV, popK, takeOff, extK, dputS, dct1, dkey, dinD, parK, bindX, ioV, nxK, retIO, callT, newA, evalT, evalX, evalZ, keepB, isDict, Bool.true_or, Bool.or_true, Bool.false_or, Bool.or_false, Bool.true_and, Bool.and_true, Bool.false_and, Bool.and_false, datK, ownK, tgK, appK, evalE, evalK, evalA, evalAnd, evalOr, evalO, evalF, evalI, evalC, keep, keepV, slotVal, lift1, lift2, liftA, consA, callF, notV, andT, orT, ifV, tstB, DD.ifS, DD.forS, compV, seqI, rngI, E.src, sem2, semC, semB, Ty.nm, Cst.d, boolRes, truth_bool, truth_none, truth_int, truth_list, truth_tuple, isi_int, isi_bool, isi_tuple, isi_list, isi_str, addD, subD, mul_int, fdiv_int, mod_int, ltD, leD, gtD, geD, lenD, isNone, negD, tg_one, tg_many, tgs_nil, tgs_cons, flatRoot, okSize, List.getElem?_cons_zero, List.getElem?_cons_succ, List.set_cons_zero, List.set_cons_succ, List.length_cons, List.length_nil, Option.map_some, Option.map_none, Nat.zero_add, if_true, if_false, Bool.not_true, Bool.not_false, reduceCtorEq, or_true, true_or, or_false, false_or, Nat.reduceAdd, Nat.reduceLeDiff, decide_true, decide_false, Bool.false_eq_true, ixD, at_c1]) ?_
  refine wp_step (lmR b s ns [] none none none none none none) (by simp -implicitDefEqProofs only [execSs, execS, seqS, thenS, retS, retNS, retV, mutL, mutD, keepX, ixD2, inD2, itemsOf, seqOf, zipI, enumI, cntV, popK, takeOff, extK, dputS, dct1, dkey, dinD, parK, bindX, ioV, nxK, retIO, callT, newA, evalT, evalX, evalZ, keepB, isDict, Bool.true_or, Bool.or_true, Bool.false_or, Bool.or_false, Bool.true_and, Bool.and_true, Bool.false_and, Bool.and_false, datK, ownK, tgK, appK, evalE, evalK, evalA, evalAnd, evalOr, evalO, evalF, evalI, evalC, keep, keepV, slotVal, lift1, lift2, liftA, consA, callF, notV, andT, orT, ifV, tstB, DD.ifS, DD.forS, compV, seqI, rngI, E.src, sem2, semC, semB, Ty.nm, Cst.d, boolRes, truth_bool, truth_none, truth_int, truth_list, truth_tuple, isi_int, isi_bool, isi_tuple, isi_list, isi_str, addD, subD, mul_int, fdiv_int, mod_int, ltD, leD, gtD, geD, lenD, isNone, negD, tg_one, tg_many, tgs_nil, tgs_cons, flatRoot, okSize, List.getElem?_cons_zero, List.getElem?_cons_succ, List.set_cons_zero, List.set_cons_succ, List.length_cons, List.length_nil, Option.map_some, Option.map_none, Nat.zero_add, if_true, if_false, Bool.not_true, Bool.not_false, reduceCtorEq, or_true, true_or, or_false, false_or, Nat.reduceAdd, Nat.reduceLeDiff, decide_true, decide_false, Bool.false_eq_true, lmR, List.map_nil]) ?_
  refine wp_cons ?_
  have hro : rngOk 0 ((ns.length + 1 : Nat) : Int) = true := rng_ok (by omega) (by omega) (by omega) (by omega) (by omega)
  have hrg : rngL 0 ((ns.length + 1 : Nat) : Int) = (List.range (ns.length + 1)).map nI := rng_map (ns.length + 1)
  unfold lm3
  refine wp_forS nI (fun j ρ => ∃ o3 o6 o7 o8 o9 o10, ρ = lmR b s ns (((List.range (ns.length + 1)).take j).flatMap fun f => (List.range' (f + 1) (ns.length + 1 - (f + 1))).flatMap fun l => rvE b s ns f l ++ exL b s ns (ns.length + 1) f l) o3 o6 o7 o8 o9 o10) (List.range (ns.length + 1)) (by simp -implicitDefEqProofs only [execSs, execS, seqS, thenS, retS, retNS, retV, mutL, mutD, keepX, ixD2, inD2, itemsOf, seqOf, zipI, enumI, cntV, popK, takeOff, extK, dputS, dct1, dkey, dinD, parK, bindX, ioV, nxK, retIO, callT, newA, evalT, evalX, evalZ, keepB, isDict, Bool.true_or, Bool.or_true, Bool.false_or, Bool.or_false, Bool.true_and, Bool.and_true, Bool.false_and, Bool.and_false, datK, ownK, tgK, appK, evalE, evalK, evalA, evalAnd, evalOr, evalO, evalF, evalI, evalC, keep, keepV, slotVal, lift1, lift2, liftA, consA, callF, notV, andT, orT, ifV, tstB, DD.ifS, DD.forS, compV, seqI, rngI, E.src, sem2, semC, semB, Ty.nm, Cst.d, boolRes, truth_bool, truth_none, truth_int, truth_list, truth_tuple, isi_int, isi_bool, isi_tuple, isi_list, isi_str, addD, subD, mul_int, fdiv_int, mod_int, ltD, leD, gtD, geD, lenD, isNone, negD, tg_one, tg_many, tgs_nil, tgs_cons, flatRoot, okSize, List.getElem?_cons_zero, List.getElem?_cons_succ, List.set_cons_zero, List.set_cons_succ, List.length_cons, List.length_nil, Option.map_some, Option.map_none, Nat.zero_add, if_true, if_false, Bool.not_true, Bool.not_false, reduceCtorEq, or_true, true_or, or_false, false_or, Nat.reduceAdd, Nat.reduceLeDiff, decide_true, decide_false, Bool.false_eq_true, lmR, iL, List.length_map, hrl, hro, hrg]) ⟨none, none, none, none, none, none, by simp⟩ ?_ ?_
  · rintro j f ρ hj ⟨p3, p6, p7, p8, p9, p10, rfl⟩
    have hm := List.mem_range.mp (List.mem_of_getElem? hj)
    have hjl : j < 11 := by
      have := (List.getElem?_eq_some_iff.mp hj).1
      rw [List.length_range] at this
      omega
    refine ⟨lmR b s ns (((List.range (ns.length + 1)).take j).flatMap fun f => (List.range' (f + 1) (ns.length + 1 - (f + 1))).flatMap fun l => rvE b s ns f l ++ exL b s ns (ns.length + 1) f l) (some (.dat, .int (f : Int))) p6 p7 p8 p9 p10, by simp -implicitDefEqProofs only [execSs, execS, seqS, thenS, retS, retNS, retV, mutL, mutD, keepX, ixD2, inD2, itemsOf, seqOf, zipI, enumI, cntV, popK, takeOff, extK, dputS, dct1, dkey, dinD, parK, bindX, ioV, nxK, retIO, callT, newA, evalT, evalX, evalZ, keepB, isDict, Bool.true_or, Bool.or_true, Bool.false_or, Bool.or_false, Bool.true_and, Bool.and_true, Bool.false_and, Bool.and_false, datK, ownK, tgK, appK, evalE, evalK, evalA, evalAnd, evalOr, evalO, evalF, evalI, evalC, keep, keepV, slotVal, lift1, lift2, liftA, consA, callF, notV, andT, orT, ifV, tstB, DD.ifS, DD.forS, compV, seqI, rngI, E.src, sem2, semC, semB, Ty.nm, Cst.d, boolRes, truth_bool, truth_none, truth_int, truth_list, truth_tuple, isi_int, isi_bool, isi_tuple, isi_list, isi_str, addD, subD, mul_int, fdiv_int, mod_int, ltD, leD, gtD, geD, lenD, isNone, negD, tg_one, tg_many, tgs_nil, tgs_cons, flatRoot, okSize, List.getElem?_cons_zero, List.getElem?_cons_succ, List.set_cons_zero, List.set_cons_succ, List.length_cons, List.length_nil, Option.map_some, Option.map_none, Nat.zero_add, if_true, if_false, Bool.not_true, Bool.not_false, reduceCtorEq, or_true, true_or, or_false, false_or, Nat.reduceAdd, Nat.reduceLeDiff, decide_true, decide_false, Bool.false_eq_true, lmR, nI], ?_⟩
    rw [take_flat _ hj]
    have hfl := flat_few (m := 1342) ((List.range (ns.length + 1)).take j) (f := fun f => (List.range' (f + 1) (ns.length + 1 - (f + 1))).flatMap fun l => rvE b s ns f l ++ exL b s ns (ns.length + 1) f l) fun x _ => by
      have := flat_few (m := 122) (List.range' (x + 1) (ns.length + 1 - (x + 1))) (f := fun l => rvE b s ns x l ++ exL b s ns (ns.length + 1) x l) fun y _ => step_len b s ns hl x y
      rw [List.length_range'] at this
      have h2 : (ns.length + 1 - (x + 1)) * 122 ≤ 11 * 122 := Nat.mul_le_mul_right 122 (by omega)
      omega
    rw [List.length_take, List.length_range] at hfl
    generalize ((List.range (ns.length + 1)).take j).flatMap (fun f => (List.range' (f + 1) (ns.length + 1 - (f + 1))).flatMap fun l => rvE b s ns f l ++ exL b s ns (ns.length + 1) f l) = es at hfl ⊢
    have hes : es.length ≤ 13420 := by
      have : min j (ns.length + 1) * 1342 ≤ 10 * 1342 := Nat.mul_le_mul_right 1342 (by omega)
      omega
    refine wp_cons ((lm6_sem G b hb s e ns hp hl fuel ⟨true, none⟩ es f (by omega) (by omega) p6 p7 p8 p9 p10).mono (fun ρ h => ?_) (fun _ h => h) (fun _ h => h))
    obtain ⟨p6, p7, p8, p9, p10, rfl⟩ := h
    exact wp_nil ⟨_, p6, p7, p8, p9, p10, rfl⟩
  · rintro ρ ⟨p3, p6, p7, p8, p9, p10, rfl⟩
    rw [List.take_length, ← fnd_loop]
    have hs := sort_pm (fnd b s ns)
    simp -implicitDefEqProofs only [execSs, execS, seqS, thenS, retS, retNS, retV, mutL, mutD, keepX, ixD2, inD2, itemsOf, seqOf, zipI, enumI, cntV, popK, takeOff, extK, dputS, dct1, dkey, dinD, parK, bindX, ioV, nxK, retIO, callT, newA, evalT, evalX, evalZ, keepB, isDict, Bool.true_or, Bool.or_true, Bool.false_or, Bool.or_false, Bool.true_and, Bool.and_true, Bool.false_and, Bool.and_false, datK, ownK, tgK, appK, evalE, evalK, evalA, evalAnd, evalOr, evalO, evalF, evalI, evalC, keep, keepV, slotVal, lift1, lift2, liftA, consA, callF, notV, andT, orT, ifV, tstB, DD.ifS, DD.forS, compV, seqI, rngI, E.src, sem2, semC, semB, Ty.nm, Cst.d, boolRes, truth_bool, truth_none, truth_int, truth_list, truth_tuple, isi_int, isi_bool, isi_tuple, isi_list, isi_str, addD, subD, mul_int, fdiv_int, mod_int, ltD, leD, gtD, geD, lenD, isNone, negD, tg_one, tg_many, tgs_nil, tgs_cons, flatRoot, okSize, List.getElem?_cons_zero, List.getElem?_cons_succ, List.set_cons_zero, List.set_cons_succ, List.length_cons, List.length_nil, Option.map_some, Option.map_none, Nat.zero_add, if_true, if_false, Bool.not_true, Bool.not_false, reduceCtorEq, or_true, true_or, or_false, false_or, Nat.reduceAdd, Nat.reduceLeDiff, decide_true, decide_false, Bool.false_eq_true, lmR, hs]
    exact rfl
end
end DD

namespace DD.P12
noncomputable section
open PySem PySem.Spec PyProof.Rows L2 K12
/-! ### the defs at their places -/
abbrev gs (j : Nat) : Gb := gbOf md.gb (ds.take j)
theorem phiK {i j p : Nat} {d : DefX} (h : i < j) (hd : ds[i]? = some d) (hio : d.io = none) (hp : cntF (ds.take i) = p) (hcl : d.cl = false := by rfl) : (gs j).phi p = runF (gs i) d.fuel d.nw d.body d.N.length := phi_at rfl h hd hio hp hcl
theorem cint {j g : Nat} {v : Int} {z : Str} (h : md.csts[g]? = some (z, .int v)) : CInt (gs j) g v := ⟨z, by rw [(gb_same _ md.gb).1]; exact h⟩
theorem cstr {j g : Nat} {v : Str} {z : Str} (h : md.csts[g]? = some (z, .str v)) : ∃ z, (gs j).csts[g]? = some (z, .str v) := ⟨z, by rw [(gb_same _ md.gb).1]; exact h⟩
theorem subK {j : Nat} : (gs j).sub = md.sub := (gb_same _ md.gb).2.2
theorem k_law_cell {j : Nat} (h : 0 < j) : CellOk (gs j) 0 := fun ns k hk => by
  rw [phiK (p := 0) (d := d_law_cell) h rfl rfl rfl]
  exact cell_sem _ ns k hk
theorem k_law_row {j : Nat} (h : 1 < j) : RowOk (gs j) 1 := fun ns a ha => by
  rw [phiK (p := 1) (d := d_law_row) h rfl rfl rfl]
  exact row_sem _ 0 (k_law_cell (by omega)) ns a ha
theorem k_law_building {j : Nat} (h : 2 < j) : BldOk (gs j) 2 := fun ns a mr md ha h1 h2 h3 h4 => by
  rw [phiK (p := 2) (d := d_law_building) h rfl rfl rfl]
  exact bld_sem _ 1 (k_law_row (by omega)) ns a mr md ha h1 h2 h3 h4
theorem k_law_side {j : Nat} (h : 3 < j) : SideOk (gs j) 3 := fun b k x r hx => by
  rw [phiK (p := 3) (d := d_law_side) h rfl rfl rfl]
  exact side_sem _ b k x r hx
theorem k_law_walked {j : Nat} (h : 4 < j) : WalkedOk (gs j) 4 := fun ns a b most ha hb h1 h2 => by
  rw [phiK (p := 4) (d := d_law_walked) h rfl rfl rfl]
  exact walked_sem _ 1 3 (k_law_row (by omega)) (k_law_side (by omega)) ns a b most ha hb h1 h2
theorem k_law_whole {j : Nat} (h : 5 < j) : WholeOk (gs j) 5 := fun v => by
  rw [phiK (p := 5) (d := d_law_whole) h rfl rfl rfl]
  exact whole_sem _ v
theorem k_law_in {j : Nat} (h : 6 < j) : InOk (gs j) 6 := fun v lo hi => by
  rw [phiK (p := 6) (d := d_law_in) h rfl rfl rfl]
  exact in_sem _ 5 (k_law_whole (by omega)) v lo hi
theorem k_law_rooms {j : Nat} (h : 7 < j) : TraceOk (gs j) 7 := fun b v hb => by
  rw [phiK (p := 7) (d := d_law_rooms) h rfl rfl rfl]
  exact rooms_sem _ 6 3 (k_law_in (by omega)) (k_law_side (by omega)) b hb v
theorem k_law_moves {j : Nat} (h : 8 < j) : LMovesOk (gs j) 8 := fun b s e ns hb s0 s1 hp hl => by
  rw [phiK (p := 8) (d := d_law_moves) h rfl rfl rfl]
  exact lmoves_sem _ 7 (k_law_rooms (by omega)) b hb s e s0 s1 ns hp hl _
theorem k_in_range {j : Nat} (h : 9 < j) : InOk (gs j) 9 := fun v lo hi => by
  rw [phiK (p := 9) (d := d_in_range) h rfl rfl rfl]
  exact in_range_sem _ v lo hi
theorem k_is_door {j : Nat} (h : 10 < j) : IsDoorOk (gs j) 10 := fun R x hx => by
  rw [phiK (p := 10) (d := d_is_door) h rfl rfl rfl]
  exact isdoor_sem _ 4 3 9 ⟨cstr rfl, cstr rfl⟩ (k_in_range (by omega)) R x hx
theorem k_is_building {j : Nat} (h : 11 < j) : IsBldOk (gs j) 11 := fun b hb => by
  rw [phiK (p := 11) (d := d_is_building) h rfl rfl rfl]
  exact isbld_sem _ 9 0 1 10 (k_in_range (by omega)) (cint rfl) (cint rfl) (k_is_door (by omega)) b hb
theorem k_check_building {j : Nat} (h : 12 < j) : ChkOk (gs j) 12 := fun b hb => by
  rw [phiK (p := 12) (d := d_check_building) h rfl rfl rfl]
  exact chkbld_sem _ 11 1 (k_is_building (by omega)) b hb
theorem k_other_side {j : Nat} (h : 13 < j) : SideOk (gs j) 13 := fun b k x r hx => by
  rw [phiK (p := 13) (d := d_other_side) h rfl rfl rfl]
  exact oside_sem _ 4 (cstr rfl) b k x r hx
theorem k_trace {j : Nat} (h : 14 < j) : TraceOk (gs j) 14 := fun b v hb => by
  rw [phiK (p := 14) (d := d_trace) h rfl rfl rfl]
  exact trace_sem _ 9 5 13 (k_in_range (by omega)) (cint rfl) (k_other_side (by omega)) b hb v
theorem k_checked_rooms {j : Nat} (h : 15 < j) : CheckedOk (gs j) 15 2 := fun b v hb => by
  rw [phiK (p := 15) (d := d_checked_rooms) h rfl rfl rfl]
  exact checked_sem _ 14 2 (k_trace (by omega)) b hb v
theorem k_may_reverse {j : Nat} (h : 16 < j) : MayR (gs j) 16 := fun b s e ns f l hb hp hf hl => by
  rw [phiK (p := 16) (d := d_may_reverse) h rfl rfl rfl]
  exact mayr_sem _ 4 (cstr rfl) b s e ns f l hb hp hf hl _ _
theorem k_moves_of {j : Nat} (h : 17 < j) : MovesF (gs j) 17 := fun b s e ns hb hp hl => by
  rw [phiK (p := 17) (d := d_moves_of) h rfl rfl rfl]
  exact moves_sem _ 16 (k_may_reverse (by omega)) b hb s e ns hp hl _
theorem k_moves {j : Nat} (h : 18 < j) : MovesM ((gs j).phi 18) 4 2 := by
  rw [phiK (p := 18) (d := d_moves) h rfl rfl rfl]
  exact mvs_sem _ 12 15 6 4 17 2 (k_check_building (by omega)) (k_checked_rooms (by omega)) (cint rfl) (k_moves_of (by omega)) _ _
theorem k_after {j : Nat} (h : 19 < j) : AfterOk (gs j) 19 := fun b s ns x hx hl => by
  rw [phiK (p := 19) (d := d_after) h rfl rfl rfl]
  exact after_sem _ b s ns x hx hl _ _
theorem k_may_exchange {j : Nat} (h : 20 < j) : MayX (gs j) 20 := fun b s e ns f l o q hp hf hl ho hq => by
  rw [phiK (p := 20) (d := d_may_exchange) h rfl rfl rfl]
  exact mayx_sem _ b s e ns f l o q hp hf hl ho hq _ _
theorem k_allowed {j : Nat} (h : 21 < j) : AllowOk (gs j) 21 := fun b s e ns x hb hp hx => by
  rw [phiK (p := 21) (d := d_allowed) h rfl rfl rfl]
  exact allow_sem _ 9 16 20 (k_in_range (by omega)) (k_may_reverse (by omega)) (k_may_exchange (by omega)) b hb s e ns hp x hx _ _
theorem k_moved {j : Nat} (h : 22 < j) : MovedOk (gs j) 22 := fun b s e ns x hb s0 s1 hl hp hx => by
  rw [phiK (p := 22) (d := d_moved) h rfl rfl rfl]
  exact moved_sem _ 12 15 21 3 19 2 (k_check_building (by omega)) (k_checked_rooms (by omega)) (k_allowed (by omega)) (k_after (by omega)) b hb s e s0 s1 ns hl hp x hx _ _
/-! ### the law -/
theorem nice_mv (m : Mv) : Nice 1 (mvD m) := nice_tuple fun x hx => by
  rcases List.mem_cons.mp hx with rfl | hx
  · refine ⟨?_, ?_, ?_⟩
    · cases m.1 <;> kernel_rfl
    · unfold noDict; rfl
    · unfold PyData.depth; exact Nat.le_refl _
  · obtain ⟨i, _, rfl⟩ := List.mem_map.mp hx
    exact nice_int i
theorem nice_wk (s : Int) (w : List Int) : Nice 2 (wkD s w) := nice_tuple fun x hx => by
  simp -implicitDefEqProofs only [List.mem_cons, List.not_mem_nil, or_false] at hx
  rcases hx with rfl | rfl
  · exact (nice_int s).up (by omega)
  · exact nice_intsT w
theorem ne_sameD {k : Nat} {d : D} (h : Nice k d) (hk : k ≤ 60) : neD d d = some (.bool false) := by
  rw [ne_nice h h (by omega) (by omega), eqv_refl' h.dic h.lay]
  rfl
theorem sortI_same {xs ys : List Int} (h : xs.Perm ys) : sortI xs = sortI ys := sortI_eq ((sortI_perm xs).trans h) (sortI_sorted xs)
theorem sort_cs (xs : List Int) : sortedD [csD xs] = some (iL (sortI xs)) := by
  show (match intsOf (xs.map PyData.int) with | some ns => some (PyData.list (sortL (ns.map .int))) | none => none) = _
  rw [intsOf_map]
  dsimp only
  rw [sortL_ints]
  rfl
def twoW : Bld := ⟨2, [⟨0, 1, true⟩]⟩
theorem twoW_ok : twoW.ok := ⟨by decide, by decide, by decide, fun x hx => by
  rw [show twoW.ds = [⟨0, 1, true⟩] from rfl, List.mem_singleton] at hx
  subst hx
  exact ⟨by decide, by decide, by decide, by decide, by decide⟩⟩
theorem m_many : (gs 24).phi 23 [twoW.d, wkD 0 (List.replicate 11 0), .none] = some (.ok (.str "many")) := by
  have g := (k_moves (j := 23) (by omega)).many twoW 0 1 (List.replicate 11 0) twoW_ok (by omega) (by decide) rfl (by decide) (by decide)
  rw [phiK (i := 23) (p := 23) (d := d_law_moved) (by omega) rfl rfl rfl]
  refine run_ret [some (.bor, twoW.d), some (.bor, wkD 0 (List.replicate 11 0)), some (.bor, .none), none] rfl ?_
  simp -implicitDefEqProofs only [b_law_moved, execSs, execS, seqS, thenS, retS, retNS, retV, mutL, mutD, keepX, ixD2, inD2, itemsOf, seqOf, zipI, enumI, cntV, popK, takeOff, extK, dputS, dct1, dkey, dinD, parK, bindX, ioV, nxK, retIO, callT, newA, evalT, evalX, evalZ, keepB, isDict, Bool.true_or, Bool.or_true, Bool.false_or, Bool.or_false, Bool.true_and, Bool.and_true, Bool.false_and, Bool.and_false, datK, ownK, tgK, appK, evalE, evalK, evalA, evalAnd, evalOr, evalO, evalF, evalI, evalC, keep, keepV, slotVal, lift1, lift2, liftA, consA, callF, notV, andT, orT, ifV, tstB, DD.ifS, DD.forS, compV, seqI, rngI, E.src, sem2, semC, semB, Ty.nm, Cst.d, boolRes, truth_bool, truth_none, truth_int, truth_list, truth_tuple, isi_int, isi_bool, isi_tuple, isi_list, isi_str, addD, subD, mul_int, fdiv_int, mod_int, ltD, leD, gtD, geD, lenD, isNone, negD, tg_one, tg_many, tgs_nil, tgs_cons, flatRoot, okSize, List.getElem?_cons_zero, List.getElem?_cons_succ, List.set_cons_zero, List.set_cons_succ, List.length_cons, List.length_nil, Option.map_some, Option.map_none, Nat.zero_add, if_true, if_false, Bool.not_true, Bool.not_false, reduceCtorEq, or_true, true_or, or_false, false_or, Nat.reduceAdd, Nat.reduceLeDiff, decide_true, decide_false, Bool.false_eq_true, tryV, g, subK]
  rfl
theorem m_bad (b : Bld) (hb : b.ok) : (gs 24).phi 23 [b.d, .none, .none] = some (.ok (.str "walk")) := by
  have g := (k_moves (j := 23) (by omega)).bad b .none hb rfl
  rw [phiK (i := 23) (p := 23) (d := d_law_moved) (by omega) rfl rfl rfl]
  refine run_ret [some (.bor, b.d), some (.bor, .none), some (.bor, .none), none] rfl ?_
  simp -implicitDefEqProofs only [b_law_moved, execSs, execS, seqS, thenS, retS, retNS, retV, mutL, mutD, keepX, ixD2, inD2, itemsOf, seqOf, zipI, enumI, cntV, popK, takeOff, extK, dputS, dct1, dkey, dinD, parK, bindX, ioV, nxK, retIO, callT, newA, evalT, evalX, evalZ, keepB, isDict, Bool.true_or, Bool.or_true, Bool.false_or, Bool.or_false, Bool.true_and, Bool.and_true, Bool.false_and, Bool.and_false, datK, ownK, tgK, appK, evalE, evalK, evalA, evalAnd, evalOr, evalO, evalF, evalI, evalC, keep, keepV, slotVal, lift1, lift2, liftA, consA, callF, notV, andT, orT, ifV, tstB, DD.ifS, DD.forS, compV, seqI, rngI, E.src, sem2, semC, semB, Ty.nm, Cst.d, boolRes, truth_bool, truth_none, truth_int, truth_list, truth_tuple, isi_int, isi_bool, isi_tuple, isi_list, isi_str, addD, subD, mul_int, fdiv_int, mod_int, ltD, leD, gtD, geD, lenD, isNone, negD, tg_one, tg_many, tgs_nil, tgs_cons, flatRoot, okSize, List.getElem?_cons_zero, List.getElem?_cons_succ, List.set_cons_zero, List.set_cons_succ, List.length_cons, List.length_nil, Option.map_some, Option.map_none, Nat.zero_add, if_true, if_false, Bool.not_true, Bool.not_false, reduceCtorEq, or_true, true_or, or_false, false_or, Nat.reduceAdd, Nat.reduceLeDiff, decide_true, decide_false, Bool.false_eq_true, tryV, g, subK]
  rfl
theorem eq_many : eqD (.str "many") (.str "many") = some (.bool true) := by kernel_rfl
theorem eq_walk : eqD (.str "walk") (.str "walk") = some (.bool true) := by kernel_rfl
def lvR (ns : List Int) (b : Bld) (s e : Int) (w : List Int) (o3 o4 o8 o9 : Option (Fl × D)) : Rho := [some (.bor, iL ns), some (.dat, b.d), some (.dat, wkD s w), o3, o4, some (.dat, .int s), some (.dat, csD w), some (.dat, .int e), o8, o9]
theorem law_ok (ns : List Int) : runF (gs 24) 0 false (b_law_v15 2 4 8 18 22 7 23) 10 [.list (ns.map .int)] = some (.ok (.bool true)) := by
  refine run_wp [some (.bor, iL ns), none, none, none, none, none, none, none, none, none] rfl ?_
  have hb := (bldN_ok ns 2 4 4 (by omega) (by omega) (by omega) (by omega)).1
  have g1 := k_law_building (j := 24) (by omega) ns 2 4 4 (by omega) (by omega) (by omega) (by omega) (by omega)
  generalize bldN ns 2 4 4 = b at g1 hb
  have r1 := hb.r1
  have g2 := k_law_walked (j := 24) (by omega) ns 3 b 7 (by omega) hb (by omega) (by omega)
  obtain ⟨hp, hl7, _⟩ := wlk_inv ns 3 b 7 (by omega)
  have hs := mod_pos (a := drawn (rowN ns 3) 0) (b := b.R) (by omega)
  have hs0 : 0 ≤ wlkS ns 3 b := hs.1
  have hs1 : wlkS ns 3 b < b.R := hs.2
  have g2' : (gs 24).phi 4 [.list (ns.map .int), .int 3, b.d, .int 7] = some (.ok (.tuple [.int (wlkS ns 3 b), csD (wlkF ns 3 b 7).2.1, .int (wlkF ns 3 b 7).1])) := g2
  clear g2
  generalize wlkS ns 3 b = s at g2' hp hs0 hs1
  generalize (wlkF ns 3 b 7).2.1 = w at g2' hp hl7
  generalize (wlkF ns 3 b 7).1 = e at g2' hp
  have hw : w.length ≤ 10 := by omega
  unfold b_law_v15 b_law_v15_s0
  refine wp_step [some (.bor, iL ns), some (.dat, b.d), none, none, none, none, none, none, none, none] (by simp -implicitDefEqProofs only [execSs, execS, seqS, thenS, retS, retNS, retV, mutL, mutD, keepX, ixD2, inD2, itemsOf, seqOf, zipI, enumI, cntV, popK, takeOff, extK, dputS, dct1, dkey, dinD, parK, bindX, ioV, nxK, retIO, callT, newA, evalT, evalX, evalZ, keepB, isDict, Bool.true_or, Bool.or_true, Bool.false_or, Bool.or_false, Bool.true_and, Bool.and_true, Bool.false_and, Bool.and_false, datK, ownK, tgK, appK, evalE, evalK, evalA, evalAnd, evalOr, evalO, evalF, evalI, evalC, keep, keepV, slotVal, lift1, lift2, liftA, consA, callF, notV, andT, orT, ifV, tstB, DD.ifS, DD.forS, compV, seqI, rngI, E.src, sem2, semC, semB, Ty.nm, Cst.d, boolRes, truth_bool, truth_none, truth_int, truth_list, truth_tuple, isi_int, isi_bool, isi_tuple, isi_list, isi_str, addD, subD, mul_int, fdiv_int, mod_int, ltD, leD, gtD, geD, lenD, isNone, negD, tg_one, tg_many, tgs_nil, tgs_cons, flatRoot, okSize, List.getElem?_cons_zero, List.getElem?_cons_succ, List.set_cons_zero, List.set_cons_succ, List.length_cons, List.length_nil, Option.map_some, Option.map_none, Nat.zero_add, if_true, if_false, Bool.not_true, Bool.not_false, reduceCtorEq, or_true, true_or, or_false, false_or, Nat.reduceAdd, Nat.reduceLeDiff, decide_true, decide_false, Bool.false_eq_true, iL, g1]) ?_
  unfold b_law_v15_s1
  refine wp_step [some (.bor, iL ns), some (.dat, b.d), none, none, none, some (.dat, .int s), some (.dat, csD w), some (.dat, .int e), none, none] (by simp -implicitDefEqProofs only [execSs, execS, seqS, thenS, retS, retNS, retV, mutL, mutD, keepX, ixD2, inD2, itemsOf, seqOf, zipI, enumI, cntV, popK, takeOff, extK, dputS, dct1, dkey, dinD, parK, bindX, ioV, nxK, retIO, callT, newA, evalT, evalX, evalZ, keepB, isDict, Bool.true_or, Bool.or_true, Bool.false_or, Bool.or_false, Bool.true_and, Bool.and_true, Bool.false_and, Bool.and_false, datK, ownK, tgK, appK, evalE, evalK, evalA, evalAnd, evalOr, evalO, evalF, evalI, evalC, keep, keepV, slotVal, lift1, lift2, liftA, consA, callF, notV, andT, orT, ifV, tstB, DD.ifS, DD.forS, compV, seqI, rngI, E.src, sem2, semC, semB, Ty.nm, Cst.d, boolRes, truth_bool, truth_none, truth_int, truth_list, truth_tuple, isi_int, isi_bool, isi_tuple, isi_list, isi_str, addD, subD, mul_int, fdiv_int, mod_int, ltD, leD, gtD, geD, lenD, isNone, negD, tg_one, tg_many, tgs_nil, tgs_cons, flatRoot, okSize, List.getElem?_cons_zero, List.getElem?_cons_succ, List.set_cons_zero, List.set_cons_succ, List.length_cons, List.length_nil, Option.map_some, Option.map_none, Nat.zero_add, if_true, if_false, Bool.not_true, Bool.not_false, reduceCtorEq, or_true, true_or, or_false, false_or, Nat.reduceAdd, Nat.reduceLeDiff, decide_true, decide_false, Bool.false_eq_true, iL, g2']) ?_
  unfold b_law_v15_s2
  refine wp_step (lvR ns b s e w none none none none) (by simp -implicitDefEqProofs only [execSs, execS, seqS, thenS, retS, retNS, retV, mutL, mutD, keepX, ixD2, inD2, itemsOf, seqOf, zipI, enumI, cntV, popK, takeOff, extK, dputS, dct1, dkey, dinD, parK, bindX, ioV, nxK, retIO, callT, newA, evalT, evalX, evalZ, keepB, isDict, Bool.true_or, Bool.or_true, Bool.false_or, Bool.or_false, Bool.true_and, Bool.and_true, Bool.false_and, Bool.and_false, datK, ownK, tgK, appK, evalE, evalK, evalA, evalAnd, evalOr, evalO, evalF, evalI, evalC, keep, keepV, slotVal, lift1, lift2, liftA, consA, callF, notV, andT, orT, ifV, tstB, DD.ifS, DD.forS, compV, seqI, rngI, E.src, sem2, semC, semB, Ty.nm, Cst.d, boolRes, truth_bool, truth_none, truth_int, truth_list, truth_tuple, isi_int, isi_bool, isi_tuple, isi_list, isi_str, addD, subD, mul_int, fdiv_int, mod_int, ltD, leD, gtD, geD, lenD, isNone, negD, tg_one, tg_many, tgs_nil, tgs_cons, flatRoot, okSize, List.getElem?_cons_zero, List.getElem?_cons_succ, List.set_cons_zero, List.set_cons_succ, List.length_cons, List.length_nil, Option.map_some, Option.map_none, Nat.zero_add, if_true, if_false, Bool.not_true, Bool.not_false, reduceCtorEq, or_true, true_or, or_false, false_or, Nat.reduceAdd, Nat.reduceLeDiff, decide_true, decide_false, Bool.false_eq_true, lvR]; rfl) ?_
  have g3 := k_law_moves (j := 24) (by omega) b s e w hb hs0 hs1 hp hw
  unfold b_law_v15_s3
  refine wp_step (lvR ns b s e w (some (.dat, .list ((sortP (fnd b s w)).map pmD))) none none none) (by simp -implicitDefEqProofs only [execSs, execS, seqS, thenS, retS, retNS, retV, mutL, mutD, keepX, ixD2, inD2, itemsOf, seqOf, zipI, enumI, cntV, popK, takeOff, extK, dputS, dct1, dkey, dinD, parK, bindX, ioV, nxK, retIO, callT, newA, evalT, evalX, evalZ, keepB, isDict, Bool.true_or, Bool.or_true, Bool.false_or, Bool.or_false, Bool.true_and, Bool.and_true, Bool.false_and, Bool.and_false, datK, ownK, tgK, appK, evalE, evalK, evalA, evalAnd, evalOr, evalO, evalF, evalI, evalC, keep, keepV, slotVal, lift1, lift2, liftA, consA, callF, notV, andT, orT, ifV, tstB, DD.ifS, DD.forS, compV, seqI, rngI, E.src, sem2, semC, semB, Ty.nm, Cst.d, boolRes, truth_bool, truth_none, truth_int, truth_list, truth_tuple, isi_int, isi_bool, isi_tuple, isi_list, isi_str, addD, subD, mul_int, fdiv_int, mod_int, ltD, leD, gtD, geD, lenD, isNone, negD, tg_one, tg_many, tgs_nil, tgs_cons, flatRoot, okSize, List.getElem?_cons_zero, List.getElem?_cons_succ, List.set_cons_zero, List.set_cons_succ, List.length_cons, List.length_nil, Option.map_some, Option.map_none, Nat.zero_add, if_true, if_false, Bool.not_true, Bool.not_false, reduceCtorEq, or_true, true_or, or_false, false_or, Nat.reduceAdd, Nat.reduceLeDiff, decide_true, decide_false, Bool.false_eq_true, lvR, g3]) ?_
  unfold b_law_v15_s4
  have g4 := (k_moves (j := 24) (by omega)).ok b s e w hb hs0 hs1 hp hw
  rw [← sort_fst, List.map_map] at g4
  refine wp_cons (wp_if false ?_ (fun z => nomatch z) (fun _ => wp_nil ?_))
  · have hne := ne_sameD (k := 2) (d := .list ((sortP (fnd b s w)).map (mvD ∘ fun x => x.1))) (nice_list fun x hx => by
      obtain ⟨p, _, rfl⟩ := List.mem_map.mp hx
      exact nice_mv p.1) (by omega)
    simp -implicitDefEqProofs only [execSs, execS, seqS, thenS, retS, retNS, retV, mutL, mutD, keepX, ixD2, inD2, itemsOf, seqOf, zipI, enumI, cntV, popK, takeOff, extK, dputS, dct1, dkey, dinD, parK, bindX, ioV, nxK, retIO, callT, newA, evalT, evalX, evalZ, keepB, isDict, Bool.true_or, Bool.or_true, Bool.false_or, Bool.or_false, Bool.true_and, Bool.and_true, Bool.false_and, Bool.and_false, datK, ownK, tgK, appK, evalE, evalK, evalA, evalAnd, evalOr, evalO, evalF, evalI, evalC, keep, keepV, slotVal, lift1, lift2, liftA, consA, callF, notV, andT, orT, ifV, tstB, DD.ifS, DD.forS, compV, seqI, rngI, E.src, sem2, semC, semB, Ty.nm, Cst.d, boolRes, truth_bool, truth_none, truth_int, truth_list, truth_tuple, isi_int, isi_bool, isi_tuple, isi_list, isi_str, addD, subD, mul_int, fdiv_int, mod_int, ltD, leD, gtD, geD, lenD, isNone, negD, tg_one, tg_many, tgs_nil, tgs_cons, flatRoot, okSize, List.getElem?_cons_zero, List.getElem?_cons_succ, List.set_cons_zero, List.set_cons_succ, List.length_cons, List.length_nil, Option.map_some, Option.map_none, Nat.zero_add, if_true, if_false, Bool.not_true, Bool.not_false, reduceCtorEq, or_true, true_or, or_false, false_or, Nat.reduceAdd, Nat.reduceLeDiff, decide_true, decide_false, Bool.false_eq_true, wipeR, List.map_cons, List.map_nil, lvR, g4]
    rw [comp_map pmD (fun _ => true) (mvD ∘ fun x => x.1)]
    · simp -implicitDefEqProofs only [execSs, execS, seqS, thenS, retS, retNS, retV, mutL, mutD, keepX, ixD2, inD2, itemsOf, seqOf, zipI, enumI, cntV, popK, takeOff, extK, dputS, dct1, dkey, dinD, parK, bindX, ioV, nxK, retIO, callT, newA, evalT, evalX, evalZ, keepB, isDict, Bool.true_or, Bool.or_true, Bool.false_or, Bool.or_false, Bool.true_and, Bool.and_true, Bool.false_and, Bool.and_false, datK, ownK, tgK, appK, evalE, evalK, evalA, evalAnd, evalOr, evalO, evalF, evalI, evalC, keep, keepV, slotVal, lift1, lift2, liftA, consA, callF, notV, andT, orT, ifV, tstB, DD.ifS, DD.forS, compV, seqI, rngI, E.src, sem2, semC, semB, Ty.nm, Cst.d, boolRes, truth_bool, truth_none, truth_int, truth_list, truth_tuple, isi_int, isi_bool, isi_tuple, isi_list, isi_str, addD, subD, mul_int, fdiv_int, mod_int, ltD, leD, gtD, geD, lenD, isNone, negD, tg_one, tg_many, tgs_nil, tgs_cons, flatRoot, okSize, List.getElem?_cons_zero, List.getElem?_cons_succ, List.set_cons_zero, List.set_cons_succ, List.length_cons, List.length_nil, Option.map_some, Option.map_none, Nat.zero_add, if_true, if_false, Bool.not_true, Bool.not_false, reduceCtorEq, or_true, true_or, or_false, false_or, Nat.reduceAdd, Nat.reduceLeDiff, decide_true, decide_false, Bool.false_eq_true, filter_true, hne]
    · intro p hpm
      refine ⟨_, rfl, rfl, fun _ => ?_⟩
      simp -implicitDefEqProofs only [execSs, execS, seqS, thenS, retS, retNS, retV, mutL, mutD, keepX, ixD2, inD2, itemsOf, seqOf, zipI, enumI, cntV, popK, takeOff, extK, dputS, dct1, dkey, dinD, parK, bindX, ioV, nxK, retIO, callT, newA, evalT, evalX, evalZ, keepB, isDict, Bool.true_or, Bool.or_true, Bool.false_or, Bool.or_false, Bool.true_and, Bool.and_true, Bool.false_and, Bool.and_false, datK, ownK, tgK, appK, evalE, evalK, evalA, evalAnd, evalOr, evalO, evalF, evalI, evalC, keep, keepV, slotVal, lift1, lift2, liftA, consA, callF, notV, andT, orT, ifV, tstB, DD.ifS, DD.forS, compV, seqI, rngI, E.src, sem2, semC, semB, Ty.nm, Cst.d, boolRes, truth_bool, truth_none, truth_int, truth_list, truth_tuple, isi_int, isi_bool, isi_tuple, isi_list, isi_str, addD, subD, mul_int, fdiv_int, mod_int, ltD, leD, gtD, geD, lenD, isNone, negD, tg_one, tg_many, tgs_nil, tgs_cons, flatRoot, okSize, List.getElem?_cons_zero, List.getElem?_cons_succ, List.set_cons_zero, List.set_cons_succ, List.length_cons, List.length_nil, Option.map_some, Option.map_none, Nat.zero_add, if_true, if_false, Bool.not_true, Bool.not_false, reduceCtorEq, or_true, true_or, or_false, false_or, Nat.reduceAdd, Nat.reduceLeDiff, decide_true, decide_false, Bool.false_eq_true]
      rfl
  unfold b_law_v15_s5
  refine wp_cons ?_
  refine wp_forS pmD (fun _ ρ => ∃ o8 o9, ρ = lvR ns b s e w (some (.dat, .list ((sortP (fnd b s w)).map pmD))) none o8 o9) (sortP (fnd b s w)) (by simp -implicitDefEqProofs only [execSs, execS, seqS, thenS, retS, retNS, retV, mutL, mutD, keepX, ixD2, inD2, itemsOf, seqOf, zipI, enumI, cntV, popK, takeOff, extK, dputS, dct1, dkey, dinD, parK, bindX, ioV, nxK, retIO, callT, newA, evalT, evalX, evalZ, keepB, isDict, Bool.true_or, Bool.or_true, Bool.false_or, Bool.or_false, Bool.true_and, Bool.and_true, Bool.false_and, Bool.and_false, datK, ownK, tgK, appK, evalE, evalK, evalA, evalAnd, evalOr, evalO, evalF, evalI, evalC, keep, keepV, slotVal, lift1, lift2, liftA, consA, callF, notV, andT, orT, ifV, tstB, DD.ifS, DD.forS, compV, seqI, rngI, E.src, sem2, semC, semB, Ty.nm, Cst.d, boolRes, truth_bool, truth_none, truth_int, truth_list, truth_tuple, isi_int, isi_bool, isi_tuple, isi_list, isi_str, addD, subD, mul_int, fdiv_int, mod_int, ltD, leD, gtD, geD, lenD, isNone, negD, tg_one, tg_many, tgs_nil, tgs_cons, flatRoot, okSize, List.getElem?_cons_zero, List.getElem?_cons_succ, List.set_cons_zero, List.set_cons_succ, List.length_cons, List.length_nil, Option.map_some, Option.map_none, Nat.zero_add, if_true, if_false, Bool.not_true, Bool.not_false, reduceCtorEq, or_true, true_or, or_false, false_or, Nat.reduceAdd, Nat.reduceLeDiff, decide_true, decide_false, Bool.false_eq_true, lvR]) ⟨none, none, rfl⟩ ?_ ?_
  · rintro k p ρ hk ⟨o8, o9, rfl⟩
    have hx : MvOk b s w p := mem_fnd.mp ((List.mergeSort_perm (fnd b s w) _).mem_iff.mp (List.mem_of_getElem? hk))
    obtain ⟨hp2, hperm⟩ := hx.walk hb hp
    refine ⟨lvR ns b s e w (some (.dat, .list ((sortP (fnd b s w)).map pmD))) none (some (.dat, mvD p.1)) (some (.dat, csD p.2)), by simp -implicitDefEqProofs only [execSs, execS, seqS, thenS, retS, retNS, retV, mutL, mutD, keepX, ixD2, inD2, itemsOf, seqOf, zipI, enumI, cntV, popK, takeOff, extK, dputS, dct1, dkey, dinD, parK, bindX, ioV, nxK, retIO, callT, newA, evalT, evalX, evalZ, keepB, isDict, Bool.true_or, Bool.or_true, Bool.false_or, Bool.or_false, Bool.true_and, Bool.and_true, Bool.false_and, Bool.and_false, datK, ownK, tgK, appK, evalE, evalK, evalA, evalAnd, evalOr, evalO, evalF, evalI, evalC, keep, keepV, slotVal, lift1, lift2, liftA, consA, callF, notV, andT, orT, ifV, tstB, DD.ifS, DD.forS, compV, seqI, rngI, E.src, sem2, semC, semB, Ty.nm, Cst.d, boolRes, truth_bool, truth_none, truth_int, truth_list, truth_tuple, isi_int, isi_bool, isi_tuple, isi_list, isi_str, addD, subD, mul_int, fdiv_int, mod_int, ltD, leD, gtD, geD, lenD, isNone, negD, tg_one, tg_many, tgs_nil, tgs_cons, flatRoot, okSize, List.getElem?_cons_zero, List.getElem?_cons_succ, List.set_cons_zero, List.set_cons_succ, List.length_cons, List.length_nil, Option.map_some, Option.map_none, Nat.zero_add, if_true, if_false, Bool.not_true, Bool.not_false, reduceCtorEq, or_true, true_or, or_false, false_or, Nat.reduceAdd, Nat.reduceLeDiff, decide_true, decide_false, Bool.false_eq_true, lvR, pmD], ?_⟩
    have g5 := k_moved (j := 24) (by omega) b s e w p hb hs0 hs1 (by omega) hp hx
    have hne := ne_sameD (nice_wk s p.2) (by omega)
    have hwk : wkD s p.2 = .tuple [.int s, csD p.2] := rfl
    refine wp_cons (wp_if false ?_ (fun z => nomatch z) (fun _ => wp_nil ?_))
    · simp -implicitDefEqProofs only [execSs, execS, seqS, thenS, retS, retNS, retV, mutL, mutD, keepX, ixD2, inD2, itemsOf, seqOf, zipI, enumI, cntV, popK, takeOff, extK, dputS, dct1, dkey, dinD, parK, bindX, ioV, nxK, retIO, callT, newA, evalT, evalX, evalZ, keepB, isDict, Bool.true_or, Bool.or_true, Bool.false_or, Bool.or_false, Bool.true_and, Bool.and_true, Bool.false_and, Bool.and_false, datK, ownK, tgK, appK, evalE, evalK, evalA, evalAnd, evalOr, evalO, evalF, evalI, evalC, keep, keepV, slotVal, lift1, lift2, liftA, consA, callF, notV, andT, orT, ifV, tstB, DD.ifS, DD.forS, compV, seqI, rngI, E.src, sem2, semC, semB, Ty.nm, Cst.d, boolRes, truth_bool, truth_none, truth_int, truth_list, truth_tuple, isi_int, isi_bool, isi_tuple, isi_list, isi_str, addD, subD, mul_int, fdiv_int, mod_int, ltD, leD, gtD, geD, lenD, isNone, negD, tg_one, tg_many, tgs_nil, tgs_cons, flatRoot, okSize, List.getElem?_cons_zero, List.getElem?_cons_succ, List.set_cons_zero, List.set_cons_succ, List.length_cons, List.length_nil, Option.map_some, Option.map_none, Nat.zero_add, if_true, if_false, Bool.not_true, Bool.not_false, reduceCtorEq, or_true, true_or, or_false, false_or, Nat.reduceAdd, Nat.reduceLeDiff, decide_true, decide_false, Bool.false_eq_true, lvR, g5]
      rw [← hwk, hne]
      rfl
    have hlen := hperm.length_eq
    obtain ⟨gs', t1, t2⟩ := trace_walk hs0 hs1 (by omega : p.2.length ≤ 72) hp2
    have g6 := k_law_rooms (j := 24) (by omega) b (.tuple [.int s, csD p.2]) hb
    rw [t1] at g6
    have hne2 := ne_ints (sortI w) (sortI w)
    rw [decide_eq_true rfl] at hne2
    have hla := at_last (fs := s :: gs') (by simp)
    rw [t2] at hla
    have sc1 := sort_cs p.2
    rw [sortI_same hperm] at sc1
    have sc2 := sort_cs w
    refine wp_cons (wp_if false ?_ (fun z => nomatch z) (fun _ => wp_nil (wp_nil ⟨_, _, rfl⟩)))
    have hee : (e = e) = True := eq_true rfl
    simp -implicitDefEqProofs only [execSs, execS, seqS, thenS, retS, retNS, retV, mutL, mutD, keepX, ixD2, inD2, itemsOf, seqOf, zipI, enumI, cntV, popK, takeOff, extK, dputS, dct1, dkey, dinD, parK, bindX, ioV, nxK, retIO, callT, newA, evalT, evalX, evalZ, keepB, isDict, Bool.true_or, Bool.or_true, Bool.false_or, Bool.or_false, Bool.true_and, Bool.and_true, Bool.false_and, Bool.and_false, datK, ownK, tgK, appK, evalE, evalK, evalA, evalAnd, evalOr, evalO, evalF, evalI, evalC, keep, keepV, slotVal, lift1, lift2, liftA, consA, callF, notV, andT, orT, ifV, tstB, DD.ifS, DD.forS, compV, seqI, rngI, E.src, sem2, semC, semB, Ty.nm, Cst.d, boolRes, truth_bool, truth_none, truth_int, truth_list, truth_tuple, isi_int, isi_bool, isi_tuple, isi_list, isi_str, addD, subD, mul_int, fdiv_int, mod_int, ltD, leD, gtD, geD, lenD, isNone, negD, tg_one, tg_many, tgs_nil, tgs_cons, flatRoot, okSize, List.getElem?_cons_zero, List.getElem?_cons_succ, List.set_cons_zero, List.set_cons_succ, List.length_cons, List.length_nil, Option.map_some, Option.map_none, Nat.zero_add, if_true, if_false, Bool.not_true, Bool.not_false, reduceCtorEq, or_true, true_or, or_false, false_or, Nat.reduceAdd, Nat.reduceLeDiff, decide_true, decide_false, Bool.false_eq_true, lvR, sc1, sc2, iL, hne2, g6, ixD, hla, ne_int, hee]
  · rintro ρ ⟨o8, o9, rfl⟩
    unfold b_law_v15_s6
    refine wp_step (lvR ns b s e w (some (.dat, .list ((sortP (fnd b s w)).map pmD))) (some (.dat, twoW.d)) o8 o9) (by simp -implicitDefEqProofs only [execSs, execS, seqS, thenS, retS, retNS, retV, mutL, mutD, keepX, ixD2, inD2, itemsOf, seqOf, zipI, enumI, cntV, popK, takeOff, extK, dputS, dct1, dkey, dinD, parK, bindX, ioV, nxK, retIO, callT, newA, evalT, evalX, evalZ, keepB, isDict, Bool.true_or, Bool.or_true, Bool.false_or, Bool.or_false, Bool.true_and, Bool.and_true, Bool.false_and, Bool.and_false, datK, ownK, tgK, appK, evalE, evalK, evalA, evalAnd, evalOr, evalO, evalF, evalI, evalC, keep, keepV, slotVal, lift1, lift2, liftA, consA, callF, notV, andT, orT, ifV, tstB, DD.ifS, DD.forS, compV, seqI, rngI, E.src, sem2, semC, semB, Ty.nm, Cst.d, boolRes, truth_bool, truth_none, truth_int, truth_list, truth_tuple, isi_int, isi_bool, isi_tuple, isi_list, isi_str, addD, subD, mul_int, fdiv_int, mod_int, ltD, leD, gtD, geD, lenD, isNone, negD, tg_one, tg_many, tgs_nil, tgs_cons, flatRoot, okSize, List.getElem?_cons_zero, List.getElem?_cons_succ, List.set_cons_zero, List.set_cons_succ, List.length_cons, List.length_nil, Option.map_some, Option.map_none, Nat.zero_add, if_true, if_false, Bool.not_true, Bool.not_false, reduceCtorEq, or_true, true_or, or_false, false_or, Nat.reduceAdd, Nat.reduceLeDiff, decide_true, decide_false, Bool.false_eq_true, lvR]; rfl) ?_
    unfold b_law_v15_s7
    have h11 : mulD (.tuple [.int 0]) (.int 11) = some (csD (List.replicate 11 0)) := rfl
    have gm := m_many
    unfold wkD at gm
    have gb := m_bad b hb
    simp -implicitDefEqProofs only [execSs, execS, seqS, thenS, retS, retNS, retV, mutL, mutD, keepX, ixD2, inD2, itemsOf, seqOf, zipI, enumI, cntV, popK, takeOff, extK, dputS, dct1, dkey, dinD, parK, bindX, ioV, nxK, retIO, callT, newA, evalT, evalX, evalZ, keepB, isDict, Bool.true_or, Bool.or_true, Bool.false_or, Bool.or_false, Bool.true_and, Bool.and_true, Bool.false_and, Bool.and_false, datK, ownK, tgK, appK, evalE, evalK, evalA, evalAnd, evalOr, evalO, evalF, evalI, evalC, keep, keepV, slotVal, lift1, lift2, liftA, consA, callF, notV, andT, orT, ifV, tstB, DD.ifS, DD.forS, compV, seqI, rngI, E.src, sem2, semC, semB, Ty.nm, Cst.d, boolRes, truth_bool, truth_none, truth_int, truth_list, truth_tuple, isi_int, isi_bool, isi_tuple, isi_list, isi_str, addD, subD, mul_int, fdiv_int, mod_int, ltD, leD, gtD, geD, lenD, isNone, negD, tg_one, tg_many, tgs_nil, tgs_cons, flatRoot, okSize, List.getElem?_cons_zero, List.getElem?_cons_succ, List.set_cons_zero, List.set_cons_succ, List.length_cons, List.length_nil, Option.map_some, Option.map_none, Nat.zero_add, if_true, if_false, Bool.not_true, Bool.not_false, reduceCtorEq, or_true, true_or, or_false, false_or, Nat.reduceAdd, Nat.reduceLeDiff, decide_true, decide_false, Bool.false_eq_true, lvR, h11, gm, gb, eq_many, eq_walk]
    exact rfl
end
end DD.P12
theorem PySem.Challenge.cw_doorcounters_k12_moves_holds : PySem.Challenge.rw_doorcounters_k12_moves.Holds := by
  exact K12.holds_of (fun ns _ => DD.P12.law_ok ns)
